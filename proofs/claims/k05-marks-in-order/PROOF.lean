import PyProof.Rows.All
import PySem.PyData
import PyProof.P3Statements
import HandS.List
import HandS.Text
import Wide.All
import OpenK.AllK
import Wide.FinOn
import HandS.Set
import HandS.SetBool
import HandS.SetKeys
import HandS.SetIn
import HandS.SetFor
import HandS.Strs
import PyProof.Rows.SortShellAny
import HandS.Comp
import HandS.ForMost
import HandS.ForExc
import HandS.CallSlots
import HandS.Deep
import HandS.IsInst
import HandS.RaiseMore
import HandS.Style
import HandS.Flow
import HandS.TupAny
import HandS.Star
import KE.KExcSuper
import HandS.ExcInit
import HandS.ExcIs
import KE.KExcIs
import HandS.RaiseFrom
import HandS.ExcValue
import PyProof.RulesMatchSeq
import HandS.Property
import OpenK.KMeth
import HandS.SlotsOwn
import HandS.TupSets
import HandS.DictComp
import PyProof.SeqIndex
import HandS.DeepEq
import HandS.More
import HandS.TryOnly
import HandS.FStr
import KE.KxField
import PyProof.FString3
import HandS.ReplaceLit
import HandS.ClsMeth
import PySem.Challenge.RW_letforget_k05_marks_in_order
set_option Elab.async false
set_option linter.all false
set_option maxRecDepth 100000
/-! A1: a small language of values as trees, its flows and its words (no heap, no program in sight). -/
namespace S3
open PySem

abbrev Key := Sum Int Str

def kIn (k : Key) (xs : List Key) : Bool := xs.any fun j => decide (j = k)
/-- values as trees -/
inductive D where
  | non | bl (b : Bool) | int (i : Int) | str (x : Str)
  | lst (xs : List D) | tup (xs : List D)
  | dk (kvs : List (Key × D)) | dt (kvs : List (List Key × D))
  | st (xs : List Key)
  | obj (c : Str) (fs : List (Str × D))
  | scr (xs : List D)
  | kt (xs : List D)
  | xn (c : Str) (fs : List (Str × D))

/-- a slot: without a value; frozen; owned; lent to be read; lent to be changed -/
inductive Sl where
  | no | fz (d : D) | ow (d : D) | bo (d : D) | mu (d : D)
abbrev Env := List Sl
/-- what an expression gives: a frozen value, a new object, the object that stands at a slot -/
inductive RV where
  | fz (d : D) | nw (d : D) | at (i : Nat)
/-- an exception: its class, its fields -/
structure Exn where
  c : Str
  fs : List (Str × D)
inductive RE where
  | ok (r : RV) (e : Env) | ex (x : Exn) (e : Env) | no
inductive RT where
  | ok (b : Bool) (e : Env) | ex (x : Exn) (e : Env) | no
inductive RA where
  | ok (rs : List RV) (e : Env) | ex (x : Exn) (e : Env) | no
inductive RS where
  | nx (e : Env) | rt (r : RV) (e : Env) | bk (e : Env) | ct (e : Env) | ex (x : Exn) (e : Env) | no
/-- a call's end: is the value new; the value; the lent parameters' values behind it -/
inductive RC where
  | ok (n : Bool) (d : D) (outs : List D) | ex (x : Exn) (outs : List D) | no
inductive Md where
  | v | r | m
abbrev EV := Env → RE
abbrev TV := Env → RT
abbrev AV := Env → RA
abbrev SV := Env → RS

def Sl.val : Sl → Option D
  | .no => none | .fz d => some d | .ow d => some d | .bo d => some d | .mu d => some d
def slot (e : Env) (i : Nat) : Sl := e.getD i .no
/-- to be read -/
def rd : RV → Env → Option D
  | .fz d, _ => some d
  | .nw d, _ => some d
  | .at i, e => (slot e i).val
/-- to be kept: frozen -/
def stl : RV → Env → Option (D × Env)
  | .fz d, e => some (d, e)
  | .nw d, e => some (d, e)
  | .at i, e => match slot e i with
    | .fz d => some (d, e)
    | .ow d => some (d, e.set i (.fz d))
    | _ => none

/-! ### expressions -/
def eBind (f : EV) (k : RV → EV) : EV := fun e => match f e with
  | .ok r e1 => k r e1
  | .ex x e1 => .ex x e1
  | .no => .no
def eC (d : D) : EV := fun e => .ok (.fz d) e
def eSlot (i : Nat) : EV := fun e => match slot e i with
  | .no => .no
  | .fz d => .ok (.fz d) e
  | _ => .ok (.at i) e
def ofOp (o : Option RV) (e : Env) : RE := match o with
  | some r => .ok r e
  | none => .no
/-- one value read -/
def eOp1 (op : D → Option RV) (f : EV) : EV := eBind f fun r e => match rd r e with
  | some x => ofOp (op x) e
  | none => .no
/-- two values read -/
def eOp2 (op : D → D → Option RV) (f g : EV) : EV := eBind f fun r => eBind g fun q e => match rd r e, rd q e with
  | some x, some y => ofOp (op x y) e
  | _, _ => .no
def eOp3 (op : D → D → D → Option RV) (f g h : EV) : EV := eBind f fun r => eBind g fun q => eBind h fun p e => match rd r e, rd q e, rd p e with
  | some x, some y, some z => ofOp (op x y z) e
  | _, _, _ => .no

/-- an int, known as it comes -/
def eI (f : EV) : EV := eBind f fun r e => match r with
  | .fz (.int i) => .ok (.fz (.int i)) e
  | _ => .no
/-! arguments: from the left; kept values are frozen as they come -/
def aNil : AV := fun e => .ok [] e
def aCons (f : EV) (g : AV) : AV := fun e => match f e with
  | .ok r e1 => (match g e1 with
    | .ok rs e2 => .ok (r :: rs) e2
    | .ex x e2 => .ex x e2
    | .no => .no)
  | .ex x e1 => .ex x e1
  | .no => .no
/-- kept -/
def aKeep (f : EV) (g : AV) : AV := fun e => match f e with
  | .ok r e1 => (match stl r e1 with
    | some (d, e1') => (match g e1' with
      | .ok rs e2 => .ok (.fz d :: rs) e2
      | .ex x e2 => .ex x e2
      | .no => .no)
    | none => .no)
  | .ex x e1 => .ex x e1
  | .no => .no
def fzs : List RV → Option (List D)
  | [] => some []
  | .fz d :: r => (fzs r).map (d :: ·)
  | _ :: _ => none
/-- a display: all items kept -/
def eDisp (mk : List D → RV) (a : AV) : EV := fun e => match a e with
  | .ok rs e1 => (match fzs rs with
    | some ds => if ds.length ≤ 16777216 then .ok (mk ds) e1 else .no
    | none => .no)
  | .ex x e1 => .ex x e1
  | .no => .no

/-! calls -/
/-- the arguments' values by the parameters' modes -/
def argD : List Md → List RV → Env → Option (List D)
  | [], [], _ => some []
  | .v :: ms, .fz d :: rs, e => (argD ms rs e).map (d :: ·)
  | .r :: ms, r :: rs, e => (match rd r e with
    | some d => (argD ms rs e).map (d :: ·)
    | none => none)
  | .m :: ms, .at i :: rs, e => (match slot e i with
    | .ow d => (argD ms rs e).map (d :: ·)
    | .mu d => (argD ms rs e).map (d :: ·)
    | _ => none)
  | _, _, _ => none
/-- the places of the changed ones; all places that are handed on -/
def mutIx : List Md → List RV → List Nat
  | .m :: ms, .at i :: rs => i :: mutIx ms rs
  | _ :: ms, _ :: rs => mutIx ms rs
  | _, _ => []
def atIx : List RV → List Nat
  | .at i :: rs => i :: atIx rs
  | _ :: rs => atIx rs
  | [] => []
/-- no changed place is handed on twice -/
def apart (ms : List Md) (rs : List RV) : Bool := (mutIx ms rs).all fun i => (atIx rs).count i == 1
/-- the changed ones written back -/
def wback : List Nat → List D → Env → Option Env
  | [], [], e => some e
  | i :: is, d :: ds, e => (match slot e i with
    | .ow _ => wback is ds (e.set i (.ow d))
    | .mu _ => wback is ds (e.set i (.mu d))
    | _ => none)
  | _, _, _ => none
def rv (n : Bool) (d : D) : RV := if n then .nw d else .fz d
def eCall (phi : List D → RC) (ms : List Md) (a : AV) : EV := fun e => match a e with
  | .ok rs e1 => (match argD ms rs e1 with
    | some ds => if apart ms rs then (match phi ds with
        | .ok n d outs => (match wback (mutIx ms rs) outs e1 with
          | some e2 => .ok (rv n d) e2
          | none => .no)
        | .ex x outs => (match wback (mutIx ms rs) outs e1 with
          | some e2 => .ex x e2
          | none => .no)
        | .no => .no)
      else .no
    | none => .no)
  | .ex x e1 => .ex x e1
  | .no => .no
def isLst : D → Bool
  | .lst _ => true | _ => false
def isDct : D → Bool
  | .dk _ => true | .dt _ => true | _ => false
def isSet : D → Bool
  | .st _ => true | _ => false
def mine (k : D → Bool) : Sl → Bool
  | .ow d => k d | .mu d => k d | _ => false
def reown (s : Sl) (d : D) : Sl := match s with
  | .mu _ => .mu d | _ => .ow d
/-- a call that changes the object at a slot: x.append(..); k: its kind -/
def eMut (i : Nat) (k : D → Bool) (op : D → List D → Option (D × RV)) (a : AV) : EV := fun e => if mine k (slot e i) then (match a e with
  | .ok rs e1 => (match fzs rs with
    | some ds => if mine k (slot e1 i) then (match (slot e1 i).val with
      | some d => (match op d ds with
        | some (d', r) => .ok r (e1.set i (reown (slot e1 i) d'))
        | none => .no)
      | none => .no) else .no
    | none => .no)
  | .ex x e1 => .ex x e1
  | .no => .no) else .no

/-! truth, and, or, not -/
def truth : D → Option Bool
  | .non => some false
  | .bl b => some b
  | .int i => some (i != 0)
  | .str x => some (x.length != 0)
  | .lst xs => some (!xs.isEmpty)
  | .tup xs => some (!xs.isEmpty)
  | _ => none
def asBool : D → Option Bool
  | .bl b => some b
  | _ => none
def tRd (p : D → Option Bool) (f : EV) : TV := fun e => match f e with
  | .ok r e1 => (match rd r e1 with
    | some d => (match p d with
      | some b => .ok b e1
      | none => .no)
    | none => .no)
  | .ex x e1 => .ex x e1
  | .no => .no
/-- an expression that gives True or False; any value by its truth -/
def tVal : EV → TV := tRd asBool
def tTru : EV → TV := tRd truth
def tAndS (f g : TV) : TV := fun e => match f e with
  | .ok true e1 => g e1
  | r => r
def tOrS (f g : TV) : TV := fun e => match f e with
  | .ok false e1 => g e1
  | r => r
def tNotS (f : TV) : TV := fun e => match f e with
  | .ok b e1 => .ok (!b) e1
  | r => r
def eIf (c : TV) (f g : EV) : EV := fun e => match c e with
  | .ok true e1 => f e1
  | .ok false e1 => g e1
  | .ex x e1 => .ex x e1
  | .no => .no
/-- x and y, x or y as values -/
def eAnd (f g : EV) : EV := eBind f fun r e => match rd r e with
  | some d => (match truth d with
    | some true => g e
    | some false => .ok r e
    | none => .no)
  | none => .no
def eOr (f g : EV) : EV := eBind f fun r e => match rd r e with
  | some d => (match truth d with
    | some true => .ok r e
    | some false => g e
    | none => .no)
  | none => .no
def eNot (f : EV) : EV := eOp1 (fun d => (truth d).map fun b => .fz (.bl (!b))) f

/-! ### statements -/
def sBind (f : SV) (k : SV) : SV := fun e => match f e with
  | .nx e1 => k e1
  | r => r
def sNx : SV := fun e => .nx e
def sSeq (f g : SV) : SV := sBind f g
def sE (f : EV) (k : RV → SV) : SV := fun e => match f e with
  | .ok r e1 => k r e1
  | .ex x e1 => .ex x e1
  | .no => .no
def sExpr (f : EV) : SV := sE f fun _ e => .nx e
/-- handed back: a new object, or one of one's own, or a frozen value -/
def ret (r : RV) (e : Env) : RS := match r with
  | .fz d => .rt (.fz d) e
  | .nw d => .rt (.nw d) e
  | .at i => (match slot e i with
    | .fz d => .rt (.fz d) e
    | .ow d => .rt (.nw d) (e.set i .no)
    | _ => .no)
def sRet (f : EV) : SV := sE f ret
def sRetN : SV := fun e => .rt (.fz .non) e
def sBk : SV := fun e => .bk e
def sCt : SV := fun e => .ct e
def sIf (c : TV) (f g : SV) : SV := fun e => match c e with
  | .ok true e1 => f e1
  | .ok false e1 => g e1
  | .ex x e1 => .ex x e1
  | .no => .no
/-- name = value: a new object is owned -/
def setS (i : Nat) (r : RV) (e : Env) : Option Env := match r with
  | .fz d => some (e.set i (.fz d))
  | .nw d => some (e.set i (.ow d))
  | .at _ => (stl r e).map fun p => p.2.set i (.fz p.1)
def sSet (i : Nat) (f : EV) : SV := sE f fun r e => match setS i r e with
  | some e1 => .nx e1
  | none => .no
/-- names = the items of a frozen tuple -/
def setAll : List Nat → List D → Env → Option Env
  | [], [], e => some e
  | i :: is, d :: ds, e => setAll is ds (e.set i (.fz d))
  | _, _, _ => none
/-- a loop's target: a name; names -/
inductive Tg where
  | one (i : Nat) | tup (is : List Nat)
def tgt : Tg → D → Env → Option Env
  | .one i, d, e => some (e.set i (.fz d))
  | .tup is, .tup ds, e => setAll is ds e
  | _, _, _ => none
def sUnp (is : List Nat) (f : EV) : SV := sE f fun r e => match stl r e with
  | some (.tup ds, e1) => (match setAll is ds e1 with
    | some e2 => .nx e2
    | none => .no)
  | _ => .no
/-- slots forgotten -/
def wipeE (e : Env) : List Nat → Env
  | [] => e
  | i :: is => (wipeE e is).set i .no
/-- the turns of a loop; tmp: the slots forgotten behind each turn -/
def forL (tmp : List Nat) (t : Tg) (b : SV) : List D → SV
  | [], e => .nx e
  | d :: ds, e => (match tgt t d e with
    | some e1 => (match b e1 with
      | .nx e2 => forL tmp t b ds (wipeE e2 tmp)
      | .ct e2 => forL tmp t b ds (wipeE e2 tmp)
      | .bk e2 => .nx (wipeE e2 tmp)
      | .rt r e2 => .rt r e2
      | .ex x e2 => .ex x e2
      | .no => .no)
    | none => .no)
/-- what is walked: the items of a value -/
def items : D → Option (List D)
  | .lst xs => some xs
  | .tup xs => some xs
  | .scr xs => some xs
  | .str x => some (x.cps.toList.map fun c => .str ⟨#[c]⟩)
  | _ => none
/-- walked: the value is frozen, or lent to be read -/
def walk (r : RV) (e : Env) : Option (D × Env) := match r with
  | .fz d => some (d, e)
  | .nw d => some (d, e)
  | .at i => (match slot e i with
    | .fz d => some (d, e)
    | .ow d => some (d, e.set i (.fz d))
    | .bo d => some (d, e)
    | _ => none)
/-- what is walked: the items -/
inductive RW where
  | ok (xs : List D) (e : Env) | ex (x : Exn) (e : Env) | no
abbrev WV := Env → RW
def wE (f : EV) (k : RV → WV) : WV := fun e => match f e with
  | .ok r e1 => k r e1
  | .ex x e1 => .ex x e1
  | .no => .no
def wAny (f : EV) : WV := wE f fun r e => match walk r e with
  | some (d, e1) => (match items d with
    | some xs => .ok xs e1
    | none => .no)
  | none => .no
def rng (a b : Int) : List D := (List.range (b - a).toNat).map fun i => .int (a + (i : Nat))
/-- range(b), range(a, b) -/
def wR1 (g : EV) : WV := wE (eI g) fun q e => match q with
  | .fz (.int y) => if -(2 ^ 62) ≤ y ∧ y < 2 ^ 62 then .ok (rng 0 y) e else .no
  | _ => .no
def wR2 (f g : EV) : WV := wE (eI f) fun r => wE (eI g) fun q e => match r, q with
  | .fz (.int x), .fz (.int y) => if -(2 ^ 62) ≤ x ∧ x < 2 ^ 62 ∧ -(2 ^ 62) ≤ y ∧ y < 2 ^ 62 then .ok (rng x y) e else .no
  | _, _ => .no
def sFor (tmp : List Nat) (t : Tg) (w : WV) (b : SV) : SV := fun e => match w e with
  | .ok xs e1 => forL tmp t b xs e1
  | .ex x e1 => .ex x e1
  | .no => .no
/-- while -/
def whL (tmp : List Nat) (c : TV) (b : SV) : Nat → SV
  | 0, _ => .no
  | n + 1, e => (match c e with
    | .ok true e1 => (match b e1 with
      | .nx e2 => whL tmp c b n (wipeE e2 tmp)
      | .ct e2 => whL tmp c b n (wipeE e2 tmp)
      | .bk e2 => .nx (wipeE e2 tmp)
      | .rt r e2 => .rt r e2
      | .ex x e2 => .ex x e2
      | .no => .no)
    | .ok false e1 => .nx e1
    | .ex x e1 => .ex x e1
    | .no => .no)

/-! ### comprehensions -/
/-- within: what is owned or lent to be changed is lent to be read; the block's own names forgotten -/
def Sl.lock : Sl → Sl
  | .ow d => .bo d
  | .mu d => .bo d
  | s => s
def lock (e : Env) : Env := e.map Sl.lock
/-- the items made; nothing may be raised -/
def lcL (t : Tg) (c : TV) (f : EV) : List D → Env → List D → Option (List D)
  | [], _, acc => some acc
  | d :: ds, e, acc => (match tgt t d e with
    | some e1 => (match c e1 with
      | .ok true e2 => (match f e2 with
        | .ok r e3 => (match stl r e3 with
          | some (x, _) => lcL t c f ds e (acc ++ [x])
          | none => none)
        | _ => none)
      | .ok false _ => lcL t c f ds e acc
      | _ => none)
    | none => none)
def tYesS : TV := fun e => .ok true e
/-- [f for t in w if c] -/
def eLc (own : List Nat) (t : Tg) (w : WV) (c : TV) (f : EV) : EV := fun e => match w e with
  | .ok xs e1 => (match lcL t c f xs (wipeE (lock e1) own) [] with
    | some ys => if xs.length ≤ 16777216 then .ok (.nw (.lst ys)) e1 else .no
    | none => .no)
  | .ex x e1 => .ex x e1
  | .no => .no

/-! ### a def -/
def startE (ms : List Md) (ds : List D) (n : Nat) : Env :=
  (ms.zip ds).map (fun p => match p.1 with | .v => Sl.fz p.2 | .r => Sl.bo p.2 | .m => Sl.mu p.2) ++ List.replicate (n - ds.length) Sl.no
/-- the lent parameters' values at the end -/
def outsE : List Md → Env → Option (List D)
  | [], _ => some []
  | .m :: ms, .mu d :: e => (outsE ms e).map (d :: ·)
  | .m :: _, _ => none
  | _ :: ms, _ :: e => outsE ms e
  | _ :: _, [] => none
def finish (ms : List Md) : RS → RC
  | .nx e => (match outsE ms e with
    | some o => .ok false .non o
    | none => .no)
  | .rt r e => (match r with
    | .fz d => (match outsE ms e with
      | some o => .ok false d o
      | none => .no)
    | .nw d => (match outsE ms e with
      | some o => .ok true d o
      | none => .no)
    | .at _ => .no)
  | .ex x e => (match outsE ms e with
    | some o => .ex x o
    | none => .no)
  | _ => .no
/-- a def's text: its parameters' modes, the number of its slots, its body over what the others do -/
structure Def where
  ms : List Md
  n : Nat
  body : (String → List D → RC) → SV
def Def.run (f : Def) (phi : String → List D → RC) (ds : List D) : RC :=
  if ds.length = f.ms.length then finish f.ms (f.body phi (startE f.ms ds f.n)) else .no
/-- all defs, by their names, to a depth of calls -/
def sem (tab : String → Option Def) : Nat → String → List D → RC
  | 0, _, _ => .no
  | k + 1, g, ds => match tab g with
    | some f => f.run (sem tab k) ds
    | none => .no
end S3

/-! A2: what the operators and the built-ins give, on trees. -/
namespace S3
open PySem

abbrev BIG : Nat := 16777216
/-- plain data, to a depth -/
def okD : Nat → D → Bool
  | _, .non => true
  | _, .bl _ => true
  | _, .int _ => true
  | _, .str _ => true
  | n + 1, .lst xs => xs.all (okD n)
  | n + 1, .tup xs => xs.all (okD n)
  | _, _ => false
def py : Nat → D → PyData
  | _, .bl b => .bool b
  | _, .int i => .int i
  | _, .str x => .str x
  | n + 1, .lst xs => .list (xs.map (py n))
  | n + 1, .tup xs => .tuple (xs.map (py n))
  | _, _ => .none
/-- x == y -/
def dEq (x y : D) : Option Bool := if okD 6 x && okD 6 y then some (PyData.eqv (py 6 x) (py 6 y)) else none
def bRV (o : Option Bool) : Option RV := o.map fun b => .fz (.bl b)
def opEq (x y : D) : Option RV := bRV (dEq x y)
def opNe (x y : D) : Option RV := bRV ((dEq x y).map not)
def opLt : D → D → Option RV
  | .int i, .int j => some (.fz (.bl (decide (i < j))))
  | .str x, .str y => some (.fz (.bl (decide (x.cps.toList < y.cps.toList))))
  | _, _ => none
def opLe : D → D → Option RV
  | .int i, .int j => some (.fz (.bl (decide (i ≤ j))))
  | .str x, .str y => some (.fz (.bl (!decide (y.cps.toList < x.cps.toList))))
  | _, _ => none
def opGt : D → D → Option RV
  | .int i, .int j => some (.fz (.bl (decide (j < i))))
  | .str x, .str y => some (.fz (.bl (decide (y.cps.toList < x.cps.toList))))
  | _, _ => none
def opGe : D → D → Option RV
  | .int i, .int j => some (.fz (.bl (decide (j ≤ i))))
  | .str x, .str y => some (.fz (.bl (!decide (x.cps.toList < y.cps.toList))))
  | _, _ => none
def dIs : D → D → Option Bool
  | x, .non => some (match x with | .non => true | _ => false)
  | .bl a, .bl b => some (decide (a = b))
  | _, _ => none
def opIs (x y : D) : Option RV := bRV (dIs x y)
def opIsNot (x y : D) : Option RV := bRV ((dIs x y).map not)
/-- a dict's or set's key -/
def toKey : D → Option Key
  | .int i => some (.inl i)
  | .str x => some (.inr x)
  | _ => none
def toKeys : List D → Option (List Key)
  | [] => some []
  | d :: ds => match toKey d, toKeys ds with
    | some k, some ks => some (k :: ks)
    | _, _ => none
section
variable {κ : Type} [DecidableEq κ]
def dVal (kvs : List (κ × D)) (k : κ) : Option D := (kvs.find? fun kv => decide (kv.1 = k)).map (·.2)
def dPut (kvs : List (κ × D)) (k : κ) (v : D) : List (κ × D) := if kvs.any (fun kv => decide (kv.1 = k)) then kvs.map fun kv => if kv.1 = k then (kv.1, v) else kv else kvs ++ [(k, v)]
def dDrop (kvs : List (κ × D)) (k : κ) : List (κ × D) := kvs.filter fun kv => decide (kv.1 ≠ k)
end
def dGet (x y : D) : Option (Option D) := match x, y with
  | .dk kvs, y => (toKey y).map fun k => dVal kvs k
  | .dt kvs, .tup ys => (toKeys ys).map fun k => dVal kvs k
  | _, _ => none
def dIn (x y : D) : Option Bool := match y with
  | .lst ys => if okD 6 x && ys.all (okD 5) then some (ys.any fun z => PyData.eqv (py 6 z) (py 6 x)) else none
  | .tup ys => if okD 0 x && ys.all (okD 0) then some (ys.any fun z => PyData.eqv (py 0 z) (py 0 x)) else none
  | .str z => match x with
    | .str c => if c.cps.size = 1 then some (decide (c.cps.getD 0 0 ∈ z.cps.toList)) else none
    | _ => none
  | .st ks => (toKey x).map fun k => kIn k ks
  | y => (dGet y x).map (·.isSome)
def opIn (x y : D) : Option RV := bRV (dIn x y)
def opNotIn (x y : D) : Option RV := bRV ((dIn x y).map not)

def opAdd : D → D → Option RV
  | .int i, .int j => some (.fz (.int (i + j)))
  | .str x, .str y => if x.length + y.length ≤ BIG then some (.fz (.str (x ++ y))) else none
  | .lst xs, .lst ys => if xs.length + ys.length ≤ BIG then some (.nw (.lst (xs ++ ys))) else none
  | .tup xs, .tup ys => if xs.length + ys.length ≤ BIG then some (.fz (.tup (xs ++ ys))) else none
  | _, _ => none
def opSub : D → D → Option RV
  | .int i, .int j => some (.fz (.int (i - j)))
  | _, _ => none
def strRep (x : Str) (n : Int) : Str := ⟨(List.replicate n.toNat x.cps.toList).flatten.toArray⟩
def opMul : D → D → Option RV
  | .str x, .int n => if -1000 ≤ n ∧ n ≤ 1000 ∧ x.length ≤ 1000 then some (.fz (.str (strRep x n))) else none
  | .int i, .int j => if (-(2 ^ 64) < i ∧ i < 2 ^ 64) ∨ (-(2 ^ 64) < j ∧ j < 2 ^ 64) then some (.fz (.int (i * j))) else none
  | _, _ => none
def opMod : D → D → Option RV
  | .int i, .int j => if 0 < j then some (.fz (.int (i % j))) else none
  | _, _ => none
def opDiv : D → D → Option RV
  | .int i, .int j => if 0 < j ∧ j < 1073741824 then some (.fz (.int (i / j))) else none
  | _, _ => none
def opPow : D → D → Option RV
  | .int i, .int j => if 0 ≤ j ∧ j ≤ 1000000 ∧ i.natAbs < 2 ^ 64 then some (.fz (.int (i ^ j.toNat))) else none
  | _, _ => none
def opShr : D → D → Option RV
  | .int i, .int j => if 0 ≤ j then some (.fz (.int (i / 2 ^ j.toNat))) else none
  | _, _ => none
def opNeg : D → Option RV
  | .int i => some (.fz (.int (-i)))
  | _ => none
/-- x[i] -/
def opIx : D → D → Option RV
  | .lst xs, .int i => (L2.atI xs i).map .fz
  | .tup xs, .int i => (L2.atI xs i).map .fz
  | .str z, .int i => (L2.atI z.cps.toList i).map fun c => .fz (.str ⟨#[c]⟩)
  | x, y => (dGet x y).join.map .fz
/-- x[lo:hi] -/
def cutD (xs : List D) (lo hi : Option Int) : List D := (xs.drop (HT.sIx xs.length 0 lo)).take (HT.sIx xs.length xs.length hi - HT.sIx xs.length 0 lo)
def dCut (x : D) (l h : Option Int) : Option RV := match x with
  | .lst xs => some (.nw (.lst (cutD xs l h)))
  | .str z => some (.fz (.str (L2.cutS z l h)))
  | .tup xs => some (.fz (.tup (cutD xs l h)))
  | _ => none
def opCut : D → D → D → Option RV
  | x, .int i, .int j => dCut x (some i) (some j)
  | _, _, _ => none
def opCutLo : D → D → Option RV
  | x, .int i => dCut x (some i) none
  | _, _ => none
def opCutHi : D → D → Option RV
  | x, .int j => dCut x none (some j)
  | _, _ => none
def opCutAll (x : D) : Option RV := dCut x none none
def opRev : D → Option RV
  | .lst xs => some (.nw (.lst xs.reverse))
  | _ => none
/-! built-ins -/
def opLen : D → Option RV
  | .str x => some (.fz (.int x.length))
  | .lst xs => some (.fz (.int xs.length))
  | .tup xs => some (.fz (.int xs.length))
  | .dk xs => some (.fz (.int xs.length))
  | .st xs => some (.fz (.int xs.length))
  | _ => none
def opInt : D → Option RV
  | .int i => some (.fz (.int i))
  | .bl b => some (.fz (.int (if b then 1 else 0)))
  | _ => none
def opAbs : D → Option RV
  | .int i => some (.fz (.int (if i < 0 then -i else i)))
  | _ => none
def toBools : List D → Option (List Bool)
  | [] => some []
  | .bl b :: r => (toBools r).map (b :: ·)
  | _ :: _ => none
def opAll : D → Option RV
  | .lst xs => (toBools xs).map fun bs => .fz (.bl (bs.all id))
  | _ => none
def opAny : D → Option RV
  | .lst xs => (toBools xs).map fun bs => .fz (.bl (bs.any id))
  | _ => none
/-- isinstance(x, T), T a built-in class -/
def tyN : D → Option String
  | .non => some "NoneType" | .bl _ => some "bool" | .int _ => some "int" | .str _ => some "str" | .lst _ => some "list" | .tup _ => some "tuple" | .dk _ => some "dict" | _ => none
def subT (t T : String) : Bool := t == T || (t == "bool" && T == "int")
def isTy (T : String) (d : D) : Option Bool := (tyN d).map fun t => subT t T
def opIsTy (T : String) (x : D) : Option RV := bRV (isTy T x)
def opList : D → Option RV
  | .lst xs => some (.nw (.lst xs))
  | .tup xs => some (.nw (.lst xs))
  | _ => none
def opTuple : D → Option RV
  | .lst xs => some (.fz (.tup xs))
  | .tup xs => some (.fz (.tup xs))
  | _ => none
def opStr : D → Option RV
  | .str x => some (.fz (.str x))
  | .int i => if i.natAbs.log2 < 1900 then some (.fz (.str (toString i : String))) else none
  | _ => none
/-! displays, changes -/
def mkLst (xs : List D) : RV := .nw (.lst xs)
def mkTup (xs : List D) : RV := .fz (.tup xs)
def mAppend : D → List D → Option (D × RV)
  | .lst xs, [y] => if xs.length < BIG then some (.lst (xs ++ [y]), .fz .non) else none
  | _, _ => none
def mPop : D → List D → Option (D × RV)
  | .lst xs, [] => match xs.getLast? with
    | some y => some (.lst xs.dropLast, .fz y)
    | none => none
  | _, _ => none
end S3

/-! SG: sets of any kind of key, with their members in some order; made, added to, taken from, gathered, sorted. -/
namespace S3
open PySem PySem.Spec PyProof.Rows L2
section
variable {P : Program} {w : World} {κ : Type} [DecidableEq κ]
open Classical in
noncomputable def kOf (knd : PySem.KeyKind P w κ) (v : Value) : Option κ := if h : ∃ k, knd.is k v = true then some h.choose else none
theorem kOf_is {knd : PySem.KeyKind P w κ} {k : κ} {v : Value} (h : knd.is k v = true) : kOf knd v = some k := by
  unfold kOf
  have e : ∃ k, knd.is k v = true := ⟨k, h⟩
  rw [dif_pos e]
  exact congrArg some (knd.inj v _ _ e.choose_spec h)
/-- the set at a: its members are ks, in some order; its table rises and can be walked -/
def SetG (knd : PySem.KeyKind P w κ) (h : Heap) (a : Addr) (ks : List κ) : Prop :=
  ∃ o es ep t, h.get? a = some o ∧ o.ExactSet ∧ o.data = .set es ep t ∧ ElemsOf knd es.toList ∧ (es.toList.map fun e => kOf knd e.2).Perm (ks.map some) ∧ ks.Nodup ∧
    es.size < scanBound ∧ t.fits es.size = true ∧ Ris t.place.toList ∧ (w.params.followText "set-order" = true ∨ t.led = true)
variable {knd : PySem.KeyKind P w κ} {h h' : Heap} {a : Addr} {ks : List κ}
theorem SetG.at (R : SetG knd h a ks) (k : ∀ o, h.get? a = some o → h'.get? a = some o) : SetG knd h' a ks := by
  obtain ⟨o, es, ep, t, ho, r⟩ := R
  exact ⟨o, es, ep, t, k o ho, r⟩
theorem SetG.lt (R : SetG knd h a ks) : a < h.objs.size := by
  obtain ⟨o, es, ep, t, ho, r⟩ := R
  exact Heap.lt_size ho
theorem elems_is {es : List (Int × Value)} (g : ElemsOf knd es) {e : Int × Value} (he : e ∈ es) {k : κ} : knd.is k e.2 = true ↔ kOf knd e.2 = some k := by
  refine ⟨kOf_is, fun q => ?_⟩
  obtain ⟨⟨j, hj, _⟩, _⟩ := g e he
  rw [kOf_is hj] at q
  cases q
  exact hj
theorem elems_mem {es : List (Int × Value)} (g : ElemsOf knd es) (p : (es.map fun e => kOf knd e.2).Perm (ks.map some)) {k : κ} : k ∈ ks ↔ ∃ e ∈ es, knd.is k e.2 = true := by
  have q : some k ∈ ks.map some ↔ some k ∈ es.map fun e => kOf knd e.2 := p.symm.mem_iff
  constructor
  · intro hk
    obtain ⟨e, he, q⟩ := List.mem_map.mp (q.mp (List.mem_map.mpr ⟨k, hk, rfl⟩))
    exact ⟨e, he, (elems_is g he).mpr q⟩
  · rintro ⟨e, he, q2⟩
    obtain ⟨j, hj, e2⟩ := List.mem_map.mp (q.mpr (List.mem_map.mpr ⟨e, he, (elems_is g he).mp q2⟩))
    cases e2
    exact hj
theorem SetG.len {es : Array (Int × Value)} (p : (es.toList.map fun e => kOf knd e.2).Perm (ks.map some)) : es.size = ks.length := by
  have := p.length_eq
  rw [List.length_map, List.length_map, Array.length_toList] at this
  exact this
theorem SetG.setOf (R : SetG knd h a ks) : h.SetOf knd a (fun k => decide (k ∈ ks)) ks.length := by
  obtain ⟨o, es, ep, t, ho, hx, hd, g, pm, nd, hb, hf, _⟩ := R
  exact ⟨o, es, ep, t, ho, hx, hd, g, fun k => (decide_eq_true_iff).trans (elems_mem g pm), hb, hf, SetG.len pm⟩
theorem SetG.small (R : SetG knd h a ks) : ks.length < scanBound := by
  obtain ⟨o, es, ep, t, ho, hx, hd, g, pm, nd, hb, hf, _⟩ := R
  rw [← SetG.len pm]; exact hb
end
section
variable {P : Program} {w : World} {κ : Type} [DecidableEq κ] {knd : PySem.KeyKind P w κ} {A : Around} {E : Value → Shared → Prop} {s : Shared} {a : Addr} {ks : List κ}
theorem setG_add_tail {g : Bool → Sem Unit} (hg : ∀ (b : Bool) (s₁ : Shared) (Q' : Unit → Shared → Prop), Q' () s₁ → wpAny (model P w) A (g b) Q' E s₁)
    {o : Obj} {es : Array (Int × Value)} {ep : Nat} {t : SetTable} (ho : s.heap.get? a = some o) (hex : o.ExactSet) (hd : o.data = .set es ep t)
    {es1 : Array (Int × Value)} {t2 : SetTable} (g1 : ElemsOf knd es1.toList) (p1 : (es1.toList.map fun e => kOf knd e.2).Perm (ks.map some)) (nd : ks.Nodup)
    (hb1 : es1.size < scanBound) (hf2 : t2.fits es1.size = true) (hr : Ris t2.place.toList) (hl : w.params.followText "set-order" = true ∨ t2.led = true) {wasDummy : Bool} {R : Option Bool → Shared → Prop}
    (hR : ∀ h', Heap.SameBut a s.heap h' → SetG knd h' a ks → R (some true) { s with heap := h' }) :
    wpAny (model P w) A (do
        storeSet a es1 t2
        if (!wasDummy && t2.tooFull) = true then do
            g (relayAll t2 es1 (SetTable.grown es1.size)).2.2
            storeSet a (relayAll t2 es1 (SetTable.grown es1.size)).1 (relayAll t2 es1 (SetTable.grown es1.size)).2.1
            pure (some true)
          else pure (some true)) R E s := by
  refine wpAny_bind (wpAny_storeSet_of ho hd ?_ (fits_of_scanBound hb1))
  have ho1 := store_at (es' := es1) (t' := t2) ho hd
  have sb1 := Heap.SameBut.update s.heap a (Obj.putSet es1 t2)
  split
  · have pm := relayAll_perm t2 es1 (SetTable.grown es1.size)
    have hf3 := relayAll_fits t2 es1 (SetTable.grown es1.size)
    have hr3 := relayAll_ris t2 es1 (SetTable.grown es1.size)
    have hl3 := relayAll_led t2 es1 (SetTable.grown es1.size)
    generalize relayAll t2 es1 (SetTable.grown es1.size) = Z at pm hf3 hr3 hl3 ⊢
    obtain ⟨es2, t3, gave⟩ := Z
    dsimp only at pm hf3 hr3 hl3 ⊢
    have hsz : es2.size = es1.size := by rw [← Array.length_toList, pm.length_eq, Array.length_toList]
    have hb2 : es2.size < scanBound := by rw [hsz]; exact hb1
    refine wpAny_bind (hg _ _ _ ?_)
    refine wpAny_bind (wpAny_storeSet_of ho1 rfl ?_ (fits_of_scanBound hb2))
    have ho2 := store_at (es' := es2) (t' := t3) ho1 rfl
    refine wpAny_pure (hR _ (sb1.trans (Heap.SameBut.update _ a _)) ?_)
    exact ⟨_, es2, _, t3, ho2, hex, rfl, fun e he => g1 e (pm.mem_iff.mp he), (pm.map _).trans p1, nd, hb2, hf3, hr3, hl.imp id fun z => by rw [hl3]; exact z⟩
  · exact wpAny_pure (hR _ sb1 ⟨_, es1, _, t2, ho1, hex, rfl, g1, p1, nd, hb1, hf2, hr, hl⟩)
def addK (ks : List κ) (k : κ) : List κ := if k ∈ ks then ks else ks ++ [k]
theorem addK_nodup {k : κ} (nd : ks.Nodup) : (addK ks k).Nodup := by
  unfold addK
  split
  · exact nd
  · rename_i h
    rw [List.nodup_append]
    exact ⟨nd, by simp, fun x hx y hy e => h (by rw [List.mem_singleton] at hy; rw [← hy, ← e]; exact hx)⟩
theorem addK_len (k : κ) : (addK ks k).length ≤ ks.length + 1 := by
  unfold addK
  split
  · omega
  · simp
theorem setG_add_hashed {k : κ} {v : Value} {Q : Bool → Shared → Prop} (hkey : knd.is k v = true) (hsc : v.scannable = true) (R : SetG knd s.heap a ks) (room : ks.length + 1 < scanBound)
    (hQ : ∀ h' b, Heap.SameBut a s.heap h' → SetG knd h' a (addK ks k) → Q b { s with heap := h' }) :
    wpAny (model P w) A (setAddHashed a v (knd.hash k)) Q E s := by
  obtain ⟨o, es, ep, t, ho, hex, hd, hel, pm0, nd, hb, hf, hr, hl⟩ := R
  have hn := SetG.len pm0
  unfold setAddHashed setAddHashedIn
  refine wpAny_holding (wpAny_bind (wpAny_setState_of ho hd hf ?_))
  dsimp only
  rw [byScan_of hsc hb hel]
  simp only [↓reduceIte]
  unfold setAddByScan
  refine wpAny_bind ?_
  refine wpAny_bind (wpAny_rule ?_)
  refine wpAny_bind (wpAny_setScan_of hkey ho hd hf hel ?_)
  cases hfi : List.findIdx? (fun e => knd.is k e.2) es.toList with
  | some j =>
    dsimp only
    obtain ⟨hj, pj, _⟩ := List.findIdx?_eq_some_iff_getElem.mp hfi
    have hSk : k ∈ ks := (elems_mem hel pm0).mpr ⟨es.toList[j], List.getElem_mem hj, pj⟩
    refine wpAny_pure (wpAny_pure ?_)
    refine hQ s.heap _ (Heap.SameBut.refl a s.heap) ?_
    unfold addK
    rw [if_pos hSk]
    exact ⟨o, es, ep, t, ho, hex, hd, hel, pm0, nd, hb, hf, hr, hl⟩
  | none =>
    dsimp only
    have hnk : k ∉ ks := fun z => by
      obtain ⟨e, he, q⟩ := (elems_mem hel pm0).mp z
      have c := List.findIdx?_eq_none_iff.mp hfi e he
      rw [q] at c
      cases c
    have eadd : addK ks k = ks ++ [k] := if_neg hnk
    have hgw : ∀ (b : Bool) {s₁ : Shared} {Q' : Unit → Shared → Prop}, Q' () s₁ → wpAny (model P w) A (match b with | true => rule "set.scan.the-table-gave-way" | false => pure ()) Q' E s₁ :=
      fun b s₁ Q' q => by cases b <;> first | exact wpAny_pure q | exact wpAny_rule q
    have pm := layNew_perm t es (knd.hash k) v
    have hf1 := layNew_fits t es (knd.hash k) v
    have hr1 := layNew_ris t es (knd.hash k) v hr
    have hl1 := layNew_led t es (knd.hash k) v
    generalize layNew t es (knd.hash k) v = Z at pm hf1 hr1 hl1 ⊢
    obtain ⟨es1, t1, wasDummy, gave⟩ := Z
    dsimp only at pm hf1 hr1 hl1 ⊢
    rw [Array.toList_push] at pm
    have g1 : ElemsOf knd es1.toList := fun e he => by
      rcases List.mem_append.mp (pm.mem_iff.mp he) with z | z
      · exact hel e z
      · rw [List.mem_singleton.mp z]; exact ⟨⟨k, hkey, rfl⟩, hsc⟩
    have p1 : (es1.toList.map fun e => kOf knd e.2).Perm ((addK ks k).map some) := by
      refine (pm.map _).trans ?_
      rw [eadd, List.map_append, List.map_append]
      refine List.Perm.append pm0 ?_
      show [kOf knd v].Perm [some k]
      rw [kOf_is hkey]
    have nd1 : (addK ks k).Nodup := addK_nodup nd
    have hsz : es1.size = ks.length + 1 := by rw [SetG.len p1, eadd, List.length_append]; rfl
    have hb1 : es1.size < scanBound := by rw [hsz]; exact room
    have hled : w.params.followText "set-order" = true ∨ t1.led = true := hl.imp id fun z => by rw [hl1]; exact z
    refine wpAny_bind (hgw _ ?_)
    split
    · refine wpAny_bind ?_
      rw [hashByValue_scannable 8 hsc]
      refine wpAny_pure ?_
      refine setG_add_tail ?_ ho hex hd g1 p1 nd1 hb1 ?_ ?_ ?_ ?_
      · intro b s₁ Q' q; cases b <;> first | exact wpAny_pure q | exact wpAny_rule q
      · first | (split <;> first | exact hf1 | exact SetTable.fits_plain_off hf1) | exact hf1
      · first | (split <;> exact hr1) | exact hr1
      · first | (split <;> exact hled) | exact hled
      · intro h' sb r; dsimp only; exact wpAny_pure (hQ _ _ sb r)
    · refine wpAny_bind (wpAny_pure ?_)
      simp only [↓reduceIte]
      refine setG_add_tail ?_ ho hex hd g1 p1 nd1 hb1 hf1 hr1 hled ?_
      · intro b s₁ Q' q; cases b <;> first | exact wpAny_pure q | exact wpAny_rule q
      · intro h' sb r; dsimp only; exact wpAny_pure (hQ _ _ sb r)
theorem setG_addv {k : κ} {v : Value} {Q : Bool → Shared → Prop} (hkey : knd.is k v = true) (hsc : v.scannable = true) (R : SetG knd s.heap a ks) (room : ks.length + 1 < scanBound)
    (hQ : ∀ h' b, Heap.SameBut a s.heap h' → SetG knd h' a (addK ks k) → Q b { s with heap := h', toks := s.toks + 1 }) :
    wpAny (model P w) A (setAdd a v) Q E s := by
  unfold setAdd
  refine wpAny_holding (wpAny_bind (knd.pyHash hkey ?_))
  exact setG_add_hashed (s := { s with toks := s.toks + 1 }) hkey hsc R room hQ
/-- found.add(k) -/
theorem setG_add {k : κ} {v : Value} {Q : Value → Shared → Prop} (hkey : knd.is k v = true) (hsc : v.scannable = true) (R : SetG knd s.heap a ks) (room : ks.length + 1 < scanBound)
    (hQ : ∀ h', Heap.SameBut a s.heap h' → SetG knd h' a (addK ks k) → Q .none { s with heap := h', toks := s.toks + 1 }) :
    wpAny (model P w) A (call (.builtin "set.add") [.ref a, v]) Q E s := by
  have hS := R.setOf
  refine wpAny_call_entry F.slot_set_add hS.typeIs F.entry_set_add ?_ (F.args_set_add_2 _ _)
  unfold Builtin.«set.add» Builtin.Frozenset.oneOther
  simp only [List.isEmpty_nil, bind_assoc]
  unfold Builtin.Frozenset.addrOf
  refine wpAny_bind (wpAny_pure ?_)
  try dsimp only
  refine wpAny_bind (wpAny_pure ?_)
  try dsimp only
  refine wpAny_bind (setG_addv hkey hsc R room fun h' b sb r => ?_)
  show wpAny _ _ (PySem.ret Value.none) _ _ _
  exact wpAny_pure ⟨_, rfl, hQ h' sb r⟩
/-! discard -/
theorem ris_erase {xs : Array Nat} (r : Ris xs.toList) (i : Nat) : Ris (SetTable.eraseAt xs i).toList := by
  have e : (SetTable.eraseAt xs i).toList = xs.toList.eraseIdx i := by
    unfold SetTable.eraseAt
    rw [Array.toList_append, Array.toList_extract, Array.toList_extract, List.eraseIdx_eq_take_drop_succ]
    simp [List.extract_eq_drop_take, List.take_of_length_le]
  rw [e]
  exact List.Pairwise.sublist (List.eraseIdx_sublist _ _) r
theorem erase_list {α : Type} (xs : Array α) (i : Nat) : (SetTable.eraseAt xs i).toList = xs.toList.eraseIdx i := by
  unfold SetTable.eraseAt
  rw [Array.toList_append, Array.toList_extract, Array.toList_extract, List.eraseIdx_eq_take_drop_succ]
  simp [List.extract_eq_drop_take, List.take_of_length_le]
theorem insert_size (xs : Array Nat) (p x : Nat) (hp : p ≤ xs.size) : (SetTable.insertAt xs p x).size = xs.size + 1 := by
  rw [← Array.length_toList, SetTable.toList_insertAt, List.length_append, List.length_cons, List.length_take, List.length_drop, Array.length_toList]
  omega
theorem drop_fits {t : SetTable} {n i : Nat} (hf : t.fits (n + 1) = true) (hi : i < n + 1) (hr : Ris t.place.toList) : (t.drop i).fits n = true ∧ Ris (t.drop i).place.toList ∧ (t.drop i).led = t.led := by
  have hp : t.place.size = n + 1 ∧ t.fill ≤ t.mask := by
    simp only [SetTable.fits, Bool.and_eq_true, beq_iff_eq, decide_eq_true_eq] at hf
    exact hf
  have hl : t.place[i]? = some (t.place[i]'(by omega)) := Array.getElem?_eq_getElem (by omega)
  generalize t.place[i]'(by omega) = j at hl
  have e : t.drop i = { t with place := SetTable.eraseAt t.place i, dummies := SetTable.insertAt t.dummies (SetTable.below t.dummies j) j } := by
    unfold SetTable.drop
    rw [hl]
  rw [e]
  refine ⟨?_, ris_erase hr i, rfl⟩
  have z1 : (SetTable.eraseAt t.place i).size = n := by
    rw [← Array.length_toList, erase_list, List.length_eraseIdx, Array.length_toList, if_pos (by omega)]
    omega
  simp only [SetTable.fits, Bool.and_eq_true, beq_iff_eq, decide_eq_true_eq]
  refine ⟨z1, ?_⟩
  show (SetTable.eraseAt t.place i).size + (SetTable.insertAt t.dummies (SetTable.below t.dummies j) j).size ≤ t.mask
  have h2 := hp.2
  unfold SetTable.fill at h2
  have z2 : (SetTable.insertAt t.dummies (SetTable.below t.dummies j) j).size ≤ t.dummies.size + 1 := by
    rw [← Array.length_toList, SetTable.toList_insertAt, List.length_append, List.length_cons, List.length_take, List.length_drop, Array.length_toList]
    omega
  have h3 := hp.1
  omega
end
/-! as tracked things -/
theorem kIn_iff {k : Key} {ks : List Key} : kIn k ks = true ↔ k ∈ ks := by
  unfold kIn
  rw [List.any_eq_true]
  exact ⟨fun ⟨j, h1, h2⟩ => (of_decide_eq_true h2) ▸ h1, fun h => ⟨k, h, decide_eq_true rfl⟩⟩
theorem SetG.setOfK {P : Program} {w : World} {h : Heap} {a : Addr} {ks : List Key} (R : SetG (mixKind P w) h a ks) : h.SetOf (mixKind P w) a (fun k => kIn k ks) ks.length := by
  obtain ⟨o, es, ep, t, ho, hx, hd, g, pm, nd, hb, hf, _⟩ := R
  exact ⟨o, es, ep, t, ho, hx, hd, g, fun k => kIn_iff.trans (elems_mem g pm), hb, hf, SetG.len pm⟩
def SetGO (P : Program) (w : World) (a : Addr) (ks : List Key) : HO := .ext fun h => SetG (mixKind P w) h a ks
theorem setG_new {w : World} {P : Program} {H : Hp} {h : Heap} {a : Addr} {ks : List Key} (R : SetG (mixKind P w) h a ks) : ObjOk P w H h a (SetGO P w a ks) := by
  have ⟨o, _, _, _, ho, _⟩ := R
  exact ⟨R, ⟨o, ho⟩, fun h1 h2 p k => SetG.at p k⟩
section
variable {X : Cx}
theorem setG_get {pins : List (Addr × Obj)} {σ : L2.St} {H : Hp} {s : Shared} {a : Addr} {ks : List Key} (I : Inv X pins σ H s) (ha : H a = some (SetGO X.prog X.w a ks)) : SetG (mixKind X.prog X.w) s.heap a ks := (I.hok a _ ha).1
/-- k in found, k not in found -/
def rSInG (P : Program) (w : World) (neg : Bool) : V → V → Hp → VK → Prop := fun x y H Q => ∃ (k : Key) (a : Addr) (ks : List Key), x = kV k ∧ y = V.ref a ∧ H a = some (SetGO P w a ks) ∧ Q (.bl (if neg then !kIn k ks else kIn k ks)) H
theorem or_sinG : OpR X (compareOp .In) (rSInG X.prog X.w false) := by
  intro pins s σ H x y v u Q I rx ry h
  obtain ⟨k, a, ks, rfl, rfl, ha, q⟩ := h
  cases ry
  exact wpAny_inSet_of (kV_is rx) (key_scan rx) (setG_get I ha).setOfK ⟨.bl (kIn k ks), H, I.tok _, rfl, q⟩
theorem or_snotinG : OpR X (compareOp .NotIn) (rSInG X.prog X.w true) := by
  intro pins s σ H x y v u Q I rx ry h
  obtain ⟨k, a, ks, rfl, rfl, ha, q⟩ := h
  cases ry
  exact wpAny_notInSet_of (kV_is rx) (key_scan rx) (setG_get I ha).setOfK ⟨.bl (!kIn k ks), H, I.tok _, rfl, q⟩
theorem call_lenSetG : CallR X (.builtin "len") (fun xs H Q => ∃ a ks, xs = [V.ref a] ∧ H a = some (SetGO X.prog X.w a ks) ∧ Q (.int ks.length) H) := by
  intro pins s σ H xs us Q I r h
  obtain ⟨a, ks, rfl, ha, q⟩ := h
  have hr : us = [Value.ref a] := by cases r with | cons h t => cases t; cases h; rfl
  subst hr
  obtain ⟨o, es, ep, t, ho, hex, hd, _, _, hb, hf, hn⟩ := (setG_get I ha).setOf
  rw [← hn] at q
  have e : scanBound ≤ 2 ^ 63 := by decide +kernel
  exact call_len_set ho hex hd hf (by omega) ⟨.int es.size, H, I.tok _, ⟨_, rfl⟩, q⟩
end
end S3

/-! SG2: sets: discard, set(xs), sorted(s), {x}; as calls over the abstract heap. -/
namespace S3
open PySem PySem.Spec PyProof.Rows L2
section
variable {P : Program} {w : World} {κ : Type} [DecidableEq κ] {knd : PySem.KeyKind P w κ} {A : Around} {E : Value → Shared → Prop} {s : Shared} {a : Addr} {ks : List κ}
theorem perm_erase {α : Type} {l : List α} {i : Nat} {x : α} (h : l[i]? = some x) : l.Perm (x :: l.eraseIdx i) := (L2.erase_perm l i x h).symm
/-- found.discard(k) -/
def delK (ks : List κ) (k : κ) : List κ := ks.filter fun j => decide (j ≠ k)
theorem delK_perm {k : κ} (nd : ks.Nodup) (h : k ∈ ks) : ks.Perm (k :: delK ks k) := by
  induction ks with
  | nil => cases h
  | cons j ks ih =>
    have nd' := List.nodup_cons.mp nd
    unfold delK
    by_cases e : j = k
    · subst e
      have e2 : ks.filter (fun i => decide (i ≠ j)) = ks := List.filter_eq_self.mpr fun i hi => decide_eq_true fun z => nd'.1 (z ▸ hi)
      rw [List.filter_cons_of_neg (by simp), e2]
    · have hk : k ∈ ks := (List.mem_cons.mp h).resolve_left (fun z => e z.symm)
      rw [List.filter_cons_of_pos (by simp [e])]
      exact ((ih nd'.2 hk).cons j).trans (List.Perm.swap _ _ _)
theorem delK_none {k : κ} (h : k ∉ ks) : delK ks k = ks := List.filter_eq_self.mpr fun i hi => decide_eq_true fun z => h (z ▸ hi)
theorem setG_find {k : κ} {v : Value} {Q : Option Nat → Shared → Prop} (hkey : knd.is k v = true) (hsc : v.scannable = true) {o : Obj} {es : Array (Int × Value)} {ep : Nat} {t : SetTable} (ho : s.heap.get? a = some o) (hd : o.data = .set es ep t) (hel : ElemsOf knd es.toList)
    (hb : es.size < scanBound) (hf : t.fits es.size = true) (h : Q (List.findIdx? (fun e => knd.is k e.2) es.toList) s) : wpAny (model P w) A (setFind a v (knd.hash k)) Q E s := by
  unfold setFind setFindIn
  refine wpAny_bind (wpAny_setState_of ho hd hf ?_)
  dsimp only
  rw [byScan_of hsc hb hel]
  simp only [↓reduceIte]
  refine wpAny_bind (wpAny_rule ?_)
  refine wpAny_bind (wpAny_setScan_of hkey ho hd hf hel ?_)
  cases hr : List.findIdx? (fun e => knd.is k e.2) es.toList with
  | none =>
    rw [hr] at h
    exact wpAny_pure h
  | some j =>
    rw [hr] at h
    dsimp only
    rw [Nat.zero_add]
    exact wpAny_pure h
theorem setG_discard {k : κ} {v : Value} {Q : Value → Shared → Prop} (hkey : knd.is k v = true) (hsc : v.scannable = true) (R : SetG knd s.heap a ks)
    (hQ : ∀ h', Heap.SameBut a s.heap h' → SetG knd h' a (delK ks k) → Q .none { s with heap := h', toks := s.toks + 1 }) :
    wpAny (model P w) A (call (.builtin "set.discard") [.ref a, v]) Q E s := by
  have hS := R.setOf
  obtain ⟨o, es, ep, t, ho, hex, hd, hel, pm, nd, hb, hf, hr, hl⟩ := R
  have hn := SetG.len pm
  refine wpAny_call_entry F.slot_set_discard hS.typeIs F.entry_set_discard ?_ (F.args_set_discard_2 _ _)
  unfold Builtin.«set.discard» Builtin.Frozenset.oneOther
  simp only [List.isEmpty_nil, bind_assoc]
  unfold Builtin.Frozenset.addrOf Builtin.Frozenset.withSetAsKey setDiscard
  refine wpAny_bind (wpAny_pure ?_)
  try dsimp only
  refine wpAny_bind (wpAny_pure ?_)
  try dsimp only
  refine wpAny_bind (wpAny_tryCatch ?_)
  refine wpAny_holding ?_
  refine wpAny_bind (knd.pyHash hkey ?_)
  unfold setDiscardHashed
  refine wpAny_bind (setG_find (s := { s with toks := s.toks + 1 }) hkey hsc ho hd hel hb hf ?_)
  cases hfi : List.findIdx? (fun e => knd.is k e.2) es.toList with
  | none =>
    dsimp only
    have hnk : k ∉ ks := fun z => by
      obtain ⟨e, he, q⟩ := (elems_mem hel pm).mp z
      have c := List.findIdx?_eq_none_iff.mp hfi e he
      rw [q] at c
      cases c
    refine wpAny_pure ?_
    show wpAny _ _ (PySem.ret Value.none) _ _ _
    refine wpAny_pure ⟨_, rfl, hQ s.heap (Heap.SameBut.refl a s.heap) ?_⟩
    rw [delK_none hnk]
    exact ⟨o, es, ep, t, ho, hex, hd, hel, pm, nd, hb, hf, hr, hl⟩
  | some j =>
    dsimp only
    obtain ⟨hj, pj, _⟩ := List.findIdx?_eq_some_iff_getElem.mp hfi
    have hj2 : j < es.size := by rw [Array.length_toList] at hj; exact hj
    have gj := List.getElem?_eq_getElem hj
    generalize es.toList[j] = e0 at pj gj
    have hk : k ∈ ks := (elems_mem hel pm).mpr ⟨e0, List.mem_of_getElem? gj, pj⟩
    have hk0 : kOf knd e0.2 = some k := kOf_is pj
    obtain ⟨n, hn2⟩ : ∃ n, es.size = n + 1 := ⟨es.size - 1, by omega⟩
    obtain ⟨f1, f2, f3⟩ := drop_fits (n := n) (i := j) (by rw [← hn2]; exact hf) (by omega) hr
    have el : (SetTable.eraseAt es j).toList = es.toList.eraseIdx j := erase_list es j
    have esz : (SetTable.eraseAt es j).size = n := by
      rw [← Array.length_toList, el, List.length_eraseIdx, Array.length_toList, if_pos hj2]
      omega
    refine wpAny_bind (wpAny_setState_of (s := { s with toks := s.toks + 1 }) ho hd hf ?_)
    dsimp only
    refine wpAny_bind (wpAny_storeSet_of (s := { s with toks := s.toks + 1 }) ho hd ?_ (fits_of_scanBound (by rw [esz]; omega)))
    refine wpAny_bind (wpAny_point ?_)
    refine wpAny_pure ?_
    show wpAny _ _ (PySem.ret Value.none) _ _ _
    refine wpAny_pure ⟨_, rfl, hQ _ (Heap.SameBut.update s.heap a _) ?_⟩
    have ho1 := store_at (es' := SetTable.eraseAt es j) (t' := t.drop j) ho hd
    refine ⟨_, _, _, _, ho1, hex, rfl, ?_, ?_, ?_, by rw [esz]; omega, by rw [esz]; exact f1, f2, hl.imp id fun z => by rw [f3]; exact z⟩
    · rw [el]
      exact fun e he => hel e (List.mem_of_mem_eraseIdx he)
    · rw [el]
      have p1 : (es.toList.map fun e => kOf knd e.2).Perm (some k :: (es.toList.eraseIdx j).map fun e => kOf knd e.2) := by
        have := (perm_erase gj).map fun e => kOf knd e.2
        rw [List.map_cons, hk0] at this
        exact this
      have p2 : (ks.map some).Perm (some k :: (delK ks k).map some) := by
        have := (delK_perm nd hk).map some
        rwa [List.map_cons] at this
      exact (List.perm_cons _).mp ((p1.symm.trans pm).trans p2)
    · exact List.Pairwise.sublist (List.filter_sublist) nd
/-! set(xs) -/
def dedK (ks : List κ) : List κ := ks.foldl addK []
theorem setG_fresh {h : Heap} {a : Addr} (ho : h.get? a = some { cls := .type "set", dict := none, data := .set #[] 0 (.fresh 0 0 (!w.params.followText "set-order")) }) : SetG knd h a [] :=
  ⟨_, #[], 0, _, ho, ⟨rfl, rfl, rfl⟩, rfl, (fun e he => by simp at he), (by simp), (by simp), (by decide), (by rfl), List.Pairwise.nil, by
    show _ ∨ (!w.params.followText "set-order") = true
    cases w.params.followText "set-order"
    · exact .inr rfl
    · exact .inl rfl⟩
theorem dedK_take {ks : List κ} {i : Nat} {k : κ} (h : ks[i]? = some k) : dedK (ks.take (i + 1)) = addK (dedK (ks.take i)) k := by
  unfold dedK
  rw [List.take_add_one, h, List.foldl_append]
  rfl
theorem dedK_len (ks : List κ) : (dedK ks).length ≤ ks.length := by
  have : ∀ (ks acc : List κ), (ks.foldl addK acc).length ≤ acc.length + ks.length := by
    intro ks
    induction ks with
    | nil => intro acc; exact Nat.le_refl _
    | cons k ks ih =>
      intro acc
      have h1 := ih (addK acc k)
      have h2 := addK_len (ks := acc) k
      rw [List.foldl_cons, List.length_cons]
      omega
  have h := this ks []
  rw [List.length_nil] at h
  unfold dedK
  omega
theorem setG_update {I : Addr} {fp wr : List Addr} {G : Array GenState → Array GenState → Prop} {n : Nat} {Pv : Nat → Value → Prop} {St : Nat → Shared → Prop} {R : Result → Shared → Prop}
    (W : WalksS P w A.in1 I fp wr G n Pv St) (S : Addr) (hSf : S ∉ fp) (ns : List κ) (hn : n = ns.length) (hb : ns.length + 1 < scanBound) (hval : ∀ i v, Pv i v → ∃ k, ns[i]? = some k ∧ knd.is k v = true ∧ v.scannable = true) :
    ∀ (k i : Nat) (s : Shared), n - i = k → i ≤ n → St i s → SetG knd s.heap S (dedK (ns.take i)) →
      (∀ s', Moved (S :: wr) G s s' → SetG knd s'.heap S (dedK ns) → R (.ok (.ret .none)) s') →
      codeAny (model P w) A (.builtin "set.update.loop" ⟨[.ref S, .ref I], []⟩) R s := by
  have hSw : S ∉ wr := fun h => hSf (W.sub _ h)
  have hsub : ∀ b ∈ wr, b ∈ S :: wr := fun b hb => List.mem_cons_of_mem _ hb
  intro k
  induction k with
  | zero =>
    intro i s hk' hi hst hS hR
    have hin : i = n := by omega
    subst hin
    refine codeAny_builtin F.entry_set_update_loop ?_
    rw [Around.under_plainId F.plain_set_update_loop _]
    show wpAny _ A.in1 (pyNext (.ref I) >>= _) _ _ s
    refine wpAny_bind (W.done s _ _ hst fun s' hm => ?_)
    show wpAny _ A.in1 (PySem.ret Value.none) _ _ s'
    have e : ns.take i = ns := List.take_of_length_le (by omega)
    rw [e] at hS
    exact wpAny_pure (hR s' (hm.mono hsub) (hS.at fun o e => hm.heap S o hSw e))
  | succ k ih =>
    intro i s hk' hi hst hS hR
    have hlt : i < n := by omega
    refine codeAny_builtin F.entry_set_update_loop ?_
    rw [Around.under_plainId F.plain_set_update_loop _]
    show wpAny _ A.in1 (pyNext (.ref I) >>= _) _ _ s
    refine wpAny_bind (W.item i s _ _ hlt hst fun v s' hP hst' hm => ?_)
    obtain ⟨z, hz, hkey, hsc⟩ := hval i v hP
    have hS' : SetG knd s'.heap S (dedK (ns.take i)) := hS.at fun o e => hm.heap S o hSw e
    show wpAny _ A.in1 (holding [v] (setAdd S v) >>= _) _ _ s'
    refine wpAny_bind (wpAny_holding ?_)
    have hlen : (dedK (ns.take i)).length ≤ i := Nat.le_trans (dedK_len _) (by rw [List.length_take]; omega)
    refine setG_addv hkey hsc hS' (by omega) fun h' b hsb hS2 => ?_
    rw [← dedK_take hz] at hS2
    refine wpAny_pure ⟨plainId_quiet F.plain_set_update_loop _, ih (i + 1) _ (by omega) hlt (W.frame _ s' _ _ hst' (Nat.le_succ _) fun b hb o e => ?_) hS2 fun s'' hm'' hS'' => ?_⟩
    · rw [hsb.2 b (fun h : b = S => hSf (by rw [← h]; exact hb))]; exact e
    · refine hR s'' (Moved.trans W.gtrans ((hm.mono hsub).then_heap (Nat.le_succ _) fun b o hb e => ?_) hm'') hS''
      rw [hsb.2 b (fun h : b = S => hb (by rw [h]; exact List.mem_cons_self))]; exact e
end
end S3

/-! SG3: set(a tuple), set(a list). -/
namespace S3
open PySem PySem.Spec PyProof.Rows L2
section
variable {P : Program} {w : World} {κ : Type} [DecidableEq κ] {knd : PySem.KeyKind P w κ} {A : Around} {E : Value → Shared → Prop} {s : Shared} {a : Addr} {ks : List κ}
set_option maxRecDepth 100000 in
set_option maxHeartbeats 3200000 in
theorem call_set_tupG {l : Addr} {items : Array Value} (ns : List κ) {Q : Value → Shared → Prop} (hh : A.handled = none) (hl : s.heap.IsTuple l items) (hisz : items.size = ns.length) (hit : ∀ (i : Nat) (v : Value), items[i]? = some v → ∃ k, ns[i]? = some k ∧ knd.is k v = true ∧ v.scannable = true) (hb : ns.length + 1 < scanBound)
    (h : ∀ (h' : Heap) (tk : Nat), SetG knd h' s.heap.objs.size (dedK ns) → (∀ b o, s.heap.get? b = some o → h'.get? b = some o) → Q (.ref s.heap.objs.size) { s with heap := h', toks := tk }) :
    wpAny (model P w) A (call (.type "set") [.ref l]) Q E s := by
  obtain ⟨c, tl, hmro⟩ := F.called_set.mro
  have hmade := F.called_set.made
  have hsub := F.called_set.sub
  refine wpAny_call (codeAny_of_tree ?_)
  show wpAny _ _ (callAny (.type "set") _) _ _ _
  refine wpAny_pure ⟨Code.quiet_builtin _ (by decide +kernel), codeAny_builtin F.entry_type_call ?_⟩
  rw [Around.under_plain (weight_type_call_type "set" [.ref l] []) rfl]
  have h1 := F.called_set.notType
  have h2 := F.called_set.canCreate
  have hct := F.typeCall_set_1 (.ref l)
  repeat (any_goals (first | assumption | wp_step))

  refine codeAny_mono (code_set_led1 (.ref l) (E := E) (Q₁ := fun obj s₁ => obj = .ref s.heap.objs.size ∧ s₁ = { s with heap := s.heap.push { cls := .type "set", dict := none, data := .set #[] 0 (.fresh 0 0 (!w.params.followText "set-order")) } }) ⟨rfl, rfl⟩) fun r s₁ hr => ?_
  cases r with
  | error e => exact hr
  | ok fl =>
    cases fl with
    | ret obj =>
      obtain ⟨rfl, rfl⟩ := hr
      have hS : (s.heap.push { cls := .type "set", dict := none, data := .set #[] 0 (.fresh 0 0 (!w.params.followText "set-order")) }).get? s.heap.objs.size = some { cls := .type "set", dict := none, data := .set #[] 0 (.fresh 0 0 (!w.params.followText "set-order")) } := Heap.get?_push_size _ rfl
      have hT : Shared.TypeIs { s with heap := s.heap.push { cls := .type "set", dict := none, data := .set #[] 0 (.fresh 0 0 (!w.params.followText "set-order")) } } (.ref s.heap.objs.size) "set" := ⟨_, hS, rfl⟩
      have hli := F.called_set.init.lookup
      have hbi := F.called_set.init.bind (.ref s.heap.objs.size)
      repeat (any_goals (first | assumption | wp_step))

      refine codeAny_mono (codeAny_call_builtin (R := wants (fun r s₂ => r = .none ∧ ∃ h' tk, s₂ = { s with heap := h', toks := tk } ∧ SetG knd h' s.heap.objs.size (dedK ns) ∧
          (∀ b o, s.heap.get? b = some o → h'.get? b = some o)) E) F.called_set.init.plain F.entry_set_init (check_set_init_1 hT ?_)) fun r₂ s₂ hr₂ => ?_
      · obtain ⟨ol, hol, hcl, nl, hdl⟩ := hl
        obtain ⟨ocls, odict, odata, oslots⟩ := ol
        simp only at hcl hdl
        subst hcl; subst hdl
        have hol' : (s.heap.push { cls := .type "set", dict := none, data := .set #[] 0 (.fresh 0 0 (!w.params.followText "set-order")) }).get? l = some { cls := .type "tuple", dict := odict, data := .seq items nl, slots := oslots } := Heap.get?_push_of_some _ hol
        have hsls := F.sub_tuple_set
        have hslf := F.sub_tuple_frozenset
        have hne : (Value.type "tuple" == Value.type "dict") = false := by decide
        have hl1 : (s.heap.push { cls := .type "set", dict := none, data := .set #[] 0 (.fresh 0 0 (!w.params.followText "set-order")) }).IsTuple l items := ⟨_, hol', rfl, nl, rfl⟩
        unfold Builtin.«set.__init__» noKeywords Builtin.Frozenset.updateFrom
        generalize hPI : pyIter = PI
        wp_walk
        subst hPI

        refine wpAny_pyIter_tuple hl1 ?_
        refine wpAny_bind (wpAny_runValue ?_)
        have hlS : l < s.heap.objs.size := Heap.lt_size hol
        have hh3 : A.in1.in1.in1.handled = none := by simp [hh]
        have hz1 : (s.heap.push { cls := .type "set", dict := none, data := .set #[] 0 (.fresh 0 0 (!w.params.followText "set-order")) }).objs.size = s.heap.objs.size + 1 := Heap.size_push ..
        have hneI : l ≠ (s.heap.push { cls := .type "set", dict := none, data := .set #[] 0 (.fresh 0 0 (!w.params.followText "set-order")) }).objs.size := by
          rw [Heap.size_push]; exact Nat.ne_of_lt (Nat.lt_succ_of_lt hlS)
        have hSf : s.heap.objs.size ∉ [(s.heap.push { cls := .type "set", dict := none, data := .set #[] 0 (.fresh 0 0 (!w.params.followText "set-order")) }).objs.size, l] := by
          rw [Heap.size_push]; simp only [List.mem_cons, List.mem_singleton, List.not_mem_nil, or_false, not_or]
          exact ⟨Nat.ne_of_lt (Nat.lt_succ_self _), Nat.ne_of_gt hlS⟩
        have hval : ∀ (i : Nat) (v : Value), items[i]? = some v → ∃ k, ns[i]? = some k ∧ knd.is k v = true ∧ v.scannable = true := hit
        refine setG_update ((Walks.tuple hh3 _ l hneI items).toS) s.heap.objs.size
          hSf ns hisz hb hval (items.size - 0) 0 _ (by omega) (Nat.zero_le _)
          ⟨⟨_, Heap.get?_push_size _ rfl, rfl, rfl⟩, (hl1.push _)⟩ ?hS0 ?hR
        case hS0 =>
          have hget : ((s.heap.push { cls := .type "set", dict := none, data := .set #[] 0 (.fresh 0 0 (!w.params.followText "set-order")) }).push { cls := .type "tuple_iterator", data := .fields #[.ref l, .int 0 0] }).get? s.heap.objs.size
              = some { cls := .type "set", dict := none, data := .set #[] 0 (.fresh 0 0 (!w.params.followText "set-order")) } := Heap.get?_push_of_some _ hS
          exact setG_fresh hget
        case hR =>
          intro s' hm hS'
          obtain ⟨h', g2, d', tk', os'⟩ := s'
          have eg : g2 = s.gens := hm.gens
          have ed : d' = s.drawn := hm.drawn
          have eo : os' = s.os := hm.os
          subst eg; subst ed; subst eo
          show wpAny _ _ _ _ _ _
          refine wpAny_pure ?_
          show wpAny _ _ (PySem.ret Value.none) _ _ _
          refine wpAny_pure ⟨rfl, h', tk', rfl, hS', fun b o e => ?_⟩
          have hb0 : b < s.heap.objs.size := Heap.lt_size e
          have hb1 : b ≠ s.heap.objs.size := Nat.ne_of_lt hb0
          have hb2 : b ≠ (s.heap.push { cls := .type "set", dict := none, data := .set #[] 0 (.fresh 0 0 (!w.params.followText "set-order")) }).objs.size := by
            rw [Heap.size_push]; exact Nat.ne_of_lt (Nat.lt_succ_of_lt hb0)
          exact hm.heap b o (by simp only [List.mem_cons, List.mem_singleton, List.not_mem_nil, or_false, not_or]; exact ⟨hb1, hb2⟩) (Heap.get?_push_of_some _ (Heap.get?_push_of_some _ e))

      · cases r₂ with
        | error e => exact hr₂
        | ok fl₂ =>
          cases fl₂ with
          | ret r =>
            obtain ⟨rfl, h', tk, rfl, hS', hk'⟩ := hr₂
            repeat (any_goals (first | assumption | wp_step))
            exact h _ _ hS' hk'
          | _ => exact hr₂.elim
    | _ => exact hr.elim

set_option maxRecDepth 100000 in
set_option maxHeartbeats 3200000 in
theorem call_set_lstG {l : Addr} {items : Array Value} (ns : List κ) {Q : Value → Shared → Prop} (hh : A.handled = none) (hl : s.heap.IsList l items) (hisz : items.size = ns.length) (hit : ∀ (i : Nat) (v : Value), items[i]? = some v → ∃ k, ns[i]? = some k ∧ knd.is k v = true ∧ v.scannable = true) (hb : ns.length + 1 < scanBound)
    (h : ∀ (h' : Heap) (tk : Nat), SetG knd h' s.heap.objs.size (dedK ns) → (∀ b o, s.heap.get? b = some o → h'.get? b = some o) → Q (.ref s.heap.objs.size) { s with heap := h', toks := tk }) :
    wpAny (model P w) A (call (.type "set") [.ref l]) Q E s := by
  obtain ⟨c, tl, hmro⟩ := F.called_set.mro
  have hmade := F.called_set.made
  have hsub := F.called_set.sub
  refine wpAny_call (codeAny_of_tree ?_)
  show wpAny _ _ (callAny (.type "set") _) _ _ _
  refine wpAny_pure ⟨Code.quiet_builtin _ (by decide +kernel), codeAny_builtin F.entry_type_call ?_⟩
  rw [Around.under_plain (weight_type_call_type "set" [.ref l] []) rfl]
  have h1 := F.called_set.notType
  have h2 := F.called_set.canCreate
  have hct := F.typeCall_set_1 (.ref l)
  repeat (any_goals (first | assumption | wp_step))

  refine codeAny_mono (code_set_led1 (.ref l) (E := E) (Q₁ := fun obj s₁ => obj = .ref s.heap.objs.size ∧ s₁ = { s with heap := s.heap.push { cls := .type "set", dict := none, data := .set #[] 0 (.fresh 0 0 (!w.params.followText "set-order")) } }) ⟨rfl, rfl⟩) fun r s₁ hr => ?_
  cases r with
  | error e => exact hr
  | ok fl =>
    cases fl with
    | ret obj =>
      obtain ⟨rfl, rfl⟩ := hr
      have hS : (s.heap.push { cls := .type "set", dict := none, data := .set #[] 0 (.fresh 0 0 (!w.params.followText "set-order")) }).get? s.heap.objs.size = some { cls := .type "set", dict := none, data := .set #[] 0 (.fresh 0 0 (!w.params.followText "set-order")) } := Heap.get?_push_size _ rfl
      have hT : Shared.TypeIs { s with heap := s.heap.push { cls := .type "set", dict := none, data := .set #[] 0 (.fresh 0 0 (!w.params.followText "set-order")) } } (.ref s.heap.objs.size) "set" := ⟨_, hS, rfl⟩
      have hli := F.called_set.init.lookup
      have hbi := F.called_set.init.bind (.ref s.heap.objs.size)
      repeat (any_goals (first | assumption | wp_step))

      refine codeAny_mono (codeAny_call_builtin (R := wants (fun r s₂ => r = .none ∧ ∃ h' tk, s₂ = { s with heap := h', toks := tk } ∧ SetG knd h' s.heap.objs.size (dedK ns) ∧
          (∀ b o, s.heap.get? b = some o → h'.get? b = some o)) E) F.called_set.init.plain F.entry_set_init (check_set_init_1 hT ?_)) fun r₂ s₂ hr₂ => ?_
      · obtain ⟨ol, hol, hcl, nl, hdl⟩ := hl
        obtain ⟨ocls, odict, odata, oslots⟩ := ol
        simp only at hcl hdl
        subst hcl; subst hdl
        have hol' : (s.heap.push { cls := .type "set", dict := none, data := .set #[] 0 (.fresh 0 0 (!w.params.followText "set-order")) }).get? l = some { cls := .type "list", dict := odict, data := .seq items nl, slots := oslots } := Heap.get?_push_of_some _ hol
        have hsls := F.sub_list_set
        have hslf := F.sub_list_frozenset
        have hne : (Value.type "list" == Value.type "dict") = false := by decide
        have hl1 : (s.heap.push { cls := .type "set", dict := none, data := .set #[] 0 (.fresh 0 0 (!w.params.followText "set-order")) }).IsList l items := ⟨_, hol', rfl, nl, rfl⟩
        unfold Builtin.«set.__init__» noKeywords Builtin.Frozenset.updateFrom
        generalize hPI : pyIter = PI
        wp_walk
        subst hPI

        refine wpAny_pyIter_list hl1 ?_
        refine wpAny_bind (wpAny_runValue ?_)
        have hlS : l < s.heap.objs.size := Heap.lt_size hol
        have hh3 : A.in1.in1.in1.handled = none := by simp [hh]
        have hz1 : (s.heap.push { cls := .type "set", dict := none, data := .set #[] 0 (.fresh 0 0 (!w.params.followText "set-order")) }).objs.size = s.heap.objs.size + 1 := Heap.size_push ..
        have hneI : l ≠ (s.heap.push { cls := .type "set", dict := none, data := .set #[] 0 (.fresh 0 0 (!w.params.followText "set-order")) }).objs.size := by
          rw [Heap.size_push]; exact Nat.ne_of_lt (Nat.lt_succ_of_lt hlS)
        have hSf : s.heap.objs.size ∉ [(s.heap.push { cls := .type "set", dict := none, data := .set #[] 0 (.fresh 0 0 (!w.params.followText "set-order")) }).objs.size, l] := by
          rw [Heap.size_push]; simp only [List.mem_cons, List.mem_singleton, List.not_mem_nil, or_false, not_or]
          exact ⟨Nat.ne_of_lt (Nat.lt_succ_self _), Nat.ne_of_gt hlS⟩
        have hval : ∀ (i : Nat) (v : Value), items[i]? = some v → ∃ k, ns[i]? = some k ∧ knd.is k v = true ∧ v.scannable = true := hit
        refine setG_update ((Walks.list hh3 _ l hneI items).toS) s.heap.objs.size
          hSf ns hisz hb hval (items.size - 0) 0 _ (by omega) (Nat.zero_le _)
          ⟨⟨_, Heap.get?_push_size _ rfl, rfl, rfl⟩, (hl1.push _)⟩ ?hS0 ?hR
        case hS0 =>
          have hget : ((s.heap.push { cls := .type "set", dict := none, data := .set #[] 0 (.fresh 0 0 (!w.params.followText "set-order")) }).push { cls := .type "list_iterator", data := .fields #[.ref l, .int 0 0] }).get? s.heap.objs.size
              = some { cls := .type "set", dict := none, data := .set #[] 0 (.fresh 0 0 (!w.params.followText "set-order")) } := Heap.get?_push_of_some _ hS
          exact setG_fresh hget
        case hR =>
          intro s' hm hS'
          obtain ⟨h', g2, d', tk', os'⟩ := s'
          have eg : g2 = s.gens := hm.gens
          have ed : d' = s.drawn := hm.drawn
          have eo : os' = s.os := hm.os
          subst eg; subst ed; subst eo
          show wpAny _ _ _ _ _ _
          refine wpAny_pure ?_
          show wpAny _ _ (PySem.ret Value.none) _ _ _
          refine wpAny_pure ⟨rfl, h', tk', rfl, hS', fun b o e => ?_⟩
          have hb0 : b < s.heap.objs.size := Heap.lt_size e
          have hb1 : b ≠ s.heap.objs.size := Nat.ne_of_lt hb0
          have hb2 : b ≠ (s.heap.push { cls := .type "set", dict := none, data := .set #[] 0 (.fresh 0 0 (!w.params.followText "set-order")) }).objs.size := by
            rw [Heap.size_push]; exact Nat.ne_of_lt (Nat.lt_succ_of_lt hb0)
          exact hm.heap b o (by simp only [List.mem_cons, List.mem_singleton, List.not_mem_nil, or_false, not_or]; exact ⟨hb1, hb2⟩) (Heap.get?_push_of_some _ (Heap.get?_push_of_some _ e))

      · cases r₂ with
        | error e => exact hr₂
        | ok fl₂ =>
          cases fl₂ with
          | ret r =>
            obtain ⟨rfl, h', tk, rfl, hS', hk'⟩ := hr₂
            repeat (any_goals (first | assumption | wp_step))
            exact h _ _ hS' hk'
          | _ => exact hr₂.elim
    | _ => exact hr.elim

end
end S3

/-! SG4: sets over the abstract heap: add, discard, sorted, {x}; sorted of texts. -/
namespace S3
open PySem PySem.Spec PyProof.Rows L2
/-! ### the one order of texts -/
def leS (a b : Str) : Bool := !decide (b.cps.toList < a.cps.toList)
theorem leS_iff {a b : Str} : leS a b = true ↔ a.cps.toList ≤ b.cps.toList := by
  unfold leS
  rw [Bool.not_eq_true', decide_eq_false_iff_not]
  exact List.not_lt
theorem cps_inj {a b : Str} (h : a.cps.toList = b.cps.toList) : a = b := by
  obtain ⟨a⟩ := a
  obtain ⟨b⟩ := b
  congr
  exact Array.toList_inj.mp h
theorem leS_trans {a b c : Str} (h1 : leS a b = true) (h2 : leS b c = true) : leS a c = true := leS_iff.mpr (List.le_trans (leS_iff.mp h1) (leS_iff.mp h2))
theorem leS_total (a b : Str) : (leS a b || leS b a) = true := by
  rw [Bool.or_eq_true, leS_iff, leS_iff]
  exact List.le_total _ _
theorem leS_anti {a b : Str} (h1 : leS a b = true) (h2 : leS b a = true) : a = b := cps_inj (List.le_antisymm (leS_iff.mp h1) (leS_iff.mp h2))
def sortS (xs : List Str) : List Str := xs.mergeSort leS
theorem sortS_perm (xs : List Str) : (sortS xs).Perm xs := List.mergeSort_perm xs leS
theorem sortS_pair (xs : List Str) : (sortS xs).Pairwise (fun a b => leS a b = true) := List.pairwise_mergeSort (le := leS) (fun _ _ _ h1 h2 => leS_trans h1 h2) leS_total xs
theorem sort_uniq {xs ys : List Str} (p : ys.Perm xs) (h : ys.Pairwise (fun a b => leS a b = true)) : ys = sortS xs :=
  List.Perm.eq_of_pairwise (fun a b _ _ h1 h2 => leS_anti h1 h2) h (sortS_pair xs) (p.trans (sortS_perm xs).symm)
theorem risingS_pair : ∀ (x : Str) (xs : List Str), risingS x xs = true → (x :: xs).Pairwise (fun a b => leS a b = true)
  | x, [], _ => by simp
  | x, y :: xs, h => by
    unfold risingS at h
    rw [Bool.and_eq_true] at h
    have ih := risingS_pair y xs h.2
    have h1 : leS x y = true := by unfold leS; rw [← ltCps_eq]; exact h.1
    refine List.pairwise_cons.mpr ⟨fun z hz => ?_, ih⟩
    rcases List.mem_cons.mp hz with e | e
    · rw [e]; exact h1
    · exact leS_trans h1 ((List.pairwise_cons.mp ih).1 z e)
theorem sortedS_is {xs ys : List Str} (p : ys.Perm xs) (h : sortedS ys = true) : ys = sortS xs := by
  refine sort_uniq p ?_
  cases ys with
  | nil => exact List.Pairwise.nil
  | cons x ys => exact risingS_pair x ys h
theorem sortS_congr {xs ys : List Str} (p : xs.Perm ys) : sortS xs = sortS ys := sort_uniq ((sortS_perm xs).trans p) (sortS_pair xs)

def addKey (ks : List Key) (k : Key) : List Key := if kIn k ks then ks else ks ++ [k]
theorem addKey_is (ks : List Key) (k : Key) : addK ks k = addKey ks k := by
  unfold addK addKey
  by_cases h : k ∈ ks
  · rw [if_pos h, if_pos (kIn_iff.mpr h)]
  · rw [if_neg h, if_neg (fun z => h (kIn_iff.mp z))]
def delKey (ks : List Key) (k : Key) : List Key := ks.filter fun j => decide (j ≠ k)
theorem delKey_is (ks : List Key) (k : Key) : delK ks k = delKey ks k := rfl
def dedKey (ks : List Key) : List Key := ks.foldl addKey []
theorem dedKey_is (ks : List Key) : dedK ks = dedKey ks := by
  unfold dedK dedKey
  congr 1
  funext a b
  exact addKey_is a b
section
variable {X : Cx}
/-! ### add, discard -/
def rSAddG (P : Program) (w : World) : V → List V → Hp → VK → Prop := fun x xs H Q => ∃ (a : Addr) (k : Key) (ks : List Key), x = V.ref a ∧ xs = [kV k] ∧ H a = some (SetGO P w a ks) ∧ ks.length + 1 < scanBound ∧ Q .non (upd H a (SetGO P w a (addKey ks k)))
theorem mt_saddG : MtR X "set.add" (rSAddG X.prog X.w) := by
  intro pins s σ H x xs v us Q I rx rxs h
  obtain ⟨a, k, ks, rfl, rfl, ha, room, q⟩ := h
  cases rx
  cases rxs with
  | cons ry rt =>
    cases rt
    refine setG_add (kV_is ry) (key_scan ry) (setG_get I ha) room fun h' sb new => ?_
    rw [addKey_is] at new
    have he : ∃ u, h'.get? a = some u := by
      have ⟨o, _, _, _, ho, _⟩ := new
      exact ⟨o, ho⟩
    exact ⟨.non, upd H a (SetGO X.prog X.w a (addKey ks k)), I.write (e := a) (t' := s.toks + 1) (by rw [ha]; trivial) (.inl rfl) (fun b u hb hu => (sb.2 b hb).trans hu) he (setG_new new), rfl, q⟩
def rSDelG (P : Program) (w : World) : V → List V → Hp → VK → Prop := fun x xs H Q => ∃ (a : Addr) (k : Key) (ks : List Key), x = V.ref a ∧ xs = [kV k] ∧ H a = some (SetGO P w a ks) ∧ Q .non (upd H a (SetGO P w a (delKey ks k)))
theorem mt_sdelG : MtR X "set.discard" (rSDelG X.prog X.w) := by
  intro pins s σ H x xs v us Q I rx rxs h
  obtain ⟨a, k, ks, rfl, rfl, ha, q⟩ := h
  cases rx
  cases rxs with
  | cons ry rt =>
    cases rt
    refine setG_discard (kV_is ry) (key_scan ry) (setG_get I ha) fun h' sb new => ?_
    rw [delKey_is] at new
    have he : ∃ u, h'.get? a = some u := by
      have ⟨o, _, _, _, ho, _⟩ := new
      exact ⟨o, ho⟩
    exact ⟨.non, upd H a (SetGO X.prog X.w a (delKey ks k)), I.write (e := a) (t' := s.toks + 1) (by rw [ha]; trivial) (.inl rfl) (fun b u hb hu => (sb.2 b hb).trans hu) he (setG_new new), rfl, q⟩
def isSetV (P : Program) (w : World) : V → Hp → Prop := fun x H => ∃ a ks, x = V.ref a ∧ H a = some (SetGO P w a ks)
variable {o e : Expr} {es : List Expr} {to : TE} {t : TA} {apos cpos : Pos}
theorem pe_setM {n : Str} {id : String} {r : V → List V → Hp → VK → Prop} (pl : PlainAttrs "set") (sl : Slot "set" n id) (ty : typeOf (.builtin id) = pure (.type "method_descriptor")) (mt : MtR X id r) (ho : PE X o to) (ha : PA X (e :: es) t)
    (hbase : attributeBase o n X.env (eval o X.env) = eval o X.env := by rfl)
    (hfew : ((backTo cpos (starEach (e :: es) X.env)).all (fun x => !x.1) && (backToKw cpos (keywordEach [] X.env)).all (fun x => x.1.isSome)
      && decide ((e :: es).length + ([] : List Keyword).length + (if ([] : List Keyword).isEmpty then 0 else 1) < 30)) = true := by rfl)
    (hline : (apos.endLine == cpos.line) = true := by rfl) (hs : starEach (e :: es) X.env = (false, eval e X.env) :: starEach es X.env := by rfl) (hplain : (backTo cpos (starEach es X.env)).any (·.1) = false := by rfl) :
    PE X (.Call (.Attribute o n apos) (e :: es) [] cpos) (fun σ H Q => to σ H fun x H1 => isSetV X.prog X.w x H1 ∧ t σ H1 fun xs H2 => r x xs H2 Q) := by
  refine ⟨fun pins s σ H Q I h => ?_⟩
  refine wpAny_Call_method_late hbase hfew hline rfl (thn (ho.run pins s σ H _ I h) fun v s1 ⟨x, H1, I1, r1, ty1, q1⟩ => ?_)
  obtain ⟨a, ks, rfl, hka⟩ := ty1
  have hS := (setG_get I1 hka).setOf
  cases r1
  refine ⟨"set", id, pl, sl, ty, hS.typeIs, hS.noDict, ?_⟩
  have hA := ha.run cpos pins s1 σ H1 _ I1 q1
  rw [hs] at hA ⊢
  refine Calls.callWith_builtin (by show (false || (backTo cpos (starEach es X.env)).any (·.1)) = false; rw [hplain] <;> rfl) (Calls.evalArgs_plain ?_)
  exact thn hA fun us s2 ⟨vs, H2, I2, r2, q2⟩ => mt pins s2 σ H2 (.ref a) vs (.ref a) us Q I2 rfl r2 q2
end
/-! ### sorted of a set of texts, of a list of texts -/
section
variable {P : Program} {w : World} {A : Around} {E : Value → Shared → Prop} {s : Shared} {a : Addr}
def unKey : Option Key → Option Str
  | some (Sum.inr x) => some x
  | _ => none
theorem strsAre_perm {vs : List Value} {ks : List Str} (h : (vs.map fun v => kOf (mixKind P w) v).Perm ((ks.map fun x => (Sum.inr x : Key)).map some)) (el : ∀ v ∈ vs, ∃ k, (mixKind P w).is k v = true) : ∃ ss, StrsAre vs ss ∧ ss.Perm ks := by
  have all : ∀ vs : List Value, (∀ v ∈ vs, ∃ x, kOf (mixKind P w) v = some (Sum.inr x) ∧ ∃ t, v = .str x t) → ∃ ss, StrsAre vs ss ∧ vs.map (fun v => kOf (mixKind P w) v) = (ss.map fun x => (Sum.inr x : Key)).map some := by
    intro vs
    induction vs with
    | nil => intro _; exact ⟨[], .nil, rfl⟩
    | cons v vs ih =>
      intro h
      obtain ⟨x, h1, t, rfl⟩ := h v List.mem_cons_self
      obtain ⟨ss, h2, h3⟩ := ih fun u hu => h u (List.mem_cons_of_mem _ hu)
      exact ⟨x :: ss, .cons x t h2, by rw [List.map_cons, h1, h3]; rfl⟩
  obtain ⟨ss, h1, h2⟩ := all vs fun v hv => by
    obtain ⟨k, hk⟩ := el v hv
    have hm : kOf (mixKind P w) v ∈ (ks.map fun x => (Sum.inr x : Key)).map some := h.mem_iff.mp (List.mem_map.mpr ⟨v, hv, rfl⟩)
    rw [List.map_map] at hm
    obtain ⟨x, hx, e⟩ := List.mem_map.mp hm
    have e : some (Sum.inr x : Key) = kOf (mixKind P w) v := e
    refine ⟨x, e.symm, ?_⟩
    rw [kOf_is hk] at e
    have e2 := Option.some.inj e
    subst e2
    rcases keyIs_shape (show keyIs (Sum.inr x) v = true from hk) with ⟨i, t, e3, q⟩ | ⟨y, t, e3, q⟩
    · cases e3
    · cases e3; exact ⟨t, q⟩
  rw [h2] at h
  have inj : ∀ x y : Str, some (Sum.inr x : Key) = some (Sum.inr y) → x = y := fun x y h => Sum.inr.inj (Option.some.inj h)
  refine ⟨ss, h1, ?_⟩
  have h3 : ∀ l : List Str, ((l.map fun x => (Sum.inr x : Key)).map some).filterMap unKey = l := fun l => by
    rw [List.map_map, List.filterMap_map]
    exact List.filterMap_some
  have := h.filterMap unKey
  rw [h3, h3] at this
  exact this
theorem sorted_setG {ks : List Str} {Q : Value → Shared → Prop} (R : SetG (mixKind P w) s.heap a (ks.map Sum.inr)) (hh : A.handled = none)
    (hQ : ∀ s' p (out : Array Value) (c : Nat), (∀ b o, s.heap.get? b = some o → s'.heap.get? b = some o) → s'.gens = s.gens → s'.os = s.os → s.heap.objs.size ≤ p →
      s'.heap.get? p = some (seqObj "list" out c) → StrsAre out.toList (sortS ks) → Q (.ref p) s') :
    wpAny (model P w) A (call (.builtin "sorted") [.ref a]) Q E s := by
  obtain ⟨o, es, ep, t, ho, hex, hd, g, pm, nd, hb, hf, hr, hl⟩ := R
  refine Calls.call_function_entry kind_sorted plain_sorted entry_sorted (args_sorted1 _) ?_
  unfold Builtin.«sorted»
  refine wpAny_bind (m := checkCount "sorted" 1 1 _) (wpAny_pure ?_)
  refine wpAny_bind (collect_set (A := A.in1) hh ⟨o, ho, hex.1, hd⟩ hf hb hr hl fun s1 vs k1 hz g1 o1 pv => ?_)
  have hvl : vs.length = es.size := by rw [pv.length_eq, List.length_map, Array.length_toList]
  obtain ⟨ss, hS, hp⟩ : ∃ ss, StrsAre vs ss ∧ ss.Perm ks := by
    refine strsAre_perm (P := P) (w := w) ?_ fun v hv => ?_
    · have := pv.map (fun v => kOf (mixKind P w) v)
      rw [List.map_map] at this
      exact this.trans pm
    · obtain ⟨e, he, rfl⟩ := List.mem_map.mp (pv.mem_iff.mp hv)
      obtain ⟨⟨k, hk, _⟩, _⟩ := g e he
      exact ⟨k, hk⟩
  have hvz : vs.length ≤ sizeLine := by rw [hvl]; exact fits_of_scanBound hb
  refine wpAny_bind (wpAny_newList ?_ hvz)
  have hoL : (s1.heap.push (seqObj "list" vs.toArray 0)).get? s1.heap.objs.size = some (seqObj "list" vs.toArray 0) := Heap.get?_push_size _ rfl
  refine wpAny_bind (wpAny_holding (wpAny_call_entry slot_list_sort ⟨_, hoL, rfl⟩ entry_list_sort (list_sort_treeKAny strKind_oneLt hoL hS.keysOf (fun v₁ v₂ rest e => keyKind_strs (by rw [← e]; exact hS)) hvz fun st' hp' hs' => ⟨_, rfl, ?_⟩) (args_list_sort _)))
  obtain ⟨ys, g1', g2', g3'⟩ := sorted_out_str hS hp' hs'
  obtain ⟨c, hc⟩ := sortedHeap_at (vs := vs) (out := (arrOf st').map (·.2)) hoL
  have ey := sortedS_is (g2'.trans hp) g3'
  subst ey
  refine wpAny_pure ⟨_, rfl, hQ _ s1.heap.objs.size _ c (fun b u e => ?_) g1 o1 hz hc g1'⟩
  have q := k1 b u e
  have hlt := Heap.lt_size q
  show (sortedHeap (s1.heap.push (seqObj "list" vs.toArray 0)) s1.heap.objs.size vs _).get? b = some u
  rw [sortedHeap_old (Nat.ne_of_lt hlt) (by rw [Heap.size_push]; exact Nat.lt_succ_of_lt hlt)]
  exact Heap.get?_push_of_some _ q
end
section
variable {X : Cx}
def rSortG (K : PySem.W.Frag) (P : Program) (w : World) : List V → Hp → VK → Prop := fun vs H Q => ∃ (a : Addr) (xs : List Str), vs = [V.ref a] ∧ ((SqL K H a (xs.map V.str) ∧ xs.length ≤ sizeLine) ∨ H a = some (SetGO P w a (xs.map Sum.inr))) ∧
  ∀ p, H p = none → Q (.ref p) (upd H p (.lst ((sortS xs).map V.str)))
theorem cr_sortG (hc : X.calm = true) : CallR X (.builtin "sorted") (rSortG X.K X.prog X.w) := by
  intro pins s σ H vs us Q I r h
  obtain ⟨a, xs, rfl, hs, q⟩ := h
  rw [Vals.ref1 r]
  rcases hs with ⟨hs, hz⟩ | ha
  · obtain ⟨its, rv, hl, _⟩ := I.list hs
    have hlen0 := rv.length
    rw [List.length_map] at hlen0
    refine PyProof.Rows.sorted_strsAny hl.isList rv.strs (by rw [← hlen0]; exact hz) fun out ys h1 h2 h3 => ?_
    obtain ⟨ep, he'⟩ := PyProof.Rows.sortedAll_at s.heap its out
    have ey := sortedS_is h2 h3
    subst ey
    have hlen : ((sortS xs).map V.str).length ≤ sizeLine := by rw [List.length_map, h2.length_eq]; exact hz
    exact ⟨.ref _, upd H (s.heap.objs.size + 1) (.lst ((sortS xs).map V.str)), I.laid (t' := s.toks) (fun _ _ => PyProof.Rows.sortedAll_old) (Nat.le_succ _) ⟨hlen, out.toList, ep, vals_of_strs h1, he'⟩, rfl, q _ (I.hok.fresh (Nat.le_succ _))⟩
  · have R := setG_get I ha
    have sm := R.small
    refine sorted_setG R (I.ok.hd hc) fun s' p out c k g o hp hg hi => ?_
    have hlen : ((sortS xs).map V.str).length ≤ sizeLine := by
      rw [List.length_map, (sortS_perm xs).length_eq]
      rw [List.length_map] at sm
      exact fits_of_scanBound sm
    have hn : H p = none := I.hok.fresh hp
    have J : Inv X pins σ (upd H p (.lst ((sortS xs).map V.str))) { s with heap := s'.heap, gens := s'.gens, drawn := s'.drawn, toks := s'.toks } :=
      I.call (ch := []) (Un.laid k hp hn) (I.hok.laid k hp ⟨hlen, out.toList, c, vals_of_strs hi, hg⟩) (by rw [g]; exact I.bare) (fun _ z => nomatch z)
    have e : s' = { s with heap := s'.heap, gens := s'.gens, drawn := s'.drawn, toks := s'.toks } := by
      cases s'
      cases s
      cases o
      rfl
    rw [e]
    exact ⟨.ref p, _, J, rfl, q p hn⟩
end
end S3

/-! SG5: set(xs), {x} over the abstract heap. -/
namespace S3
open PySem PySem.Spec PyProof.Rows L2
section
variable {X : Cx}
theorem vals_keys {ks : List Key} {its : List Value} (r : Vals (ks.map kV) its) : its.length = ks.length ∧ ∀ (i : Nat) (v : Value), its.toArray[i]? = some v → ∃ k, ks[i]? = some k ∧ (mixKind X.prog X.w).is k v = true ∧ v.scannable = true := by
  have hl := r.length
  rw [List.length_map] at hl
  refine ⟨hl.symm, fun i v h => ?_⟩
  have h' : its[i]? = some v := by simpa using h
  have hi : i < ks.length := by rw [hl]; exact (List.getElem?_eq_some_iff.mp h').1
  have g := List.getElem?_eq_getElem hi
  obtain ⟨u, h1, h2⟩ := Vals.get (i := i) r (by rw [List.getElem?_map, g]; rfl)
  rw [h'] at h1
  cases h1
  exact ⟨_, g, kV_is h2, key_scan h2⟩
def rSetG (K : PySem.W.Frag) (P : Program) (w : World) : List V → Hp → VK → Prop := fun vs H Q => ∃ (a : Addr) (ks : List Key), vs = [V.ref a] ∧ (SqL K H a (ks.map kV) ∨ SqT K H a (ks.map kV)) ∧ ks.length + 1 < scanBound ∧
  ∀ p, H p = none → Q (.ref p) (upd H p (SetGO P w p (dedKey ks)))
theorem cr_setG (hc : X.calm = true) : CallR X (.type "set") (rSetG X.K X.prog X.w) := by
  intro pins s σ H vs us Q I r h
  obtain ⟨a, ks, rfl, hs, hb, q⟩ := h
  rw [Vals.ref1 r]
  have fin : ∀ (h' : Heap) (tk : Nat), SetG (mixKind X.prog X.w) h' s.heap.objs.size (dedK ks) → (∀ b o, s.heap.get? b = some o → h'.get? b = some o) → EP X pins σ Q (.ref s.heap.objs.size) { s with heap := h', toks := tk } := fun h' tk R k => by
    rw [dedKey_is] at R
    have hn : H s.heap.objs.size = none := I.hok.fresh (Nat.le_refl _)
    exact ⟨.ref _, upd H s.heap.objs.size (SetGO X.prog X.w s.heap.objs.size (dedKey ks)), I.laid (t' := tk) k (Nat.le_refl _) (setG_new R), rfl, q _ hn⟩
  rcases hs with hs | hs
  · obtain ⟨its, rv, hl, _⟩ := I.list hs
    obtain ⟨h1, h2⟩ := vals_keys (X := X) rv
    exact call_set_lstG (knd := mixKind X.prog X.w) ks (I.ok.hd hc) hl.isList (by rw [List.size_toArray]; exact h1) h2 hb fin
  · obtain ⟨its, rv, hl, _⟩ := I.tuple hs
    obtain ⟨h1, h2⟩ := vals_keys (X := X) rv
    exact call_set_tupG (knd := mixKind X.prog X.w) ks (I.ok.hd hc) hl (by rw [List.size_toArray]; exact h1) h2 hb fin
end
/-! {x} -/
section
variable {prog : Program} {w : World} {A : Around} {E : Value → Shared → Prop} {s : Shared}
theorem kds_coreG {road : DisplayRoad} {b : Bool} {elts : List (Bool × Sem Value)} {ts : List (Sem Value)} {Q : Value → Shared → Prop} (hroad : (road == .constants) = false) (hs : elts.findIdx? (·.1) = none) (hlen : elts.length ≤ 30) (hm : elts.map (·.2) = ts)
    (h : wpAny (model prog w) A (evalAll ts) (fun vs s' => PySem.W.KdsFill (model prog w) A E (road == .unsure) s.heap.objs.size Q vs s') E { s with heap := s.heap.push { cls := .type "set", dict := none, data := .set #[] 0 (.fresh 0 0 (!w.params.followText "set-order")) } }) :
    wpAny (model prog w) A (setDisplay road b elts) Q E s := by
  have hn : (if elts.length > 30 then 0 else (elts.findIdx? (·.1)).getD elts.length) = elts.length := by rw [if_neg (by omega), hs]; rfl
  unfold setDisplay
  try dsimp only
  rw [if_neg (by rw [hroad]; exact Bool.false_ne_true)]
  refine wpAny_bind (PpSet.newSet_ok ?_)
  dsimp only
  rw [hn, List.take_length, List.drop_length, hm]
  refine wpAny_bind (wpAny_holding ?_)
  refine wpAny_bind (wpAny_mono h (fun vs s' h' => ?_) fun _ _ x => x)
  refine wpAny_bind (wpAny_holding ?_)
  refine wpAny_bind (wpAny_mono (PySem.W.kds_for (fun x P s hx => ?_) vs s' h') (fun _ s1 h1 => ?_) fun _ _ x => x)
  · refine wpAny_bind (wpAny_mono hx (fun _ s2 h2 => ?_) fun _ _ x => x)
    first | exact wpAny_pure ⟨rfl, h2⟩ | exact wpAny_bind (wpAny_pure (wpAny_pure ⟨rfl, h2⟩))
  · cases hu : (road == DisplayRoad.unsure) with
    | false =>
      rw [hu] at h1
      have h2 : Q (.ref s.heap.objs.size) s1 := by simpa [PySem.W.KdsFill] using h1
      rw [if_neg Bool.false_ne_true]
      refine wpAny_pure ?_
      rw [List.forIn_nil]
      exact wpAny_pure (wpAny_pure h2)
    | true =>
      rw [hu] at h1
      have h2 : wpAny (model prog w) A (setUnled s.heap.objs.size) (fun _ s' => Q (.ref s.heap.objs.size) s') E s1 := by simpa [PySem.W.KdsFill] using h1
      rw [if_pos rfl]
      refine wpAny_bind (wpAny_rule (wpAny_mono h2 (fun _ s3 h3 => ?_) fun _ _ x => x))
      rw [List.forIn_nil]
      exact wpAny_pure (wpAny_pure h3)
end
section
variable {X : Cx} {a : Expr} {ta : TE}
/-- {x}: the set is made first, then x reckoned -/
def tSet1 (P : Program) (w : World) (ta : TE) : TE := fun σ H Q => ∀ p, H p = none → ta σ (upd H p (SetGO P w p [])) fun y H2 => ∃ k, y = kV k ∧ H2 p = some (SetGO P w p []) ∧ Q (.ref p) (upd H2 p (SetGO P w p [k]))
theorem pe_set1 {pos : Pos} (ha : PE X a ta) (hcd : PySem.W.kdsCode X.K X.env.code = true) (hp : PySem.W.kdsPlain a = true) : PE X (.Set [a] 0 pos) (tSet1 X.prog X.w ta) := by
  refine ⟨fun pins s σ H Q I h => ?_⟩
  rw [arm_eval_Set]
  refine wpAny_bind (wpAny_standAt ?_)
  refine wpAny_bind (PySem.W.kds_main I.kIn hcd fun b => ?_)
  rw [PySem.W.kds_star [a] (by rw [List.all_cons, hp]; rfl), List.map_map]
  refine kds_coreG (ts := (evalEach [a] X.env).map fun t => do let v ← t; standAt pos; pure v) (road0 [a]) ?_ ?_ ?_ ?_
  · refine List.findIdx?_eq_none_iff.mpr fun x hx => ?_
    obtain ⟨t, _, rfl⟩ := List.mem_map.mp hx
    rfl
  · rw [List.length_map, PySem.W.kds_len]
    show 1 ≤ 30
    omega
  · rw [List.map_map]
    try rfl
  · have hn : H s.heap.objs.size = none := I.hok.fresh (Nat.le_refl _)
    have I1 : Inv X pins σ (upd H s.heap.objs.size (SetGO X.prog X.w s.heap.objs.size [])) { s with heap := s.heap.push { cls := .type "set", dict := none, data := .set #[] 0 (.fresh 0 0 (!X.w.params.followText "set-order")) } } :=
      I.laid (t' := s.toks) (fun b u e => Heap.get?_push_of_some _ e) (Nat.le_refl _) (setG_new (setG_fresh (Heap.get?_push_size _ rfl)))
    refine PySem.W.kds_all pos [a] _ _ ?_
    refine thn (ha.run pins _ σ _ _ I1 (h _ hn)) fun v s2 ⟨y, H2, I2, ry, k, ey, hD, q⟩ => ?_
    subst ey
    refine PySem.W.kds_fill_cons ?_
    refine setG_addv (kV_is ry) (key_scan ry) (setG_get I2 hD) (by decide) fun h' b2 sb new => ?_
    have new' : SetG (mixKind X.prog X.w) h' s.heap.objs.size [k] := new
    have he : ∃ u, h'.get? s.heap.objs.size = some u := by
      have ⟨o, _, _, _, ho, _⟩ := new'
      exact ⟨o, ho⟩
    have I3 : Inv X pins σ (upd H2 s.heap.objs.size (SetGO X.prog X.w s.heap.objs.size [k])) { s2 with heap := h', toks := s2.toks + 1 } :=
      I2.write (e := s.heap.objs.size) (t' := s2.toks + 1) (by rw [hD]; trivial) (.inl rfl) (fun b u hb hu => (sb.2 b hb).trans hu) he (setG_new new')
    have hu : (displayRoad 0 [a] == DisplayRoad.unsure) = false := rfl
    rw [hu]
    exact PySem.W.kds_fill_nil rfl ⟨.ref _, _, I3, rfl, q⟩
end
end S3

/-! SG6: set comprehensions of two clauses (the steps of HandS.Comp's two clauses and of HandS.SetBool's set, for any keys). -/
namespace SX
open PySem PySem.Spec PyProof.Rows L2
open S3 (SetGO setG_new setG_fresh setG_get setG_add addKey addKey_is)
theorem addG_ok {X : Cx} {pins : List (Addr × Obj)} {σ : L2.St} {H : Hp} {s : Shared} {E : Value → Shared → Prop} {D : Addr} {k : Key} {ks : List Key} {v : Value} {Q : Value → Shared → Prop} (I : Inv X pins σ H s) (hD : H D = some (SetGO X.prog X.w D ks)) (room : ks.length + 1 < scanBound) (r : RelV (kV k) v)
    (h : ∀ s', Inv X pins σ (upd H D (SetGO X.prog X.w D (addKey ks k))) s' → Q .none s') : wpAny (model X.prog X.w) X.A (call (.builtin "set.add") [.ref D, v]) Q E s := by
  refine setG_add (kV_is r) (key_scan r) (setG_get I hD) room fun h' sb new => ?_
  rw [addKey_is] at new
  have he : ∃ u, h'.get? D = some u := by
    have ⟨o, _, _, _, ho, _⟩ := new
    exact ⟨o, ho⟩
  exact h _ (I.write (e := D) (t' := s.toks + 1) (by rw [hD]; trivial) (.inl rfl) (fun b u hb hu => (sb.2 b hb).trans hu) he (setG_new new))
theorem scTurn2_out (elt t0 i0 t1 i1 : Expr) (ifs0 ifs1 : List Expr) (scope : Scope) (pos : Pos) (it acc : Value) (env : Env) :
    compTurn (.SetComp elt [⟨t0, i0, ifs0, 0⟩, ⟨t1, i1, ifs1, 0⟩] scope pos) 0 it acc env = (do
      standAt i0.pos
      match ← pyNext it with
      | none => pure (.done .next)
      | some v =>
        letOwnedTupleGo t0 it v
        assign t0 env v
        let mut ok := true
        for c in ifs0 do
          if ok then ok ← isTrue c env (eval c env)
        if ok then
          let x ← eval i1 env
          standAt i1.pos
          let x ← foldedSetIterable i1 env x
          let _ ← runOwn (.compStart (.SetComp elt [⟨t0, i0, ifs0, 0⟩, ⟨t1, i1, ifs1, 0⟩] scope pos) 1 (← holding [x] (pyIter x)) acc env) env
        again (.compLoop (.SetComp elt [⟨t0, i0, ifs0, 0⟩, ⟨t1, i1, ifs1, 0⟩] scope pos) 0 it acc env)) := by rfl
theorem scTurn2_in (elt t0 i0 t1 i1 : Expr) (ifs0 ifs1 : List Expr) (scope : Scope) (pos : Pos) (it acc : Value) (env : Env) :
    compTurn (.SetComp elt [⟨t0, i0, ifs0, 0⟩, ⟨t1, i1, ifs1, 0⟩] scope pos) 1 it acc env = (do
      standAt i1.pos
      match ← pyNext it with
      | none => pure (.done .next)
      | some v =>
        letOwnedTupleGo t1 it v
        assign t1 env v
        let mut ok := true
        for c in ifs1 do
          if ok then ok ← isTrue c env (eval c env)
        if ok then
          (do let v ← eval elt env; standAt elt.pos; let _ ← call (.builtin "set.add") [acc, v])
        again (.compLoop (.SetComp elt [⟨t0, i0, ifs0, 0⟩, ⟨t1, i1, ifs1, 0⟩] scope pos) 1 it acc env)) := by rfl

section
variable {prog : Program} {w : World} {A : Around} {R : Result → Shared → Prop} {s : Shared} {elt t0 i0 t1 i1 : Expr} {ifs0 ifs1 : List Expr} {scope : Scope} {pos : Pos} {it acc : Value} {env : Env}
/-- the loop of the first clause -/
theorem scLoop2_out (hs : ∀ x, foldedSetIterable i1 env x = pure x) (I : Nat → Shared → Prop)
    (turn : ∀ n s, I n s → wpAny (model prog w) A (pyNext it) (fun r s₁ => match r with
      | none => R (.ok .next) s₁
      | some v => wpAny (model prog w) A (letOwnedTupleGo t0 it v) (fun _ s₁' => wpAny (model prog w) A (assign t0 env v) (fun _ s₂ =>
          wpAny (model prog w) A (forIn ifs0 true fun c r => if r = true then do let ok ← isTrue c env (eval c env); pure (ForInStep.yield ok) else pure (ForInStep.yield r)) (fun ok s₃ =>
            if ok = true then wpAny (model prog w) A (eval i1 env) (fun x s₄ => wpAny (model prog w) A (pyIter x) (fun it1 s₅ =>
              codeAny (model prog w) A (.compStart (.SetComp elt [⟨t0, i0, ifs0, 0⟩, ⟨t1, i1, ifs1, 0⟩] scope pos) 1 it1 acc env) (fun r s' => match r with
                | .ok _ => ∃ m, m < n ∧ I m s'
                | .error _ => False) s₅) (notedBy (model prog w) A env fun e s' => R (.error e) s') s₄) (notedBy (model prog w) A env fun e s' => R (.error e) s') s₃
            else ∃ m, m < n ∧ I m s₃) (notedBy (model prog w) A env fun e s' => R (.error e) s') s₂) (notedBy (model prog w) A env fun e s' => R (.error e) s') s₁') (notedBy (model prog w) A env fun e s' => R (.error e) s') s₁) (notedBy (model prog w) A env fun e s' => R (.error e) s') s)
    (n : Nat) (h : I n s) :
    codeAny (model prog w) A (.compLoop (.SetComp elt [⟨t0, i0, ifs0, 0⟩, ⟨t1, i1, ifs1, 0⟩] scope pos) 0 it acc env) R s := by
  refine codeAny_loop rfl I (fun n s hI => ?_) n h
  show wpAny _ A ((compTurn (.SetComp elt [⟨t0, i0, ifs0, 0⟩, ⟨t1, i1, ifs1, 0⟩] scope pos) 0 it acc env).onRaise (fun x => do noteFrame x env; theTreesLotGoes x)) _ _ s
  refine wpAny_noted ?_
  rw [scTurn2_out]
  refine wpAny_bind (wpAny_standAt (wpAny_bind (wpAny_mono (turn n s hI) (fun r s₁ h₁ => ?_) fun _ _ h' => h')))
  cases r with
  | none => exact wpAny_pure h₁
  | some v =>
    refine wpAny_bind (wpAny_mono h₁ (fun _ s₁' h₁' => ?_) fun _ _ h' => h')
    refine wpAny_bind (wpAny_mono h₁' (fun _ s₂ h₂ => wpAny_bind (wpAny_mono h₂ (fun ok s₃ h₃ => ?_) fun _ _ h' => h')) fun _ _ h' => h')
    cases ok with
    | false => exact wpAny_pure ⟨rfl, h₃⟩
    | true =>
      refine wpAny_bind (wpAny_mono h₃ (fun x s₄ h₄ => ?_) fun _ _ h' => h')
      refine wpAny_bind (wpAny_standAt (wpAny_bind (wpAny_of_eq (hs x) (wpAny_bind (wpAny_holding (wpAny_mono h₄ (fun it1 s₅ h₅ => ?_) fun _ _ h' => h'))))))
      refine wpAny_bind (wpAny_runOwn ?_)
      rw [Around.mark_none]
      refine codeAny_mono h₅ fun r s' hr => ?_
      cases r with
      | ok f =>
        first
          | exact wpAny_pure ⟨rfl, hr⟩
          | exact wpAny_bind (wpAny_pure (wpAny_pure ⟨rfl, hr⟩))
      | error e => exact hr.elim
/-- the loop of the second -/
theorem scLoop2_in (I : Nat → Shared → Prop)
    (turn : ∀ n s, I n s → wpAny (model prog w) A (pyNext it) (fun r s₁ => match r with
      | none => R (.ok .next) s₁
      | some v => wpAny (model prog w) A (letOwnedTupleGo t1 it v) (fun _ s₁' => wpAny (model prog w) A (assign t1 env v) (fun _ s₂ =>
          wpAny (model prog w) A (forIn ifs1 true fun c r => if r = true then do let ok ← isTrue c env (eval c env); pure (ForInStep.yield ok) else pure (ForInStep.yield r)) (fun ok s₃ =>
            if ok = true then wpAny (model prog w) A (eval elt env) (fun x s₄ =>
              wpAny (model prog w) A (call (.builtin "set.add") [acc, x]) (fun _ s₅ => ∃ m, m < n ∧ I m s₅) (notedBy (model prog w) A env fun e s' => R (.error e) s') s₄) (notedBy (model prog w) A env fun e s' => R (.error e) s') s₃
            else ∃ m, m < n ∧ I m s₃) (notedBy (model prog w) A env fun e s' => R (.error e) s') s₂) (notedBy (model prog w) A env fun e s' => R (.error e) s') s₁') (notedBy (model prog w) A env fun e s' => R (.error e) s') s₁) (notedBy (model prog w) A env fun e s' => R (.error e) s') s)
    (n : Nat) (h : I n s) :
    codeAny (model prog w) A (.compLoop (.SetComp elt [⟨t0, i0, ifs0, 0⟩, ⟨t1, i1, ifs1, 0⟩] scope pos) 1 it acc env) R s := by
  refine codeAny_loop rfl I (fun n s hI => ?_) n h
  show wpAny _ A ((compTurn (.SetComp elt [⟨t0, i0, ifs0, 0⟩, ⟨t1, i1, ifs1, 0⟩] scope pos) 1 it acc env).onRaise (fun x => do noteFrame x env; theTreesLotGoes x)) _ _ s
  refine wpAny_noted ?_
  rw [scTurn2_in]
  refine wpAny_bind (wpAny_standAt (wpAny_bind (wpAny_mono (turn n s hI) (fun r s₁ h₁ => ?_) fun _ _ h' => h')))
  cases r with
  | none => exact wpAny_pure h₁
  | some v =>
    refine wpAny_bind (wpAny_mono h₁ (fun _ s₁' h₁' => ?_) fun _ _ h' => h')
    refine wpAny_bind (wpAny_mono h₁' (fun _ s₂ h₂ => wpAny_bind (wpAny_mono h₂ (fun ok s₃ h₃ => ?_) fun _ _ h' => h')) fun _ _ h' => h')
    cases ok with
    | false => exact wpAny_pure ⟨rfl, h₃⟩
    | true =>
      exact wpAny_bind (wpAny_bind (wpAny_mono h₃ (fun x s₄ h₄ => wpAny_bind (wpAny_standAt (wpAny_bind (wpAny_mono h₄ (fun _ s₅ h₅ => wpAny_pure (wpAny_pure ⟨rfl, h₅⟩)) fun _ _ h' => h')))) fun _ _ h' => h'))
/-- the second clause's start -/
theorem scStart1_ok (h0 : codeAny (model prog w) A (.compLoop (.SetComp elt [⟨t0, i0, ifs0, 0⟩, ⟨t1, i1, ifs1, 0⟩] scope pos) 1 it acc env) R s)
    (h : wpAny (model prog w) A (pyIter it) (fun it' s' => codeAny (model prog w) A (.compLoop (.SetComp elt [⟨t0, i0, ifs0, 0⟩, ⟨t1, i1, ifs1, 0⟩] scope pos) 1 it' acc env) R s')
      (notedBy (model prog w) A env fun x s' => R (.error x) s') s) :
    codeAny (model prog w) A (.compStart (.SetComp elt [⟨t0, i0, ifs0, 0⟩, ⟨t1, i1, ifs1, 0⟩] scope pos) 1 it acc env) R s := by
  refine codeAny_of_tree ?_
  show wpAny _ _ ((compStart (.SetComp elt [⟨t0, i0, ifs0, 0⟩, ⟨t1, i1, ifs1, 0⟩] scope pos) 1 it acc env).onRaise (fun x => do noteFrame x env; standAt theWindowsPlace)) _ _ s
  refine wpAny_notedAt ?_
  unfold compStart
  show wpAny _ _ (ask >>= _) _ _ s
  refine wpAny_bind (wpAny_askSetting (wpAny_ite ?_))
  split
  · first
      | exact wpAny_bind (wpAny_pure (wpAny_pure (And.intro rfl h0)))
      | exact wpAny_pure (And.intro rfl h0)
  · first
      | exact wpAny_bind (wpAny_rule (wpAny_bind (wpAny_standAt (wpAny_bind (wpAny_mono h (fun it' s' h' => wpAny_pure (And.intro rfl h')) fun _ _ x => x)))))
      | (refine wpAny_bind (wpAny_rule ?_); show wpAny _ _ (standAt i1.pos >>= _) _ _ s; exact wpAny_bind (wpAny_standAt (wpAny_bind (wpAny_mono h (fun it' s' h' => wpAny_pure (And.intro rfl h')) fun _ _ x => x))))
end

section
variable {X : Cx}
/-- the same for a set of keys -/
def tSc2G (P : Program) (w : World) (wi : TI) (g : TG) (tt : TT) (wi1 : TI) (g1 : TG) (tt1 : TT) (te : TE) (vs vs1 : List Nat) : TE := fun σ H Q => wi σ H fun J H1 => ∀ D, H1 D = none → ∃ W : Nat → Nat → Hp → Prop, (∃ m, W 0 m (upd H1 D (SetGO P w D []))) ∧ ∀ i m H, W i m H →
  (J.stop i H ∧ Q (.ref D) H) ∨ (J.go i H ∧ ∃ Nx : Hp → Prop, (∀ H', Nx H' → ∃ m', m' < m ∧ W (i + 1) m' H') ∧ ∀ x H', J.yld i H x H' → g x (wipe σ vs) H' fun σ2 H2 => wipe σ2 vs = wipe σ vs ∧ tt σ2 H2 fun b H3 =>
    if b = true then wi1 σ2 H3 fun J1 H4 => ∃ W1 : Nat → Nat → Hp → Prop, (∃ m, W1 0 m H4) ∧ ∀ j k H, W1 j k H →
      (J1.stop j H ∧ Nx H) ∨ (J1.go j H ∧ ∃ Nx1 : Hp → Prop, (∀ H', Nx1 H' → ∃ k', k' < k ∧ W1 (j + 1) k' H') ∧ ∀ x H', J1.yld j H x H' → g1 x (wipe σ2 vs1) H' fun σ3 H5 => wipe σ3 vs1 = wipe σ2 vs1 ∧ tt1 σ3 H5 fun b H6 =>
        if b = true then te σ3 H6 fun y H7 => ∃ k ks, y = kV k ∧ H7 D = some (SetGO P w D ks) ∧ ks.length + 1 < scanBound ∧ Nx1 (upd H7 D (SetGO P w D (addKey ks k))) else Nx1 H6)
    else Nx H3)
theorem sc2_coreG {pins : List (Addr × Obj)} {s : Shared} {σ : L2.St} {H : Hp} {Q : VK} {elt tg iter tg1 iter1 : Expr} {ifs ifs1 : List Expr} {scope : Scope} {own : List (Str × Nat)} {vs1 : List Nat} {pos pos' : Pos} {wi wi1 : TI} {g g1 : TG} {tt tt1 : TT} {te : TE} {use : Option (Value → Sem Unit)} {Qf : Value → Shared → Prop}
    (hc : X.calm = true) (hN : X.N.Nodup) (I : Inv X pins σ H s) (hi : PI X tg iter wi) (ok : BlkOk X.N X.env.scope scope own) (hv : ∀ i ∈ vs1, i ∈ own.map (·.2))
    (hg : ∀ (s : Shared) (H : Hp) (C : Addr) (cl : List (Str × Addr)) (fp : List Addr), PG (X.blk s H scope (compEnvC scope cl C X.env) fp) tg g) (ht : ∀ (s : Shared) (H : Hp) (C : Addr) (cl : List (Str × Addr)) (fp : List Addr), PTs (X.blk s H scope (compEnvC scope cl C X.env) fp) ifs tt)
    (he : ∀ (s : Shared) (H : Hp) (C : Addr) (cl : List (Str × Addr)) (fp : List Addr), PE (X.blk s H scope (compEnvC scope cl C X.env) fp) elt te) (hs : ∀ x, foldedSetIterable iter X.env x = pure x)
    (hi1 : ∀ (s : Shared) (H : Hp) (C : Addr) (cl : List (Str × Addr)) (fp : List Addr), PI (X.blk s H scope (compEnvC scope cl C X.env) fp) tg1 iter1 wi1)
    (hg1 : ∀ (s : Shared) (H : Hp) (C : Addr) (cl : List (Str × Addr)) (fp : List Addr), PG (X.blk s H scope (compEnvC scope cl C X.env) fp) tg1 g1)
    (ht1 : ∀ (s : Shared) (H : Hp) (C : Addr) (cl : List (Str × Addr)) (fp : List Addr), PTs (X.blk s H scope (compEnvC scope cl C X.env) fp) ifs1 tt1)
    (hs1 : ∀ env x, foldedSetIterable iter1 env x = pure x)
    (h : tSc2G X.prog X.w wi g tt wi1 g1 tt1 te (own.map (·.2)) vs1 σ H Q)
    (hRR : ∀ D C s' m H', Inv X pins σ H' s' → Q (.ref D) H' → s'.heap.Ns C m → FpOk X pins H' C → compPost (model X.prog X.w) X.A X.xe use Qf (.ref D) C (.ok .next) s') :
    wpAny (model X.prog X.w) X.A (comprehension (.SetComp elt [⟨tg, iter, ifs, 0⟩, ⟨tg1, iter1, ifs1, 0⟩] scope pos) scope X.env pos' (newSet (.type "set")) false (eval iter X.env) use) Qf X.xe s := by
  have hfree : ∀ y ∈ scope.names, y.2 = .free → ∃ c, X.env.cells.lookup y.1 = some c := fun y hy e => by
    rcases ok.free y hy e with k | k
    · exact I.ok.has _ (.inl k)
    · exact I.ok.has _ (.inr k)
  refine wpAny_comprehension_free (use := use) rfl hs (closure_ok hfree) ok.kind (fun y hy e => by rw [ok.uniq y hy, e])
    (thn (hi.run pins s σ H _ I h) fun xv s1 hx => thn hx fun itv s2 h2 => ?_)
  obtain ⟨it, fp, tn, J, H2, e, I2, T, st2, f2, q⟩ := h2
  subst e
  refine PpSet.newSet_ok (newEnv_comp ?_)
  generalize hD : s2.heap.objs.size = D
  have hDn : H2 D = none := I2.hok.fresh (Nat.le_of_eq hD)
  obtain ⟨W, ⟨m0, w0⟩, turn⟩ := q D hDn
  -- the new list
  generalize hs3 : ({ s2 with heap := s2.heap.push { cls := .type "set", dict := none, data := .set #[] 0 (.fresh 0 0 (!X.w.params.followText "set-order")) } } : Shared) = s3
  have I3 : Inv X pins σ (upd H2 D (SetGO X.prog X.w D [])) s3 := by
    rw [← hs3]
    refine I2.laid (t' := s2.toks) (fun b o e => Heap.get?_push_of_some _ e) (Nat.le_of_eq hD) ?_
    rw [← hD]
    exact setG_new (setG_fresh (Heap.get?_push_size _ rfl))
  have h3 : s3.heap = s2.heap.push { cls := .type "set", dict := none, data := .set #[] 0 (.fresh 0 0 (!X.w.params.followText "set-order")) } := by rw [← hs3]
  have sz : ∀ b ∈ fp, b < s2.heap.objs.size := fun b hb => by
    obtain ⟨o, e, _⟩ := T.obj _ _ st2 b hb
    exact Heap.lt_size e
  have f3 : ∀ b ∈ fp, FpOk X pins (upd H2 D (SetGO X.prog X.w D [])) b ∧ b < s3.heap.objs.size := fun b hb => by
    have hlt := sz b hb
    refine ⟨⟨?_, (f2 b hb).2⟩, by rw [h3, Heap.size_push]; exact Nat.lt_succ_of_lt hlt⟩
    rw [upd_ne (by rw [← hD]; exact Nat.ne_of_lt hlt)]
    exact (f2 b hb).1
  have st3 : tn 0 s3.heap := T.keep _ _ _ st2 fun b _ o e => by rw [h3]; exact Heap.get?_push_of_some _ e
  have I4 := block_start I3 ok hN f3
  have pg := hg s3 (upd H2 D (SetGO X.prog X.w D [])) s3.heap.objs.size (cellsFrom (s3.heap.objs.size + 1) scope.names (cloFrom X.env.cells scope.names [])) fp
  have pt := ht s3 (upd H2 D (SetGO X.prog X.w D [])) s3.heap.objs.size (cellsFrom (s3.heap.objs.size + 1) scope.names (cloFrom X.env.cells scope.names [])) fp
  have pe := he s3 (upd H2 D (SetGO X.prog X.w D [])) s3.heap.objs.size (cellsFrom (s3.heap.objs.size + 1) scope.names (cloFrom X.env.cells scope.names [])) fp
  have pi1 := hi1 s3 (upd H2 D (SetGO X.prog X.w D [])) s3.heap.objs.size (cellsFrom (s3.heap.objs.size + 1) scope.names (cloFrom X.env.cells scope.names [])) fp
  have pg1 := hg1 s3 (upd H2 D (SetGO X.prog X.w D [])) s3.heap.objs.size (cellsFrom (s3.heap.objs.size + 1) scope.names (cloFrom X.env.cells scope.names [])) fp
  have pt1 := ht1 s3 (upd H2 D (SetGO X.prog X.w D [])) s3.heap.objs.size (cellsFrom (s3.heap.objs.size + 1) scope.names (cloFrom X.env.cells scope.names [])) fp
  show codeAny _ _ (.compStart (.SetComp elt [⟨tg, iter, ifs, 0⟩, ⟨tg1, iter1, ifs1, 0⟩] scope pos) 0 (.ref it) (.ref D) (compEnvC scope (cellsFrom (s3.heap.objs.size + 1) scope.names (cloFrom X.env.cells scope.names [])) s3.heap.objs.size X.env)) (compPost (model X.prog X.w) X.A X.xe use Qf (.ref D) s3.heap.objs.size) { s3 with heap := pushCells (s3.heap.push { cls := .type "dict", data := .dict #[] }) scope.names }
  have nfp : ∀ b ∈ fp, (upd H2 D (SetGO X.prog X.w D [])) b = none := fun b hb => (f3 b hb).1.1
  generalize hce : compEnvC scope (cellsFrom (s3.heap.objs.size + 1) scope.names (cloFrom X.env.cells scope.names [])) s3.heap.objs.size X.env = ce at I4 pg pt pe pi1 pg1 pt1 ⊢
  have cL : ce.locals = s3.heap.objs.size := by subst hce; rfl
  generalize hH3 : upd H2 D (SetGO X.prog X.w D []) = H3 at I3 I4 pg pt pe pi1 pg1 pt1 w0 nfp f3
  generalize hs4 : ({ s3 with heap := pushCells (s3.heap.push { cls := .type "dict", data := .dict #[] }) scope.names } : Shared) = s4 at I4 ⊢
  have st4 : tn 0 s4.heap := T.keep _ _ _ st3 fun b _ o e => by rw [← hs4]; exact pushCells_keeps _ _ _ _ (Heap.get?_push_of_some _ e)
  have stat : ∀ {σ' : L2.St} {H' : Hp} {s' : Shared}, Inv (X.blk s3 H3 scope ce fp) [] σ' H' s' → (∀ b ∈ fp, H' b = none) → ∀ b ∈ fp, FpOk (X.blk s3 H3 scope ce fp) [] H' b := fun {σ' H' s'} I' hn b hb =>
    ⟨hn b hb, (I'.ok.exf b hb).1, I'.ok.exfs b hb, .inl hb, fun x c e => (I'.ok.exf b hb).2 x c e, fun p hp => absurd (show p ∈ ([] : List (Addr × Obj)) ++ [] from hp) (by simp)⟩
  have loop : codeAny (model X.prog X.w) X.A (.compLoop (.SetComp elt [⟨tg, iter, ifs, 0⟩, ⟨tg1, iter1, ifs1, 0⟩] scope pos) 0 (.ref it) (.ref D) ce) (compPost (model X.prog X.w) X.A X.xe use Qf (.ref D) s3.heap.objs.size) s4 := by
    refine scLoop2_out (hs1 ce) (fun n s' => ∃ i H', Inv (X.blk s3 H3 scope ce fp) [] (wipe σ (own.map (·.2))) H' s' ∧ tn i s'.heap ∧ (∀ b ∈ fp, H' b = none) ∧ W i n H') ?_ m0 ⟨0, H3, I4, st4, nfp, w0⟩
    rintro n s5 ⟨i, H5, I5, st5, n5, w5⟩
    rcases turn i n H5 w5 with ⟨stop, qq⟩ | ⟨go, Nx, hNx, step⟩
    · have td := T.done (X.blk s3 H3 scope ce fp) rfl rfl rfl hc i [] s5 _ H5 (fun _ _ => False) I5 (stat I5 n5) st5 stop
      refine thnF td fun r s6 ⟨hr, I6⟩ => ?_
      subst hr
      -- back in the def's context
      have I7 : Inv X pins σ H5 s6 := I3.call' (ch := fp) I6.os I6.base I6.hok I6.bare fun b hb => ⟨(f3 b hb).1.2.2.2.1, (f3 b hb).1.2.1, (f3 b hb).1.2.2.2.2.1, (f3 b hb).1.2.2.2.2.2⟩
      have nC : H5 s3.heap.objs.size = none := by
        have z : H5 ce.locals = none := I6.free
        rw [cL] at z
        exact z
      obtain ⟨m, hn, _⟩ := I6.loc
      have hn : s6.heap.Ns ce.locals m := hn
      rw [cL] at hn
      exact hRR D s3.heap.objs.size s6 m H5 I7 qq hn (I3.fpOk (Nat.le_refl _) nC)
    · have ti := T.item (X.blk s3 H3 scope ce fp) rfl rfl rfl hc i [] s5 _ H5 (fun _ _ => False) I5 (stat I5 n5) st5 go
      refine thnF ti fun r s6 ⟨u, hr, h6⟩ => ?_
      subst hr
      refine thnF h6 fun _ s7 ⟨x, H7, I7, r7, y7, st7, n7⟩ => ?_
      have I7' := I7.pinned (stat I7 n7) (T.obj _ _ st7)
      refine thnF (pg.run _ s7 _ H7 x u _ I7' r7 (step x H7 y7)) fun _ s8 ⟨σ8, H8, I8, hw8, q8⟩ => ?_
      refine thnF (pt.run _ s8 σ8 H8 _ I8 q8) fun b s9 ⟨H9, I9, q9⟩ => ?_
      -- the turn's end, from any slots that know what the block knew at its start
      have fin : ∀ {σ9 : L2.St} {s' : Shared} {H' : Hp}, Inv (X.blk s3 H3 scope ce fp) ([] ++ pinsAt fp s7.heap) σ9 H' s' → (wipe σ (own.map (·.2))).length = σ9.length → (∀ (j : Nat) v, (wipe σ (own.map (·.2)))[j]? = some (some v) → σ9[j]? = some (some v)) → Nx H' →
          ∃ m, m < n ∧ ∃ i H', Inv (X.blk s3 H3 scope ce fp) [] (wipe σ (own.map (·.2))) H' s' ∧ tn i s'.heap ∧ (∀ b ∈ fp, H' b = none) ∧ W i m H' := fun {σ9 s' H'} I' hl hk nx => by
        obtain ⟨m', hm, w'⟩ := hNx H' nx
        have pin' : ∀ b ∈ fp, ∀ o, s7.heap.get? b = some o → s'.heap.get? b = some o ∧ H' b = none := fun b hb o e =>
          let z := I'.pin (b, o) (List.mem_append_right _ (List.mem_append_right _ (mem_pinsAt hb e)))
          ⟨z.1, z.2.1⟩
        refine ⟨m', hm, i + 1, H', (I'.unpinned (pins := [])).weak hl hk, T.keep _ _ _ st7 fun b hb o e => (pin' b hb o e).1, fun b hb => ?_, w'⟩
        obtain ⟨o, e, _⟩ := T.obj _ _ st7 b hb
        exact (pin' b hb o e).2
      have hl8 : (wipe σ (own.map (·.2))).length = σ8.length := by rw [← hw8, wipe_length]
      have hk8 : ∀ (j : Nat) v, (wipe σ (own.map (·.2)))[j]? = some (some v) → σ8[j]? = some (some v) := fun j v e => by
        rw [← hw8] at e
        exact (wipe_some e).1
      have hk9 : ∀ (j : Nat) v, (wipe σ (own.map (·.2)))[j]? = some (some v) → (wipe σ8 vs1)[j]? = some (some v) := fun j v e => by
        rw [← hw8] at e
        obtain ⟨e1, e2⟩ := wipe_some e
        rw [wipe_out fun z => e2 (hv j z)]
        exact e1
      cases b with
      | false =>
        simp only [Bool.false_eq_true, if_false] at q9 ⊢
        exact fin I9 hl8 hk8 q9
      | true =>
        simp only [if_true] at q9 ⊢
        refine thnF (pi1.run _ s9 σ8 H9 _ I9 q9) fun xv s10 hx => thnF hx fun itv s11 h11 => ?_
        obtain ⟨it1, fp1, tn1, J1, H11, e1, I11, T1, st11, f11, W1, ⟨m1, w1⟩, turn1⟩ := h11
        subst e1
        -- the inner loop
        have stat1 : ∀ {H' : Hp}, (∀ b ∈ fp1, H' b = none) → ∀ b ∈ fp1, FpOk (X.blk s3 H3 scope ce fp) ([] ++ pinsAt fp s7.heap) H' b := fun hn b hb => ⟨hn b hb, (f11 b hb).2⟩
        have loop1 : codeAny (model X.prog X.w) X.A (.compLoop (.SetComp elt [⟨tg, iter, ifs, 0⟩, ⟨tg1, iter1, ifs1, 0⟩] scope pos) 1 (.ref it1) (.ref D) ce)
            (fun r s' => match r with
              | .ok _ => ∃ m, m < n ∧ ∃ i H', Inv (X.blk s3 H3 scope ce fp) [] (wipe σ (own.map (·.2))) H' s' ∧ tn i s'.heap ∧ (∀ b ∈ fp, H' b = none) ∧ W i m H'
              | .error _ => False) s11 := by
          refine scLoop2_in (fun k s' => ∃ j H', Inv (X.blk s3 H3 scope ce fp) ([] ++ pinsAt fp s7.heap) (wipe σ8 vs1) H' s' ∧ tn1 j s'.heap ∧ (∀ b ∈ fp1, H' b = none) ∧ W1 j k H') ?_ m1 ⟨0, H11, I11.weak (wipe_length _ _) (fun j v e => (wipe_some e).1), st11, fun b hb => (f11 b hb).1, w1⟩
          rintro k s12 ⟨j, H12, I12, st12, n12, w12⟩
          rcases turn1 j k H12 w12 with ⟨stop1, nx1⟩ | ⟨go1, Nx1, hNx1, step1⟩
          · refine thnF (T1.done (X.blk s3 H3 scope ce fp) rfl rfl rfl hc j _ s12 (wipe σ8 vs1) H12 (fun _ _ => False) I12 (stat1 n12) st12 stop1) fun r s13 ⟨hr, I13⟩ => ?_
            subst hr
            exact fin I13 (hl8.trans (wipe_length σ8 vs1).symm) hk9 nx1
          · refine thnF (T1.item (X.blk s3 H3 scope ce fp) rfl rfl rfl hc j _ s12 (wipe σ8 vs1) H12 (fun _ _ => False) I12 (stat1 n12) st12 go1) fun r s13 ⟨u1, hr, h13⟩ => ?_
            subst hr
            refine thnF h13 fun _ s14 ⟨x1, H14, I14, r14, y14, st14, n14⟩ => ?_
            have I14' := I14.pinned (stat1 n14) (T1.obj _ _ st14)
            refine thnF (pg1.run _ s14 (wipe σ8 vs1) H14 x1 u1 _ I14' r14 (step1 x1 H14 y14)) fun _ s15 ⟨σ15, H15, I15, hw15, q15⟩ => ?_
            refine thnF (pt1.run _ s15 σ15 H15 _ I15 q15) fun b1 s16 ⟨H16, I16, q16⟩ => ?_
            have fin1 : ∀ {s' : Shared} {H' : Hp}, Inv (X.blk s3 H3 scope ce fp) (([] ++ pinsAt fp s7.heap) ++ pinsAt fp1 s14.heap) σ15 H' s' → Nx1 H' → ∃ m, m < k ∧ ∃ j H', Inv (X.blk s3 H3 scope ce fp) ([] ++ pinsAt fp s7.heap) (wipe σ8 vs1) H' s' ∧ tn1 j s'.heap ∧ (∀ b ∈ fp1, H' b = none) ∧ W1 j m H' := fun {s' H'} I' nx => by
              obtain ⟨m', hm, w'⟩ := hNx1 H' nx
              have pin' : ∀ b ∈ fp1, ∀ o, s14.heap.get? b = some o → s'.heap.get? b = some o ∧ H' b = none := fun b hb o e =>
                let z := I'.pin (b, o) (List.mem_append_right _ (List.mem_append_right _ (mem_pinsAt hb e)))
                ⟨z.1, z.2.1⟩
              refine ⟨m', hm, j + 1, H', I'.unpinned.weak (by rw [← hw15, wipe_length]) (fun j v e => by rw [← hw15] at e; exact (wipe_some e).1), T1.keep _ _ _ st14 fun b hb o e => (pin' b hb o e).1, fun b hb => ?_, w'⟩
              obtain ⟨o, e, _⟩ := T1.obj _ _ st14 b hb
              exact (pin' b hb o e).2
            cases b1 with
            | false =>
              simp only [Bool.false_eq_true, if_false] at q16 ⊢
              exact fin1 I16 q16
            | true =>
              simp only [if_true] at q16 ⊢
              refine thnF (pe.run _ s16 σ15 H16 _ I16 q16) fun z s17 ⟨yv, H17, I17, r17, kk, kks, ey, hD17, hz17, nx⟩ => ?_
              subst ey
              exact addG_ok (X := X.blk s3 H3 scope ce fp) I17 hD17 hz17 r17 fun s18 I18 => fin1 I18 nx
        exact scStart1_ok loop1 (T1.self X.A 0 _ _ _ st11 loop1)
  exact PpSet.codeAny_compStart_set loop (T.self X.A 0 _ _ _ st4 loop)
/-- as a value -/
theorem pe_sc2G {elt tg iter tg1 iter1 : Expr} {ifs ifs1 : List Expr} {scope : Scope} {own : List (Str × Nat)} {vs1 : List Nat} {pos : Pos} {wi wi1 : TI} {g g1 : TG} {tt tt1 : TT} {te : TE} (hc : X.calm = true) (hN : X.N.Nodup) (hi : PI X tg iter wi) (ok : BlkOk X.N X.env.scope scope own) (hv : ∀ i ∈ vs1, i ∈ own.map (·.2))
    (hg : ∀ (s : Shared) (H : Hp) (C : Addr) (cl : List (Str × Addr)) (fp : List Addr), PG (X.blk s H scope (compEnvC scope cl C X.env) fp) tg g) (ht : ∀ (s : Shared) (H : Hp) (C : Addr) (cl : List (Str × Addr)) (fp : List Addr), PTs (X.blk s H scope (compEnvC scope cl C X.env) fp) ifs tt)
    (hi1 : ∀ (s : Shared) (H : Hp) (C : Addr) (cl : List (Str × Addr)) (fp : List Addr), PI (X.blk s H scope (compEnvC scope cl C X.env) fp) tg1 iter1 wi1)
    (hg1 : ∀ (s : Shared) (H : Hp) (C : Addr) (cl : List (Str × Addr)) (fp : List Addr), PG (X.blk s H scope (compEnvC scope cl C X.env) fp) tg1 g1) (ht1 : ∀ (s : Shared) (H : Hp) (C : Addr) (cl : List (Str × Addr)) (fp : List Addr), PTs (X.blk s H scope (compEnvC scope cl C X.env) fp) ifs1 tt1)
    (he : ∀ (s : Shared) (H : Hp) (C : Addr) (cl : List (Str × Addr)) (fp : List Addr), PE (X.blk s H scope (compEnvC scope cl C X.env) fp) elt te) (hs : ∀ x, foldedSetIterable iter X.env x = pure x := by intro _; rfl) (hs1 : ∀ env x, foldedSetIterable iter1 env x = pure x := by intro _ _; rfl) :
    PE X (.SetComp elt [⟨tg, iter, ifs, 0⟩, ⟨tg1, iter1, ifs1, 0⟩] scope pos) (tSc2G X.prog X.w wi g tt wi1 g1 tt1 te (own.map (·.2)) vs1) := by
  refine ⟨fun pins s σ H Q I h => ?_⟩
  rw [PpSet.eval_SetComp]
  refine sc2_coreG hc hN I hi ok hv hg ht he hs hi1 hg1 ht1 hs1 h fun D C s' m H' I' q hn f => ⟨m, hn, fun h'' sb => ?_⟩
  obtain ⟨f0, f1, f2, f3, f4, f5⟩ := f
  exact ⟨.ref D, H', I'.turned (t' := s'.toks) (fun b o hb e => (sb.2 b hb).trans e) f0 f1 f3 f4 f5, rfl, q⟩
end
end SX

/-! B1: how trees lie on the abstract heap; slots; readings from the language of A1. -/
namespace S3
open PySem L2

abbrev LIM : Nat := 16777216
/-- a text as there can be -/
def sOk (x : Str) : Bool := decide (x.length ≤ LIM) && x.cps.all (· < 0x110000)
theorem sOk_len {x : Str} (h : sOk x = true) : x.length ≤ LIM := by unfold sOk at h; rw [Bool.and_eq_true] at h; exact of_decide_eq_true h.1
theorem sOk_cps {x : Str} (h : sOk x = true) : x.cps.all (· < 0x110000) = true := by unfold sOk at h; rw [Bool.and_eq_true] at h; exact h.2
theorem sOk_of {x : Str} (h1 : x.length ≤ LIM) (h2 : x.cps.all (· < 0x110000) = true) : sOk x = true := by unfold sOk; rw [decide_eq_true h1, h2]; rfl
/-- keys as there can be -/
def kOk (ks : List Key) : Prop := ∀ x : Str, Sum.inr x ∈ ks → sOk x = true
/-- what the trees hang on: the program, the world, the written part, the classes' places -/
structure Wd where
  P : Program
  w : World
  K : PySem.W.Frag
  ca : Str → Option Addr

mutual
/-- v is the tree d, by the frozen part F of the heap -/
inductive Rp (Z : Wd) (F : Hp) : V → D → Prop
  | non : Rp Z F .non .non
  | bl (b : Bool) : Rp Z F (.bl b) (.bl b)
  | int (i : Int) : Rp Z F (.int i) (.int i)
  | str (x : Str) : sOk x = true → Rp Z F (.str x) (.str x)
  | lst {a : Addr} {xs : List V} {ds : List D} : F a = some (.lst xs) → RpA Z F xs ds → Rp Z F (.ref a) (.lst ds)
  | scr {a : Addr} {xs : List V} {ds : List D} : SqL Z.K F a xs → RpA Z F xs ds → Rp Z F (.ref a) (.scr ds)
  | tup {a : Addr} {xs : List V} {ds : List D} : F a = some (.tup xs) → RpA Z F xs ds → Rp Z F (.ref a) (.tup ds)
  | kt {a : Addr} {xs : List V} {ds : List D} : SqT Z.K F a xs → RpA Z F xs ds → Rp Z F (.ref a) (.kt ds)
  | dk {a : Addr} {xs : List (Key × V)} {ds : List (Key × D)} : L2.Rd F a (.dK xs) → kOk (ds.map (·.1)) → RpP Z F xs ds → Rp Z F (.ref a) (.dk ds)
  | dt {a : Addr} {xs : List (List Key × V)} {ds : List (List Key × D)} : L2.Rd F a (.dT xs) → (∀ p ∈ ds, kOk p.1) → RpP Z F xs ds → Rp Z F (.ref a) (.dt ds)
  | st {a : Addr} {xs : List Key} : F a = some (SetGO Z.P Z.w a xs) → kOk xs → Rp Z F (.ref a) (.st xs)
  | obj {a C dx : Addr} {c : Str} {xs : List (Str × V)} {ds : List (Str × D)} : Z.ca c = some C → F a = some (.ins C dx xs) → RpP Z F xs ds → Rp Z F (.ref a) (.obj c ds)
  | xn {a C : Addr} {c : Str} {xs : List (Str × V)} {ds : List (Str × D)} : Z.ca "" = some a → Z.ca "  " = some C → Z.ca c = some C → (c ≠ "" ∧ c ≠ " " ∧ c ≠ "  ") → ((ds = [] ∧ Z.ca " " = none) ∨ ∃ dd, Z.ca " " = some dd ∧ F dd = some (.xd xs)) → RpP Z F xs ds → Rp Z F (.ref a) (.xn c ds)
inductive RpA (Z : Wd) (F : Hp) : List V → List D → Prop
  | nil : RpA Z F [] []
  | cons {v : V} {vs : List V} {d : D} {ds : List D} : Rp Z F v d → RpA Z F vs ds → RpA Z F (v :: vs) (d :: ds)
inductive RpP (Z : Wd) (F : Hp) : {κ : Type} → List (κ × V) → List (κ × D) → Prop
  | nil {κ : Type} : RpP Z F ([] : List (κ × V)) []
  | cons {κ : Type} {k : κ} {v : V} {vs : List (κ × V)} {d : D} {ds : List (κ × D)} : Rp Z F v d → RpP Z F vs ds → RpP Z F ((k, v) :: vs) ((k, d) :: ds)
end

section
variable {Z : Wd} {F F' H H' : Hp}
theorem Rd.mono {H H' : Hp} {a : Addr} {u : HO} (h : L2.Rd H a u) (e : Same H H') : L2.Rd H' a u := h.imp (e _ _) fun ⟨o, z⟩ => ⟨o, e _ _ z⟩
theorem SqT.same {K : PySem.W.Frag} {H H' : Hp} {a : Addr} {xs : List V} (e : Same H H') (h : SqT K H a xs) : SqT K H' a xs := by
  rcases h with (h | ⟨o, h⟩) | h
  · exact .inl (.inl (e _ _ h))
  · exact .inl (.inr ⟨o, e _ _ h⟩)
  · exact .inr h
mutual
theorem Rp.mono (e : Same F F') : ∀ {v : V} {d : D}, Rp Z F v d → Rp Z F' v d
  | _, _, .non => .non
  | _, _, .bl b => .bl b
  | _, _, .int i => .int i
  | _, _, .str x h => .str x h
  | _, _, .lst h r => .lst (e _ _ h) (RpA.mono e r)
  | _, _, .scr h r => .scr (Same.seq e h) (RpA.mono e r)
  | _, _, .tup h r => .tup (e _ _ h) (RpA.mono e r)
  | _, _, .kt h r => .kt (SqT.same e h) (RpA.mono e r)
  | _, _, .dk h q r => .dk (Rd.mono h e) q (RpP.mono e r)
  | _, _, .dt h q r => .dt (Rd.mono h e) q (RpP.mono e r)
  | _, _, .st h n => .st (e _ _ h) n
  | _, _, .obj c h r => .obj c (e _ _ h) (RpP.mono e r)
  | _, _, .xn a b c k h r => .xn a b c k (h.imp id fun ⟨dd, x, y⟩ => ⟨dd, x, e _ _ y⟩) (RpP.mono e r)
theorem RpA.mono (e : Same F F') : ∀ {v : List V} {d : List D}, RpA Z F v d → RpA Z F' v d
  | _, _, .nil => .nil
  | _, _, .cons h r => .cons (Rp.mono e h) (RpA.mono e r)
theorem RpP.mono (e : Same F F') : ∀ {κ : Type} {v : List (κ × V)} {d : List (κ × D)}, RpP Z F v d → RpP Z F' v d
  | _, _, _, .nil => .nil
  | _, _, _, .cons h r => .cons (Rp.mono e h) (RpP.mono e r)
end

/-- the object at a is the top of the tree d, what it holds is frozen -/
def Top (Z : Wd) (F H : Hp) (a : Addr) : D → Prop
  | .lst ds => ∃ xs, H a = some (.lst xs) ∧ RpA Z F xs ds
  | .dk ds => kOk (ds.map (·.1)) ∧ ∃ xs, H a = some (.dK xs) ∧ RpP Z F xs ds
  | .dt ds => (∀ p ∈ ds, kOk p.1) ∧ ∃ xs, H a = some (.dT xs) ∧ RpP Z F xs ds
  | .st xs => H a = some (SetGO Z.P Z.w a xs) ∧ kOk xs
  | .obj c ds => ∃ C dx xs, Z.ca c = some C ∧ H a = some (.ins C dx xs) ∧ RpP Z F xs ds
  | _ => False
/-- not a tuple -/
def NT (u : HO) : Prop := ∀ xs, u ≠ .tup xs
theorem Top.there {a : Addr} {d : D} (h : Top Z F H a d) : ∃ o, H a = some o := by
  cases d <;> simp only [Top] at h
  case lst => obtain ⟨_, h, _⟩ := h; exact ⟨_, h⟩
  case dk => obtain ⟨_, _, h, _⟩ := h; exact ⟨_, h⟩
  case dt => obtain ⟨_, _, h, _⟩ := h; exact ⟨_, h⟩
  case st => exact ⟨_, h.1⟩
  case obj => obtain ⟨_, _, _, _, h, _⟩ := h; exact ⟨_, h⟩
theorem Top.thereN {a : Addr} {d : D} (h : Top Z F H a d) : ∃ o, H a = some o ∧ NT o := by
  cases d <;> simp only [Top] at h
  case lst => obtain ⟨_, h, _⟩ := h; exact ⟨_, h, fun _ z => by cases z⟩
  case dk => obtain ⟨_, _, h, _⟩ := h; exact ⟨_, h, fun _ z => by cases z⟩
  case dt => obtain ⟨_, _, h, _⟩ := h; exact ⟨_, h, fun _ z => by cases z⟩
  case st => exact ⟨_, h.1, fun _ z => by cases z⟩
  case obj => obtain ⟨_, _, _, _, h, _⟩ := h; exact ⟨_, h, fun _ z => by cases z⟩
/-- kept where the object stands as it stood -/
theorem Top.keep {a : Addr} {d : D} (h : Top Z F H a d) (e : Same F F') (k : ∀ o, H a = some o → H' a = some o) : Top Z F' H' a d := by
  cases d <;> simp only [Top] at h ⊢
  case lst => obtain ⟨_, h, r⟩ := h; exact ⟨_, k _ h, r.mono e⟩
  case dk => obtain ⟨q, _, h, r⟩ := h; exact ⟨q, _, k _ h, r.mono e⟩
  case dt => obtain ⟨q, _, h, r⟩ := h; exact ⟨q, _, k _ h, r.mono e⟩
  case st => exact ⟨k _ h.1, h.2⟩
  case obj => obtain ⟨_, _, _, c, h, r⟩ := h; exact ⟨_, _, _, c, k _ h, r.mono e⟩
/-- frozen -/
theorem Top.rp {a : Addr} {d : D} (h : Top Z F H a d) (e : Same F F') (k : ∀ o, H a = some o → F' a = some o) : Rp Z F' (.ref a) d := by
  cases d <;> simp only [Top] at h
  case lst => obtain ⟨_, h, r⟩ := h; exact .lst (k _ h) (r.mono e)
  case dk => obtain ⟨q, _, h, r⟩ := h; exact .dk (.inl (k _ h)) q (r.mono e)
  case dt => obtain ⟨q, _, h, r⟩ := h; exact .dt (.inl (k _ h)) q (r.mono e)
  case st => exact .st (k _ h.1) h.2
  case obj => obtain ⟨_, _, _, c, h, r⟩ := h; exact .obj c (k _ h) (r.mono e)

/-- v is read as d: frozen, or an object of its own -/
def RdV (Z : Wd) (F H : Hp) (v : V) (d : D) : Prop := Rp Z F v d ∨ ∃ a, v = .ref a ∧ F a = none ∧ Top Z F H a d

/-! ### the state of a frame -/
/-- the entry: the frozen part and the heap at the call; the places that may be changed -/
structure En where
  F : Hp
  H : Hp
  M : List Addr
  mi : Nat → Option Addr
def SlOk (Z : Wd) (N : En) (F H : Hp) (o : Option V) : Sl → Prop
  | .no => True
  | .fz d => ∃ v, o = some v ∧ Rp Z F v d
  | .ow d => ∃ a, o = some (.ref a) ∧ F a = none ∧ N.H a = none ∧ Top Z F H a d
  | .bo d => ∃ v, o = some v ∧ (Rp Z F v d ∨ ∃ a, v = .ref a ∧ F a = none ∧ (∃ u, N.H a = some u) ∧ a ∉ N.M ∧ Top Z F H a d)
  | .mu d => ∃ a, o = some (.ref a) ∧ F a = none ∧ a ∈ N.M ∧ Top Z F H a d
def Sl.own : Sl → Bool
  | .ow _ => true | .mu _ => true | _ => false
/-- the slot holds the object at a, and it is not frozen -/
def Live (Z : Wd) (F : Hp) (o : Option V) (s : Sl) (a : Addr) : Prop := match s with
  | .ow _ => o = some (.ref a)
  | .mu _ => o = some (.ref a)
  | .bo d => o = some (.ref a) ∧ ¬ Rp Z F (.ref a) d
  | _ => False
structure SOk (Z : Wd) (N : En) (F H : Hp) (σ : St) (e : Env) : Prop where
  le : Same F H
  f0 : Same N.F F
  h0 : ∀ b o, N.H b = some o → b ∉ N.M → H b = some o
  nf : ∀ b o, N.H b = some o → NT o → N.F b = none → F b = none
  len : σ.length = e.length
  slot : ∀ (i : Nat) (s : Sl), e[i]? = some s → ∃ o, σ[i]? = some o ∧ SlOk Z N F H o s
  sep : ∀ (i j : Nat) (s t : Sl) (a : Addr), e[i]? = some s → e[j]? = some t → i ≠ j → s.own = true → Live Z F ((σ[i]?).join) s a → Live Z F ((σ[j]?).join) t a → False
  mh : ∀ a ∈ N.M, F a = none ∧ (∃ o, H a = some o ∧ NT o) ∧ ∃ o, N.H a = some o
  mus : ∀ (i : Nat) (d : D), e[i]? = some (.mu d) → ∃ a, σ[i]? = some (some (.ref a)) ∧ N.mi i = some a
/-- what an expression hands back -/
def RvOk (Z : Wd) (N : En) (F H : Hp) (σ : St) (e : Env) (v : V) : RV → Prop
  | .fz d => Rp Z F v d
  | .nw d => ∃ a, v = .ref a ∧ F a = none ∧ N.H a = none ∧ Top Z F H a d ∧ ∀ (i : Nat) (s : Sl), e[i]? = some s → ¬ Live Z F ((σ[i]?).join) s a
  | .at i => σ[i]? = some (some v) ∧ ∃ s, e[i]? = some s ∧ s ≠ .no

variable {N : En} {σ : St} {e e' : Env}

theorem Live.mono {o : Option V} {s : Sl} {a : Addr} (h : Live Z F' o s a) (f : Same F F') : Live Z F o s a := by
  cases s <;> simp only [Live] at h ⊢ <;> first | exact h | exact ⟨h.1, fun r => h.2 (r.mono f)⟩
theorem Live.there {o : Option V} {s : Sl} {a : Addr} (h : Live Z F o s a) (k : SlOk Z N F H o s) : F a = none ∧ ∃ u, H a = some u := by
  cases s <;> simp only [Live] at h
  case ow => obtain ⟨b, e, f, _, t⟩ := k; rw [h] at e; cases e; exact ⟨f, t.there⟩
  case mu => obtain ⟨b, e, f, _, t⟩ := k; rw [h] at e; cases e; exact ⟨f, t.there⟩
  case bo =>
    obtain ⟨v, e, r | ⟨b, rfl, f, _, _, t⟩⟩ := k
    · rw [h.1] at e; cases e; exact (h.2 r).elim
    · rw [h.1] at e; cases e; exact ⟨f, t.there⟩
theorem SOk.live (S : SOk Z N F H σ e) {i : Nat} {s : Sl} {a : Addr} (h : e[i]? = some s) (l : Live Z F ((σ[i]?).join) s a) : F a = none ∧ ∃ u, H a = some u := by
  obtain ⟨o, h1, h2⟩ := S.slot i s h
  rw [h1] at l
  exact l.there h2
theorem slot_get {e : Env} {i : Nat} {s : Sl} (h : S3.slot e i = s) (hs : s ≠ .no) : e[i]? = some s := by
  unfold S3.slot at h
  rw [List.getD_eq_getElem?_getD] at h
  cases q : e[i]? with
  | none => rw [q] at h; exact absurd h.symm hs
  | some t => rw [q] at h; exact congrArg some h
theorem slot_of {e : Env} {i : Nat} {s : Sl} (h : e[i]? = some s) : S3.slot e i = s := by
  unfold S3.slot
  rw [List.getD_eq_getElem?_getD, h]
  rfl
theorem SlOk.rd {o : Option V} {s : Sl} {d : D} (h : SlOk Z N F H o s) (hd : s.val = some d) : ∃ v, o = some v ∧ RdV Z F H v d := by
  cases s <;> simp only [Sl.val, Option.some.injEq] at hd
  case no => cases hd
  case fz => subst hd; obtain ⟨v, e, r⟩ := h; exact ⟨v, e, .inl r⟩
  case ow => subst hd; obtain ⟨a, e, f, _, t⟩ := h; exact ⟨_, e, .inr ⟨a, rfl, f, t⟩⟩
  case bo =>
    subst hd
    obtain ⟨v, e, r | ⟨a, rfl, f, _, _, t⟩⟩ := h
    · exact ⟨v, e, .inl r⟩
    · exact ⟨_, e, .inr ⟨a, rfl, f, t⟩⟩
  case mu => subst hd; obtain ⟨a, e, f, _, t⟩ := h; exact ⟨_, e, .inr ⟨a, rfl, f, t⟩⟩
/-- read -/
theorem RvOk.rd (S : SOk Z N F H σ e) {v : V} {r : RV} {d : D} (h : RvOk Z N F H σ e v r) (hd : rd r e = some d) : RdV Z F H v d := by
  cases r with
  | fz x => cases hd; exact .inl h
  | nw x => cases hd; obtain ⟨a, e, f, _, t, _⟩ := h; exact .inr ⟨a, e, f, t⟩
  | «at» i =>
    obtain ⟨h1, s, h2, h3⟩ := h
    have q : S3.slot e i = s := slot_of h2
    have hd : (S3.slot e i).val = some d := hd
    rw [q] at hd
    obtain ⟨o, ho, so⟩ := S.slot i s h2
    obtain ⟨v', e1, r⟩ := so.rd hd
    rw [h1] at ho
    cases ho
    cases e1
    exact r

/-- the heap grows -/
theorem SlOk.grow {o : Option V} {s : Sl} (h : SlOk Z N F H o s) (f : Same F F') (k : Same H H') (nf : ∀ b u, H b = some u → NT u → F b = none → F' b = none) : SlOk Z N F' H' o s := by
  cases s with
  | no => trivial
  | fz d => obtain ⟨v, e, r⟩ := h; exact ⟨v, e, r.mono f⟩
  | ow d => obtain ⟨a, e, x, y, t⟩ := h; obtain ⟨u, hu, nt⟩ := t.thereN; exact ⟨a, e, nf _ _ hu nt x, y, t.keep f (k _)⟩
  | bo d =>
    obtain ⟨v, e, r | ⟨a, rfl, x, y, z, t⟩⟩ := h
    · exact ⟨v, e, .inl (r.mono f)⟩
    · obtain ⟨u, hu, nt⟩ := t.thereN
      exact ⟨_, e, .inr ⟨a, rfl, nf _ _ hu nt x, y, z, t.keep f (k _)⟩⟩
  | mu d => obtain ⟨a, e, x, y, t⟩ := h; obtain ⟨u, hu, nt⟩ := t.thereN; exact ⟨a, e, nf _ _ hu nt x, y, t.keep f (k _)⟩
theorem SOk.grow (S : SOk Z N F H σ e) (f : Same F F') (k : Same H H') (l : Same F' H') (nf : ∀ b u, H b = some u → NT u → F b = none → F' b = none) : SOk Z N F' H' σ e where
  le := l
  f0 := S.f0.trans f
  h0 := fun b o h m => k _ _ (S.h0 b o h m)
  nf := fun b o h nt n => by
    by_cases m : b ∈ N.M
    · obtain ⟨_, ⟨u, q, nq⟩, _⟩ := S.mh b m
      exact nf b u q nq (S.nf b o h nt n)
    · exact nf b o (S.h0 b o h m) nt (S.nf b o h nt n)
  len := S.len
  slot := fun i s h => let ⟨o, h1, h2⟩ := S.slot i s h; ⟨o, h1, h2.grow f k nf⟩
  sep := fun i j s t a h1 h2 ne o l1 l2 => S.sep i j s t a h1 h2 ne o (l1.mono f) (l2.mono f)
  mh := fun a m => let ⟨x, ⟨u, y, ny⟩, z⟩ := S.mh a m; ⟨nf a u y ny x, ⟨u, k a u y, ny⟩, z⟩
  mus := S.mus

/-- slots forgotten -/
theorem get_set_no {e : Env} {i j : Nat} {s : Sl} (h : (e.set i .no)[j]? = some s) : s = .no ∨ e[j]? = some s := by
  by_cases q : i = j
  · subst q
    by_cases l : i < e.length
    · rw [List.getElem?_set_self l] at h
      exact .inl (Option.some.inj h).symm
    · rw [List.getElem?_eq_none (by rw [List.length_set]; omega)] at h
      cases h
  · rw [List.getElem?_set_ne q] at h
    exact .inr h
theorem SOk.forget (S : SOk Z N F H σ e) (i : Nat) : SOk Z N F H σ (e.set i .no) where
  le := S.le
  f0 := S.f0
  h0 := S.h0
  nf := S.nf
  len := by rw [List.length_set]; exact S.len
  slot := fun j s h => by
    rcases get_set_no h with q | q
    · subst q
      have l : j < σ.length := by
        have := (List.getElem?_eq_some_iff.mp h).1
        rw [List.length_set] at this
        rw [S.len]; exact this
      exact ⟨_, List.getElem?_eq_getElem l, trivial⟩
    · exact S.slot j s q
  sep := fun j k s t a h1 h2 ne o s1 s2 => by
    rcases get_set_no h1 with q | q
    · subst q; cases o
    · rcases get_set_no h2 with q2 | q2
      · subst q2; exact s2.elim
      · exact S.sep j k s t a q q2 ne o s1 s2
  mh := S.mh
  mus := fun j d h => by
    rcases get_set_no h with q | q
    · cases q
    · exact S.mus j d q
theorem SOk.wipe (S : SOk Z N F H σ e) : ∀ is : List Nat, SOk Z N F H σ (wipeE e is)
  | [] => S
  | i :: is => (S.wipe is).forget i

theorem get_set {α : Type} {e : List α} {i j : Nat} {x s : α} (h : (e.set i x)[j]? = some s) : (i = j ∧ s = x ∧ i < e.length) ∨ (i ≠ j ∧ e[j]? = some s) := by
  by_cases q : i = j
  · subst q
    by_cases l : i < e.length
    · rw [List.getElem?_set_self l] at h
      exact .inl ⟨rfl, (Option.some.inj h).symm, l⟩
    · rw [List.getElem?_eq_none (by rw [List.length_set]; omega)] at h
      cases h
  · rw [List.getElem?_set_ne q] at h
    exact .inr ⟨q, h⟩
/-- a slot is given a frozen value -/
theorem SOk.set (S : SOk Z N F H σ e) {i : Nat} {v : V} {d : D} (r : Rp Z F v d) : SOk Z N F H (σ.set i (some v)) (e.set i (.fz d)) where
  le := S.le
  f0 := S.f0
  h0 := S.h0
  nf := S.nf
  len := by rw [List.length_set, List.length_set]; exact S.len
  slot := fun j s h => by
    rcases get_set h with ⟨q, rfl, l⟩ | ⟨q, h'⟩
    · subst q
      exact ⟨some v, List.getElem?_set_self (by rw [S.len]; exact l), v, rfl, r⟩
    · rw [List.getElem?_set_ne q]
      exact S.slot j s h'
  sep := fun j k s t a h1 h2 ne o s1 s2 => by
    rcases get_set h1 with ⟨q, rfl, l⟩ | ⟨q, h1'⟩
    · cases o
    · rcases get_set h2 with ⟨q2, rfl, l2⟩ | ⟨q2, h2'⟩
      · exact s2.elim
      · rw [List.getElem?_set_ne q] at s1
        rw [List.getElem?_set_ne q2] at s2
        exact S.sep j k s t a h1' h2' ne o s1 s2
  mh := S.mh
  mus := fun j d h => by
    rcases get_set h with ⟨_, q, _⟩ | ⟨q, h'⟩
    · cases q
    · rw [List.getElem?_set_ne q]
      exact S.mus j d h'
/-- a slot is given a new object -/
theorem SOk.setOw (S : SOk Z N F H σ e) {i : Nat} {a : Addr} {d : D} (f : F a = none) (n : N.H a = none) (t : Top Z F H a d) (ap : ∀ (j : Nat) (s : Sl), e[j]? = some s → ¬ Live Z F ((σ[j]?).join) s a) :
    SOk Z N F H (σ.set i (some (.ref a))) (e.set i (.ow d)) where
  le := S.le
  f0 := S.f0
  h0 := S.h0
  nf := S.nf
  len := by rw [List.length_set, List.length_set]; exact S.len
  slot := fun j s h => by
    rcases get_set h with ⟨q, rfl, l⟩ | ⟨q, h'⟩
    · subst q
      exact ⟨_, List.getElem?_set_self (by rw [S.len]; exact l), a, rfl, f, n, t⟩
    · rw [List.getElem?_set_ne q]
      exact S.slot j s h'
  sep := fun j k s t' b h1 h2 ne o s1 s2 => by
    rcases get_set h1 with ⟨q, rfl, l1⟩ | ⟨q, h1'⟩
    · subst q
      rw [List.getElem?_set_self (by rw [S.len]; exact l1)] at s1
      cases s1
      rcases get_set h2 with ⟨q2, rfl, l2⟩ | ⟨q2, h2'⟩
      · exact ne q2
      · rw [List.getElem?_set_ne q2] at s2
        exact ap k t' h2' s2
    · rw [List.getElem?_set_ne q] at s1
      rcases get_set h2 with ⟨q2, rfl, l2⟩ | ⟨q2, h2'⟩
      · subst q2
        rw [List.getElem?_set_self (by rw [S.len]; exact l2)] at s2
        cases s2
        exact ap j s h1' s1
      · rw [List.getElem?_set_ne q2] at s2
        exact S.sep j k s t' b h1' h2' ne o s1 s2
  mh := S.mh
  mus := fun j d h => by
    rcases get_set h with ⟨_, q, _⟩ | ⟨q, h'⟩
    · cases q
    · rw [List.getElem?_set_ne q]
      exact S.mus j d h'

/-- what stands at a is laid into the frozen part -/
theorem same_upd {F : Hp} {a : Addr} {o : HO} (n : F a = none) : Same F (upd F a o) := fun b u h => by rw [upd_ne (ne_of_none h n)]; exact h
theorem upd_le {F H : Hp} {a : Addr} {o : HO} (l : Same F H) (h : H a = some o) : Same (upd F a o) H := fun b u q => by
  by_cases z : b = a
  · subst z; rw [upd_same] at q; cases q; exact h
  · rw [upd_ne z] at q; exact l _ _ q
/-- a fresh object that no slot holds is frozen -/
theorem SOk.freezeNew (S : SOk Z N F H σ e) {a : Addr} {o : HO} (f : F a = none) (n : N.H a = none) (h : H a = some o) (ap : ∀ (j : Nat) (s : Sl), e[j]? = some s → ¬ Live Z F ((σ[j]?).join) s a) : SOk Z N (upd F a o) H σ e where
  le := upd_le S.le h
  f0 := S.f0.trans (same_upd f)
  h0 := S.h0
  nf := fun b u hb nt nb => by
    rw [upd_ne (ne_of_none hb n)]
    exact S.nf b u hb nt nb
  len := S.len
  slot := fun j s hs => by
    obtain ⟨v, h1, h2⟩ := S.slot j s hs
    refine ⟨v, h1, ?_⟩
    have sm : Same F (upd F a o) := same_upd f
    cases s with
    | no => trivial
    | fz d => obtain ⟨v, e, r⟩ := h2; exact ⟨v, e, r.mono sm⟩
    | ow d =>
      obtain ⟨b, e, x, y, t⟩ := h2
      subst e
      have nb : b ≠ a := fun z => ap j _ hs (by rw [h1, ← z]; rfl)
      exact ⟨b, rfl, by rw [upd_ne nb]; exact x, y, t.keep sm fun _ q => q⟩
    | bo d =>
      obtain ⟨v, e, r⟩ := h2
      subst e
      by_cases rr : Rp Z F v d
      · exact ⟨v, rfl, .inl (rr.mono sm)⟩
      · rcases r with r | ⟨b, rfl, x, y, z, t⟩
        · exact (rr r).elim
        · have nb : b ≠ a := fun z => ap j _ hs (by rw [h1, ← z]; exact ⟨rfl, rr⟩)
          exact ⟨_, rfl, .inr ⟨b, rfl, by rw [upd_ne nb]; exact x, y, z, t.keep sm fun _ q => q⟩⟩
    | mu d =>
      obtain ⟨b, e, x, y, t⟩ := h2
      subst e
      have nb : b ≠ a := fun z => ap j _ hs (by rw [h1, ← z]; rfl)
      exact ⟨b, rfl, by rw [upd_ne nb]; exact x, y, t.keep sm fun _ q => q⟩
  sep := fun i j s t b h1 h2 ne o l1 l2 => S.sep i j s t b h1 h2 ne o (l1.mono (same_upd f)) (l2.mono (same_upd f))
  mh := fun b m => by
    obtain ⟨x, u, v, y⟩ := S.mh b m
    exact ⟨by rw [upd_ne (ne_of_none y n)]; exact x, u, v, y⟩
  mus := S.mus
end
end S3

/-! B2: freezing, changing, growing; the readings of A1's terms; the general rules. -/
namespace S3
open PySem L2
section
variable {Z : Wd} {F F' H H' : Hp} {N : En} {σ : St} {e e' : Env}

/-- an owned slot is frozen -/
theorem SOk.freeze (S : SOk Z N F H σ e) {i : Nat} {d : D} (h : e[i]? = some (.ow d)) : ∃ a F', σ[i]? = some (some (.ref a)) ∧ Same F F' ∧ Rp Z F' (.ref a) d ∧ SOk Z N F' H σ (e.set i (.fz d)) := by
  obtain ⟨o, h1, h2⟩ := S.slot i _ h
  obtain ⟨a, rfl, fa, na, t⟩ := id h2
  obtain ⟨u, hu⟩ := t.there
  have ap : ∀ (j : Nat) (s : Sl), (e.set i .no)[j]? = some s → ¬ Live Z F ((σ[j]?).join) s a := fun j s hj l => by
    rcases get_set hj with ⟨q, rfl, _⟩ | ⟨q, hj'⟩
    · exact l
    · exact S.sep i j _ s a h hj' q rfl (by rw [h1]; rfl) l
  have S1 := (S.forget i).freezeNew fa na hu ap
  have r : Rp Z (upd F a u) (.ref a) d := t.rp (same_upd fa) fun o ho => by rw [hu] at ho; cases ho; exact upd_same
  have S2 := S1.set (i := i) r
  have e1 : σ.set i (some (.ref a)) = σ := by
    apply List.ext_getElem? 
    intro j
    by_cases q : i = j
    · subst q
      rw [List.getElem?_set_self (List.getElem?_eq_some_iff.mp h1).1, h1]
    · rw [List.getElem?_set_ne q]
  rw [e1, List.set_set] at S2
  exact ⟨a, _, h1, same_upd fa, r, S2⟩

/-- a value is settled -/
theorem RvOk.stl (S : SOk Z N F H σ e) {v : V} {r : RV} {d : D} (R : RvOk Z N F H σ e v r) (h : stl r e = some (d, e')) : ∃ F', Same F F' ∧ SOk Z N F' H σ e' ∧ Rp Z F' v d := by
  cases r with
  | fz x => cases h; exact ⟨F, Same.refl _, S, R⟩
  | nw x =>
    cases h
    obtain ⟨a, rfl, fa, na, t, ap⟩ := R
    obtain ⟨u, hu⟩ := t.there
    exact ⟨_, same_upd fa, S.freezeNew fa na hu ap, t.rp (same_upd fa) fun o ho => by rw [hu] at ho; cases ho; exact upd_same⟩
  | «at» i =>
    obtain ⟨h1, s, h2, h3⟩ := R
    have q : S3.slot e i = s := slot_of h2
    unfold S3.stl at h
    dsimp only at h
    rw [q] at h
    cases s with
    | fz x =>
      cases h
      obtain ⟨o, ho, w, rfl, r⟩ := S.slot i _ h2
      rw [h1] at ho; cases ho
      exact ⟨F, Same.refl _, S, r⟩
    | ow x =>
      cases h
      obtain ⟨a, F', g1, g2, g3, g4⟩ := S.freeze h2
      rw [h1] at g1; cases g1
      exact ⟨F', g2, g4, g3⟩
    | no => cases h
    | bo x => cases h
    | mu x => cases h

/-- the object at an owned, or lent, slot is changed -/
theorem SOk.write (S : SOk Z N F H σ e) {i : Nat} {s : Sl} {a : Addr} {o : HO} {d' : D} (h : e[i]? = some s) (ho : s.own = true) (h1 : σ[i]? = some (some (.ref a))) (t : Top Z F (upd H a o) a d') :
    SOk Z N F (upd H a o) σ (e.set i (reown s d')) := by
  obtain ⟨ov, q1, q2⟩ := S.slot i s h
  rw [h1] at q1; cases q1
  have lv : Live Z F ((σ[i]?).join) s a := by rw [h1]; cases s <;> first | rfl | cases ho
  obtain ⟨fa, u, hu⟩ := S.live h lv
  have oth : ∀ (j : Nat) (s' : Sl), i ≠ j → e[j]? = some s' → ¬ Live Z F ((σ[j]?).join) s' a := fun j s' q hj l => S.sep i j s s' a h hj q ho lv l
  have il : i < e.length := (List.getElem?_eq_some_iff.mp h).1
  refine ⟨fun b x hb => by rw [upd_ne (ne_of_none hb fa)]; exact S.le _ _ hb, S.f0, fun b x hb m => ?_, S.nf, by rw [List.length_set]; exact S.len, fun j s' hj => ?_, fun j k s1 s2 b g1 g2 ne o1 l1 l2 => ?_, fun b m => ?_, fun j d2 hj => ?_⟩
  · have nb : b ≠ a := by
      rintro rfl
      cases s with
      | ow x => obtain ⟨c, e1, _, n, _⟩ := q2; cases e1; rw [n] at hb; cases hb
      | mu x => obtain ⟨c, e1, _, n, _⟩ := q2; cases e1; exact m n
      | no => cases ho
      | fz x => cases ho
      | bo x => cases ho
    rw [upd_ne nb]
    exact S.h0 b x hb m
  · rcases get_set hj with ⟨q, rfl, _⟩ | ⟨q, hj'⟩
    · subst q
      refine ⟨_, h1, ?_⟩
      cases s with
      | ow x => obtain ⟨c, e1, f, n, _⟩ := q2; cases e1; exact ⟨a, rfl, f, n, t⟩
      | mu x => obtain ⟨c, e1, f, n, _⟩ := q2; cases e1; exact ⟨a, rfl, f, n, t⟩
      | no => cases ho
      | fz x => cases ho
      | bo x => cases ho
    · obtain ⟨ov, g1, g2⟩ := S.slot j s' hj'
      refine ⟨ov, g1, ?_⟩
      have nl := oth j s' q hj'
      rw [g1] at nl
      have kp : ∀ b, b ≠ a → ∀ o', H b = some o' → upd H a o b = some o' := fun b nb o' hb => by rw [upd_ne nb]; exact hb
      cases s' with
      | no => trivial
      | fz x => exact g2
      | ow x => obtain ⟨b, rfl, f, n, t'⟩ := g2; exact ⟨b, rfl, f, n, t'.keep (Same.refl _) (kp b fun z => nl (by rw [← z]; rfl))⟩
      | mu x => obtain ⟨b, rfl, f, n, t'⟩ := g2; exact ⟨b, rfl, f, n, t'.keep (Same.refl _) (kp b fun z => nl (by rw [← z]; rfl))⟩
      | bo x =>
        obtain ⟨v, rfl, r⟩ := g2
        by_cases rr : Rp Z F v x
        · exact ⟨v, rfl, .inl rr⟩
        · rcases r with r | ⟨b, rfl, f, n, m, t'⟩
          · exact (rr r).elim
          · exact ⟨_, rfl, .inr ⟨b, rfl, f, n, m, t'.keep (Same.refl _) (kp b fun z => nl (by rw [← z]; exact ⟨rfl, rr⟩))⟩⟩
  · rcases get_set g1 with ⟨q, rfl, _⟩ | ⟨q, g1'⟩
    · subst q
      have eb : b = a := by
        rw [h1] at l1
        cases s <;> first | (simp only [Live] at l1; exact (Option.some.inj l1 |> fun z => by injection z with z; exact z.symm)) | cases ho
      subst eb
      rcases get_set g2 with ⟨q2, rfl, _⟩ | ⟨q2, g2'⟩
      · exact ne q2
      · exact oth k s2 q2 g2' l2
    · rcases get_set g2 with ⟨q2, rfl, _⟩ | ⟨q2, g2'⟩
      · subst q2
        have eb : b = a := by
          rw [h1] at l2
          cases s <;> first | (simp only [Live] at l2; exact (Option.some.inj l2 |> fun z => by injection z with z; exact z.symm)) | cases ho
        subst eb
        exact oth j s1 q g1' l1
      · exact S.sep j k s1 s2 b g1' g2' ne o1 l1 l2
  · obtain ⟨x, ⟨u', y, ny⟩, z⟩ := S.mh b m
    refine ⟨x, ?_, z⟩
    by_cases q : b = a
    · subst q; exact t.thereN
    · exact ⟨u', by rw [upd_ne q]; exact y, ny⟩
  · rcases get_set hj with ⟨q, e1, _⟩ | ⟨q, hj'⟩
    · subst q
      cases s <;> simp only [reown] at e1 <;> cases e1
      exact S.mus _ _ h
    · exact S.mus j d2 hj'

/-! ### growth -/
/-- the heap and its frozen part grow; nothing that stood changes -/
structure Gr (F H F' H' : Hp) : Prop where
  f : Same F F'
  h : Same H H'
  le : Same F' H'
  nf : ∀ b u, H b = some u → NT u → F b = none → F' b = none
theorem Gr.refl (l : Same F H) : Gr F H F H := ⟨Same.refl _, Same.refl _, l, fun _ _ _ _ h => h⟩
theorem Gr.trans {F2 H2 : Hp} (a : Gr F H F' H') (b : Gr F' H' F2 H2) : Gr F H F2 H2 := ⟨a.f.trans b.f, a.h.trans b.h, b.le, fun c u h t n => b.nf c u (a.h _ _ h) t (a.nf c u h t n)⟩
/-- a new value -/
def NwOk (Z : Wd) (H F' H' : Hp) (v : V) : RV → Prop
  | .fz d => Rp Z F' v d
  | .nw d => ∃ a, v = .ref a ∧ H a = none ∧ F' a = none ∧ Top Z F' H' a d
  | .at _ => False
theorem SOk.gr (S : SOk Z N F H σ e) (g : Gr F H F' H') : SOk Z N F' H' σ e := S.grow g.f g.h g.le g.nf
theorem SOk.nohave (S : SOk Z N F H σ e) {a : Addr} (h : H a = none) : N.H a = none := by
  cases q : N.H a with
  | none => rfl
  | some o =>
    by_cases m : a ∈ N.M
    · obtain ⟨_, ⟨u, y, _⟩, _⟩ := S.mh a m
      rw [h] at y; cases y
    · have := S.h0 a o q m
      rw [h] at this; cases this
theorem SOk.rvok (S : SOk Z N F H σ e) (g : Gr F H F' H') {v : V} {r : RV} (n : NwOk Z H F' H' v r) : RvOk Z N F' H' σ e v r := by
  cases r with
  | fz d => exact n
  | nw d =>
    obtain ⟨a, rfl, h, f, t⟩ := n
    refine ⟨a, rfl, f, S.nohave h, t, fun j s hj l => ?_⟩
    obtain ⟨_, u, hu⟩ := S.live hj (l.mono g.f)
    rw [h] at hu; cases hu
  | «at» i => exact n.elim
/-- a new object laid -/
theorem Gr.lay (l : Same F H) {a : Addr} {o : HO} (n : H a = none) : Gr F H F (upd H a o) :=
  ⟨Same.refl _, same_upd n, fun b u h => by rw [upd_ne (ne_of_none (l _ _ h) n)]; exact l _ _ h, fun _ _ _ _ h => h⟩
theorem none_le (l : Same F H) {a : Addr} (n : H a = none) : F a = none := by
  cases q : F a with
  | none => rfl
  | some o => have := l _ _ q; rw [n] at this; cases this
/-- a new frozen object laid -/
theorem Gr.layF (l : Same F H) {a : Addr} {o : HO} (n : H a = none) : Gr F H (upd F a o) (upd H a o) := by
  have fa := none_le l n
  refine ⟨same_upd fa, same_upd n, fun b u h => ?_, fun b u hb _ h => ?_⟩
  · by_cases z : b = a
    · subst z; rw [upd_same] at h ⊢; exact h
    · rw [upd_ne z] at h ⊢; exact l _ _ h
  · have z : b ≠ a := ne_of_none hb n
    rw [upd_ne z]; exact h
end

/-! ### readings -/
/-- an exception's class, dict -/
def ExOk (Z : Wd) (F H : Hp) (x : Exn) (cls : Value) (d : Option Addr) : Prop :=
  ∃ C, Z.ca x.c = some C ∧ cls = .ref C ∧ (x.fs = [] → d = none) ∧
    (x.fs ≠ [] → ∃ dd vs, d = some dd ∧ F dd = some (.xd vs) ∧ RpP Z F vs x.fs)
def PostE (Z : Wd) (N : En) (F : Hp) (σ : St) (W : WX) (Q : VK) : RE → Prop
  | .no => False
  | .ok r e => ∀ v F' H', Same F F' → SOk Z N F' H' σ e → RvOk Z N F' H' σ e v r → Q v H'
  | .ex x e => ∀ cls d F' H', Same F F' → SOk Z N F' H' σ e → ExOk Z F' H' x cls d → W cls d σ H'
def tEv (Z : Wd) (W : WX) (f : EV) : TE := fun σ H Q => ∃ N F e, SOk Z N F H σ e ∧ PostE Z N F σ W Q (f e)
def PostT (Z : Wd) (N : En) (F : Hp) (σ : St) (W : WX) (Q : Bool → Hp → Prop) : RT → Prop
  | .no => False
  | .ok b e => ∀ F' H', Same F F' → SOk Z N F' H' σ e → Q b H'
  | .ex x e => ∀ cls d F' H', Same F F' → SOk Z N F' H' σ e → ExOk Z F' H' x cls d → W cls d σ H'
def tTv (Z : Wd) (W : WX) (f : TV) : TT := fun σ H Q => ∃ N F e, SOk Z N F H σ e ∧ PostT Z N F σ W Q (f e)
/-- held while other things are reckoned -/
def Held (Z : Wd) (F : Hp) (σ : St) (v : V) : RV → Prop
  | .fz d => Rp Z F v d
  | .nw d => Rp Z F v d
  | .at i => σ[i]? = some (some v)
/-- argument values -/
inductive Helds (Z : Wd) (F : Hp) (σ : St) : List V → List RV → Prop
  | nil : Helds Z F σ [] []
  | cons {v : V} {vs : List V} {r : RV} {rs : List RV} : Held Z F σ v r → Helds Z F σ vs rs → Helds Z F σ (v :: vs) (r :: rs)
def PostA (Z : Wd) (N : En) (F : Hp) (σ : St) (W : WX) (Q : List V → Hp → Prop) : RA → Prop
  | .no => False
  | .ok rs e => ∀ vs F' H', Same F F' → SOk Z N F' H' σ e → Helds Z F' σ vs rs → Q vs H'
  | .ex x e => ∀ cls d F' H', Same F F' → SOk Z N F' H' σ e → ExOk Z F' H' x cls d → W cls d σ H'
def tAv (Z : Wd) (W : WX) (f : AV) : TA := fun σ H Q => ∃ N F e, SOk Z N F H σ e ∧ PostA Z N F σ W Q (f e)
def PostS (Z : Wd) (N : En) (F : Hp) (W : WX) (E : Ends) : RS → Prop
  | .no => False
  | .nx e => ∀ F' H' σ', Same F F' → SOk Z N F' H' σ' e → E.nx σ' H'
  | .rt r e => ∀ v F' H' σ', Same F F' → SOk Z N F' H' σ' e → RvOk Z N F' H' σ' e v r → E.rt v H'
  | .bk e => ∀ F' H' σ', Same F F' → SOk Z N F' H' σ' e → E.bk σ' H'
  | .ct e => ∀ F' H' σ', Same F F' → SOk Z N F' H' σ' e → E.ct σ' H'
  | .ex x e => ∀ cls d F' H' σ', Same F F' → SOk Z N F' H' σ' e → ExOk Z F' H' x cls d → W cls d σ' H'
def tSv (Z : Wd) (W : WX) (f : SV) : TS := fun E σ H => ∃ N F e, SOk Z N F H σ e ∧ PostS Z N F W E (f e)

/-- the world of a context -/
abbrev zw (ca : Str → Option Addr) (X : Cx) : Wd := ⟨X.prog, X.w, X.K, ca⟩
/-- the text e says f; raises by the wish W -/
abbrev Ev (ca : Str → Option Addr) (W : WX) (X : Cx) (e : Expr) (f : EV) : Prop := PE X e (tEv (zw ca X) W f)
abbrev Tv (ca : Str → Option Addr) (W : WX) (X : Cx) (e : Expr) (f : TV) : Prop := PT X e (tTv (zw ca X) W f)
abbrev Av (ca : Str → Option Addr) (W : WX) (X : Cx) (es : List Expr) (f : AV) : Prop := PA X es (tAv (zw ca X) W f)
abbrev Sv (ca : Str → Option Addr) (W : WX) (X : Cx) (s : Stmt) (f : SV) : Prop := PS X s (tSv (zw ca X) W f)
abbrev Bv (ca : Str → Option Addr) (W : WX) (X : Cx) (s : List Stmt) (f : SV) : Prop := PSs X s (tSv (zw ca X) W f)

theorem PE_imp {X : Cx} {e : Expr} {t t' : TE} (h : PE X e t) (i : ∀ σ H Q, t' σ H Q → t σ H Q) : PE X e t' := ⟨fun p s σ H Q I q => h.run p s σ H Q I (i σ H Q q)⟩
theorem PT_imp {X : Cx} {e : Expr} {t t' : TT} (h : PT X e t) (i : ∀ σ H Q, t' σ H Q → t σ H Q) : PT X e t' := ⟨fun p s σ H Q I q => h.run p s σ H Q I (i σ H Q q)⟩
theorem PW_imp {X : Cx} {e : Expr} {t t' : TT} (h : PW X e t) (i : ∀ σ H Q, t' σ H Q → t σ H Q) : PW X e t' := ⟨fun w p s σ H Q I q => h.run w p s σ H Q I (i σ H Q q)⟩
theorem PA_imp {X : Cx} {e : List Expr} {t t' : TA} (h : PA X e t) (i : ∀ σ H Q, t' σ H Q → t σ H Q) : PA X e t' := ⟨fun w p s σ H Q I q => h.run w p s σ H Q I (i σ H Q q)⟩
theorem PS_imp {X : Cx} {e : Stmt} {t t' : TS} (h : PS X e t) (i : ∀ D σ H, t' D σ H → t D σ H) : PS X e t' := ⟨fun p s σ H D I q => h.run p s σ H D I (i D σ H q)⟩
theorem PSs_imp {X : Cx} {e : List Stmt} {t t' : TS} (h : PSs X e t) (i : ∀ D σ H, t' D σ H → t D σ H) : PSs X e t' := ⟨fun p s σ H D I q => h.run p s σ H D I (i D σ H q)⟩

section
variable {Z : Wd} {W : WX} {F F' H : Hp} {N : En} {σ : St}
theorem PostE.shift {Q : VK} {r : RE} (h : PostE Z N F σ W Q r) (s : Same F F') : PostE Z N F' σ W Q r := by
  cases r with
  | no => exact h
  | ok r e => exact fun v F2 H2 s2 => h v F2 H2 (s.trans s2)
  | ex x e => exact fun c d F2 H2 s2 => h c d F2 H2 (s.trans s2)
theorem PostT.shift {Q : Bool → Hp → Prop} {r : RT} (h : PostT Z N F σ W Q r) (s : Same F F') : PostT Z N F' σ W Q r := by
  cases r with
  | no => exact h
  | ok r e => exact fun F2 H2 s2 => h F2 H2 (s.trans s2)
  | ex x e => exact fun c d F2 H2 s2 => h c d F2 H2 (s.trans s2)
theorem PostA.shift {Q : List V → Hp → Prop} {r : RA} (h : PostA Z N F σ W Q r) (s : Same F F') : PostA Z N F' σ W Q r := by
  cases r with
  | no => exact h
  | ok r e => exact fun v F2 H2 s2 => h v F2 H2 (s.trans s2)
  | ex x e => exact fun c d F2 H2 s2 => h c d F2 H2 (s.trans s2)
theorem PostS.shift {E : Ends} {r : RS} (h : PostS Z N F W E r) (s : Same F F') : PostS Z N F' W E r := by
  cases r with
  | no => exact h
  | nx e => exact fun F2 H2 g s2 => h F2 H2 g (s.trans s2)
  | rt r e => exact fun v F2 H2 g s2 => h v F2 H2 g (s.trans s2)
  | bk e => exact fun F2 H2 g s2 => h F2 H2 g (s.trans s2)
  | ct e => exact fun F2 H2 g s2 => h F2 H2 g (s.trans s2)
  | ex x e => exact fun c d F2 H2 g s2 => h c d F2 H2 g (s.trans s2)

/-- an expression, then something -/
theorem tEv_bind {f : EV} {k : RV → EV} {Q : VK} (h : tEv Z W (eBind f k) σ H Q) :
    tEv Z W f σ H fun v H1 => ∃ N F e r, SOk Z N F H1 σ e ∧ RvOk Z N F H1 σ e v r ∧ PostE Z N F σ W Q (k r e) := by
  obtain ⟨N, F, e, S, P⟩ := h
  refine ⟨N, F, e, S, ?_⟩
  unfold eBind at P
  cases q : f e with
  | no => rw [q] at P; exact P
  | ex x e1 => rw [q] at P; exact P
  | ok r e1 => rw [q] at P; exact fun v F' H' s S' R => ⟨N, F', e1, r, S', R, P.shift s⟩
/-- in the middle -/
theorem post_bind {f : EV} {k : RV → EV} {Q : VK} {e : Env} (S : SOk Z N F H σ e) (P : PostE Z N F σ W Q (eBind f k e)) :
    tEv Z W f σ H fun v H1 => ∃ F' e r, Same F F' ∧ SOk Z N F' H1 σ e ∧ RvOk Z N F' H1 σ e v r ∧ PostE Z N F' σ W Q (k r e) := by
  refine ⟨N, F, e, S, ?_⟩
  unfold eBind at P
  cases q : f e with
  | no => rw [q] at P; exact P
  | ex x e1 => rw [q] at P; exact P
  | ok r e1 => rw [q] at P; exact fun v F' H' s S' R => ⟨F', e1, r, s, S', R, P.shift s⟩
end
end S3

/-! B3: expressions: names, constants, operators, built-ins. -/
namespace S3
open PySem L2
section
variable {Z : Wd} {F F' H H' : Hp} {N : En} {σ : St} {e e' : Env} {v x y : V} {W : WX}

theorem Held.mono {r : RV} (h : Held Z F σ v r) (f : Same F F') : Held Z F' σ v r := by
  cases r with
  | fz d => exact Rp.mono f h
  | nw d => exact Rp.mono f h
  | «at» i => exact h
theorem RvOk.hold (S : SOk Z N F H σ e) {r : RV} (R : RvOk Z N F H σ e v r) : ∃ F', Same F F' ∧ SOk Z N F' H σ e ∧ Held Z F' σ v r := by
  cases r with
  | fz d => exact ⟨F, Same.refl _, S, R⟩
  | nw d =>
    obtain ⟨F', f, S', r⟩ := RvOk.stl (e' := e) S R rfl
    exact ⟨F', f, S', r⟩
  | «at» i => exact ⟨F, Same.refl _, S, R.1⟩
theorem Held.rd (S : SOk Z N F H σ e) {r : RV} {d : D} (h : Held Z F σ v r) (hd : S3.rd r e = some d) : RdV Z F H v d := by
  cases r with
  | fz x => cases hd; exact .inl h
  | nw x => cases hd; exact .inl h
  | «at» i =>
    have hd' : (S3.slot e i).val = some d := hd
    have ne : S3.slot e i ≠ .no := fun z => by rw [z] at hd'; cases hd'
    exact RvOk.rd S (r := .at i) ⟨h, _, slot_get rfl ne, ne⟩ hd
theorem RvOk.held (S : SOk Z N F H σ e) {r : RV} {d : D} (R : RvOk Z N F H σ e v r) (hd : S3.rd r e = some d) : RdV Z F H v d := RvOk.rd S R hd

/-! what a read value is -/
theorem RdV.non (h : RdV Z F H v .non) : v = .non := by
  rcases h with h | ⟨a, _, _, t⟩
  · cases h; rfl
  · exact t.elim
theorem RdV.bl {b : Bool} (h : RdV Z F H v (.bl b)) : v = .bl b := by
  rcases h with h | ⟨a, _, _, t⟩
  · cases h; rfl
  · exact t.elim
theorem RdV.int {i : Int} (h : RdV Z F H v (.int i)) : v = .int i := by
  rcases h with h | ⟨a, _, _, t⟩
  · cases h; rfl
  · exact t.elim
theorem RdV.str {s : Str} (h : RdV Z F H v (.str s)) : v = .str s ∧ s.length ≤ sizeLine ∧ sOk s = true := by
  rcases h with h | ⟨a, _, _, t⟩
  · cases h with
    | str _ z => exact ⟨rfl, by rw [sizeLine_eq]; exact sOk_len z, z⟩
  · exact t.elim
theorem RdV.lst {ds : List D} (l : Same F H) (h : RdV Z F H v (.lst ds)) : ∃ a xs, v = .ref a ∧ H a = some (.lst xs) ∧ RpA Z F xs ds := by
  rcases h with h | ⟨a, rfl, _, xs, t, r⟩
  · cases h with
    | lst k r => exact ⟨_, _, rfl, l _ _ k, r⟩
  · exact ⟨a, xs, rfl, t, r⟩
theorem RdV.tup {ds : List D} (l : Same F H) (h : RdV Z F H v (.tup ds)) : ∃ a xs, v = .ref a ∧ H a = some (.tup xs) ∧ RpA Z F xs ds := by
  rcases h with h | ⟨a, _, _, t⟩
  · cases h with
    | tup k r => exact ⟨_, _, rfl, l _ _ k, r⟩
  · exact t.elim
theorem RdV.dk {ds : List (Key × D)} (l : Same F H) (h : RdV Z F H v (.dk ds)) : ∃ a xs, v = .ref a ∧ L2.Rd H a (.dK xs) ∧ RpP Z F xs ds := by
  rcases h with h | ⟨a, rfl, _, _, xs, t, r⟩
  · cases h with
    | dk k _ r => exact ⟨_, _, rfl, Rd.mono k l, r⟩
  · exact ⟨a, xs, rfl, .inl t, r⟩
theorem RdV.dt {ds : List (List Key × D)} (l : Same F H) (h : RdV Z F H v (.dt ds)) : ∃ a xs, v = .ref a ∧ L2.Rd H a (.dT xs) ∧ RpP Z F xs ds := by
  rcases h with h | ⟨a, rfl, _, _, xs, t, r⟩
  · cases h with
    | dt k _ r => exact ⟨_, _, rfl, Rd.mono k l, r⟩
  · exact ⟨a, xs, rfl, .inl t, r⟩
theorem RdV.dkk {ds : List (Key × D)} (h : RdV Z F H v (.dk ds)) : kOk (ds.map (·.1)) := by
  rcases h with h | ⟨a, rfl, _, q, _⟩
  · cases h with
    | dk k q r => exact q
  · exact q
theorem RdV.st {ks : List Key} (l : Same F H) (h : RdV Z F H v (.st ks)) : ∃ a, v = .ref a ∧ H a = some (SetGO Z.P Z.w a ks) ∧ kOk ks := by
  rcases h with h | ⟨a, rfl, _, t, r⟩
  · cases h with
    | st k r => exact ⟨_, rfl, l _ _ k, r⟩
  · exact ⟨a, rfl, t, r⟩
theorem RdV.obj {c : Str} {ds : List (Str × D)} (l : Same F H) (h : RdV Z F H v (.obj c ds)) : ∃ a C dx xs, v = .ref a ∧ Z.ca c = some C ∧ H a = some (.ins C dx xs) ∧ RpP Z F xs ds := by
  rcases h with h | ⟨a, rfl, _, C, dx, xs, c, t, r⟩
  · cases h with
    | obj c k r => exact ⟨_, _, _, _, rfl, c, l _ _ k, r⟩
  · exact ⟨a, C, dx, xs, rfl, c, t, r⟩
theorem RpA.length : ∀ {vs : List V} {ds : List D}, RpA Z F vs ds → vs.length = ds.length
  | _, _, .nil => rfl
  | _, _, .cons _ r => congrArg Nat.succ r.length
theorem RpA.get : ∀ {vs : List V} {ds : List D} {i : Nat} {d : D}, RpA Z F vs ds → ds[i]? = some d → ∃ v, vs[i]? = some v ∧ Rp Z F v d
  | _, _, _, _, .nil, h => by simp at h
  | _, _, 0, _, .cons h _, q => by simp at q; subst q; exact ⟨_, rfl, h⟩
  | _, _, i + 1, _, .cons _ r, q => by
    obtain ⟨v, h1, h2⟩ := RpA.get (i := i) r (by simpa using q)
    exact ⟨v, by simpa using h1, h2⟩
theorem RpA.append : ∀ {vs ws : List V} {ds es : List D}, RpA Z F vs ds → RpA Z F ws es → RpA Z F (vs ++ ws) (ds ++ es)
  | _, _, _, _, .nil, s => s
  | _, _, _, _, .cons h r, s => .cons h (r.append s)
theorem RpA.drop : ∀ {vs : List V} {ds : List D} (n : Nat), RpA Z F vs ds → RpA Z F (vs.drop n) (ds.drop n)
  | _, _, 0, r => r
  | _, _, _ + 1, .nil => .nil
  | _, _, n + 1, .cons _ r => r.drop n
theorem RpA.take : ∀ {vs : List V} {ds : List D} (n : Nat), RpA Z F vs ds → RpA Z F (vs.take n) (ds.take n)
  | _, _, 0, _ => .nil
  | _, _, _ + 1, .nil => .nil
  | _, _, n + 1, .cons h r => .cons h (r.take n)
theorem RpA.reverse : ∀ {vs : List V} {ds : List D}, RpA Z F vs ds → RpA Z F vs.reverse ds.reverse
  | _, _, .nil => .nil
  | _, _, .cons h r => by rw [List.reverse_cons, List.reverse_cons]; exact r.reverse.append (.cons h .nil)
theorem RpA.set : ∀ {vs : List V} {ds : List D} (i : Nat) {v : V} {d : D}, RpA Z F vs ds → Rp Z F v d → RpA Z F (vs.set i v) (ds.set i d)
  | _, _, _, _, _, .nil, _ => .nil
  | _, _, 0, _, _, .cons _ r, h => .cons h r
  | _, _, i + 1, _, _, .cons h r, q => .cons h (r.set i q)
theorem RpA.dropLast {vs : List V} {ds : List D} (r : RpA Z F vs ds) : RpA Z F vs.dropLast ds.dropLast := by
  rw [List.dropLast_eq_take, List.dropLast_eq_take, r.length]
  exact r.take _
theorem RpA.atI {vs : List V} {ds : List D} {i : Int} {d : D} (r : RpA Z F vs ds) (h : atI ds i = some d) : ∃ v, atI vs i = some v ∧ Rp Z F v d := by
  unfold L2.atI at h ⊢
  rw [r.length]
  cases q : ixN ds.length i with
  | none => rw [q] at h; cases h
  | some j => rw [q] at h; exact r.get (i := j) h

/-! ### readings of two values, of one -/
abbrev R1 := V → Hp → VK → Prop
def Sound2 (Z : Wd) (r : V → V → Hp → VK → Prop) (op : D → D → Option RV) : Prop :=
  ∀ F H x y dx dy rr Q, Same F H → RdV Z F H x dx → RdV Z F H y dy → op dx dy = some rr → (∀ v F' H', Gr F H F' H' → NwOk Z H F' H' v rr → Q v H') → r x y H Q
def Sound1 (Z : Wd) (r : V → Hp → VK → Prop) (op : D → Option RV) : Prop :=
  ∀ F H x dx rr Q, Same F H → RdV Z F H x dx → op dx = some rr → (∀ v F' H', Gr F H F' H' → NwOk Z H F' H' v rr → Q v H') → r x H Q
/-- the end of an operation -/
theorem op_end {rr : RV} {Q : VK} (S : SOk Z N F H σ e) (P : PostE Z N F σ W Q (.ok rr e)) (v : V) (F' H' : Hp) (g : Gr F H F' H') (n : NwOk Z H F' H' v rr) : Q v H' :=
  P v F' H' g.f (S.gr g) (S.rvok g n)
/-- a first expression, then what the rest asks -/
theorem bindL {f : EV} {k : RV → EV} {Q R : VK} (S : SOk Z N F H σ e) (P : PostE Z N F σ W Q (eBind f k e))
    (K : ∀ x F1 H1 e1 r, Same F F1 → SOk Z N F1 H1 σ e1 → RvOk Z N F1 H1 σ e1 x r → PostE Z N F1 σ W Q (k r e1) → R x H1) : tEv Z W f σ H R := by
  unfold eBind at P
  refine ⟨N, F, e, S, ?_⟩
  cases q : f e with
  | no => rw [q] at P; exact P
  | ex z e1 => rw [q] at P; exact P
  | ok r e1 => rw [q] at P; exact fun x F1 H1 f1 S1 R1 => K x F1 H1 e1 r f1 S1 R1 (PostE.shift (r := k r e1) P f1)
/-- an int, then what the rest asks -/
theorem bindI {f : EV} {k : RV → EV} {Q R : VK} (S : SOk Z N F H σ e) (P : PostE Z N F σ W Q (eBind (eI f) k e))
    (K : ∀ i F1 H1 e1, Same F F1 → SOk Z N F1 H1 σ e1 → PostE Z N F1 σ W Q (k (.fz (.int i)) e1) → R (.int i) H1) : tEv Z W f σ H R := by
  unfold eI eBind at P
  refine ⟨N, F, e, S, ?_⟩
  cases q : f e with
  | no => rw [q] at P; exact P
  | ex z e1 => rw [q] at P; exact P
  | ok r e1 =>
    rw [q] at P
    cases r with
    | fz d =>
      cases d with
      | int i =>
        intro x F1 H1 f1 S1 R1
        have ex : x = .int i := RdV.int (H := H1) (.inl R1)
        subst ex
        exact K i F1 H1 e1 f1 S1 (PostE.shift (r := k (.fz (.int i)) e1) P f1)
      | _ => exact P.elim
    | _ => exact P.elim
theorem two {r : V → V → Hp → VK → Prop} {op : D → D → Option RV} (hs : Sound2 Z r op) {fa fb : EV} {Q : VK} (h : tEv Z W (eOp2 op fa fb) σ H Q) :
    tEv Z W fa σ H fun x H1 => tEv Z W fb σ H1 fun y H2 => r x y H2 Q := by
  obtain ⟨N, F, e, S, P⟩ := h
  refine bindL S P fun x F1 H1 e1 ra f1 S1 R1 P1 => ?_
  obtain ⟨F2, f2, S2, h2⟩ := RvOk.hold S1 R1
  refine bindL S2 (PostE.shift P1 f2) fun y F3 H3 e3 rb f3 T3 R3 P3 => ?_
  obtain ⟨F4, f4, S4, h4⟩ := RvOk.hold T3 R3
  have P4 := PostE.shift P3 f4
  have g2 := (h2.mono f3).mono f4
  cases d1 : S3.rd ra e3 with
  | none => rw [d1] at P4; exact P4.elim
  | some dx =>
    cases d2 : S3.rd rb e3 with
    | none => rw [d1, d2] at P4; exact P4.elim
    | some dy =>
      rw [d1, d2] at P4
      dsimp only at P4
      cases d3 : op dx dy with
      | none => rw [d3] at P4; exact P4.elim
      | some rr =>
        rw [d3] at P4
        exact hs F4 H3 x y dx dy rr Q S4.le (g2.rd S4 d1) (h4.rd S4 d2) d3 (op_end S4 P4)
theorem one {r : V → Hp → VK → Prop} {op : D → Option RV} (hs : Sound1 Z r op) {fa : EV} {Q : VK} (h : tEv Z W (eOp1 op fa) σ H Q) :
    tEv Z W fa σ H fun x H1 => r x H1 Q := by
  obtain ⟨N, F, e, S, P⟩ := h
  refine bindL S P fun x F1 H1 e1 ra f1 S1 R1 P1 => ?_
  obtain ⟨F2, f2, S2, h2⟩ := RvOk.hold S1 R1
  have P2 := PostE.shift P1 f2
  cases d1 : S3.rd ra e1 with
  | none => rw [d1] at P2; exact P2.elim
  | some dx =>
    rw [d1] at P2
    dsimp only at P2
    cases d3 : op dx with
    | none => rw [d3] at P2; exact P2.elim
    | some rr =>
      rw [d3] at P2
      exact hs F2 H1 x dx rr Q S2.le (h2.rd S2 d1) d3 (op_end S2 P2)
end
end S3

/-! B4: expressions: names, constants, operators. -/
namespace S3
open PySem L2
section
variable {Z : Wd} {F F' H H' : Hp} {N : En} {σ : St} {e e' : Env} {v x y : V} {W : WX}
theorem slot_rd {i : Nat} {Q : VK} (h : tEv Z W (eSlot i) σ H Q) : tVar i σ H Q := by
  obtain ⟨N, F, e, S, P⟩ := h
  unfold eSlot at P
  have key : ∀ s, S3.slot e i = s → s ≠ .no → ∃ v, σ[i]? = some (some v) ∧ RvOk Z N F H σ e v (.at i) ∧ SlOk Z N F H (some v) s := fun s hs hn => by
    have g := slot_get hs hn
    obtain ⟨o, h1, h2⟩ := S.slot i s g
    have : ∃ v, o = some v := by
      cases s with
      | no => exact (hn rfl).elim
      | fz d => obtain ⟨v, e, _⟩ := h2; exact ⟨v, e⟩
      | ow d => obtain ⟨v, e, _⟩ := h2; exact ⟨_, e⟩
      | bo d => obtain ⟨v, e, _⟩ := h2; exact ⟨v, e⟩
      | mu d => obtain ⟨v, e, _⟩ := h2; exact ⟨_, e⟩
    obtain ⟨v, rfl⟩ := this
    exact ⟨v, h1, ⟨h1, s, g, hn⟩, h2⟩
  cases q : S3.slot e i with
  | no => rw [q] at P; exact P.elim
  | fz d =>
    obtain ⟨v, h1, _, w, e1, r⟩ := key _ q (by intro z; cases z)
    cases e1
    rw [q] at P
    exact ⟨v, h1, P v F H (Same.refl _) S r⟩
  | ow d =>
    obtain ⟨v, h1, h2, _⟩ := key _ q (by intro z; cases z)
    rw [q] at P
    exact ⟨v, h1, P v F H (Same.refl _) S h2⟩
  | bo d =>
    obtain ⟨v, h1, h2, _⟩ := key _ q (by intro z; cases z)
    rw [q] at P
    exact ⟨v, h1, P v F H (Same.refl _) S h2⟩
  | mu d =>
    obtain ⟨v, h1, h2, _⟩ := key _ q (by intro z; cases z)
    rw [q] at P
    exact ⟨v, h1, P v F H (Same.refl _) S h2⟩
theorem const_rd {d : D} {v : V} {Q : VK} (r : ∀ F, Rp Z F v d) (h : tEv Z W (eC d) σ H Q) : tC v σ H Q := by
  obtain ⟨N, F, e, S, P⟩ := h
  exact P v F H (Same.refl _) S (r F)
end

section
variable {ca : Str → Option Addr} {W : WX} {X : Cx} {a b c : Expr} {fa fb fc : EV} {pos : Pos}
/-! ### names and constants -/
theorem ev_slot (i : Nat) {x : Str} {pos : Pos} (hN : X.N[i]? = some x := by rfl) (hv : Vis X.env.scope x := by first | exact Or.inl rfl | exact Or.inr (Or.inl rfl) | exact Or.inr (Or.inr rfl)) (hd : (x == ("__debug__" : Str)) = false := by decide)
    (hcd : (x == ("__classdict__" : Str)) = false := by decide) : Ev ca W X (.Name x pos) (eSlot i) := PE_imp (pe_var hN hv hd hcd) fun _ _ _ => slot_rd
theorem ev_int {i : Int} {j : Nat} : Ev ca W X (.Constant (.int i) j pos) (eC (.int i)) := PE_imp pe_int fun _ _ _ => const_rd fun _ => .int i
theorem ev_bl {b : Bool} {j : Nat} : Ev ca W X (.Constant (.bool b) j pos) (eC (.bl b)) := PE_imp pe_bl fun _ _ _ => const_rd fun _ => .bl b
theorem ev_non {j : Nat} : Ev ca W X (.Constant .none j pos) (eC .non) := PE_imp pe_non fun _ _ _ => const_rd fun _ => .non
theorem ev_str {x : Str} {j : Nat} (hz : sOk x = true := by decide +kernel) : Ev ca W X (.Constant (.str x) j pos) (eC (.str x)) := PE_imp pe_str fun _ _ _ => const_rd fun _ => .str x hz
/-- a constant of the module -/
theorem ev_glob {x : Str} {v : V} {u : Value} {d : D} (hg : Gl X x) (hm : X.mg x = some u) (r : RelV v u) (rp : ∀ F, Rp (zw ca X) F v d) (hd : (x == ("__debug__" : Str)) = false := by decide) : Ev ca W X (.Name x pos) (eC d) :=
  PE_imp (pe_glob hg hm r hd) fun _ _ _ => const_rd rp

/-! ### operators -/
theorem ev_bin {op : Operator} {r : V → V → Hp → VK → Prop} {o : D → D → Option RV} (ho : OpR X (binaryOp op) r) (hs : Sound2 (zw ca X) r o) (ha : Ev ca W X a fa) (hb : Ev ca W X b fb) : Ev ca W X (.BinOp a op b pos) (eOp2 o fa fb) :=
  PE_imp (pe_op ho ha hb) fun _ _ _ => two hs
theorem ev_cmp {op : CmpOp} {r : V → V → Hp → VK → Prop} {o : D → D → Option RV} (ho : OpR X (compareOp op) r) (hs : Sound2 (zw ca X) r o) (ha : Ev ca W X a fa) (hb : Ev ca W X b fb) (hm : behindInMarks op b = false) : Ev ca W X (.Compare a [op] [b] pos) (eOp2 o fa fb) :=
  PE_imp (pe_cmpR ho ha hb hm) fun _ _ _ => two hs
theorem ev_un {op : UnaryOp} {r : V → Hp → VK → Prop} {o : D → Option RV} (ho : UnR X (unaryOp op) r) (hs : Sound1 (zw ca X) r o) (ha : Ev ca W X a fa) : Ev ca W X (.UnaryOp op a pos) (eOp1 o fa) :=
  PE_imp (pe_un ho ha) fun _ _ _ => one hs
end

/-! ### what the operators give -/
section
variable {Z : Wd} {r r' : V → V → Hp → VK → Prop}
/-- a frozen value at the heap as it is -/
theorem fin_fz {F H : Hp} {Q : VK} {d : D} {v : V} (l : Same F H) (q : ∀ v F' H', Gr F H F' H' → NwOk Z H F' H' v (.fz d) → Q v H') (r : Rp Z F v d) : Q v H := q v F H (Gr.refl l) r
theorem fin_int {F H : Hp} {Q : VK} {i : Int} (l : Same F H) (q : ∀ v F' H', Gr F H F' H' → NwOk Z H F' H' v (.fz (.int i)) → Q v H') : Q (.int i) H := fin_fz l q (.int i)
theorem fin_bl {F H : Hp} {Q : VK} {i : Bool} (l : Same F H) (q : ∀ v F' H', Gr F H F' H' → NwOk Z H F' H' v (.fz (.bl i)) → Q v H') : Q (.bl i) H := fin_fz l q (.bl i)
/-- a new list -/
theorem fin_lst {F H : Hp} {Q : VK} {ds : List D} {xs : List V} (l : Same F H) (q : ∀ v F' H', Gr F H F' H' → NwOk Z H F' H' v (.nw (.lst ds)) → Q v H') (r : RpA Z F xs ds) : ∀ p, H p = none → Q (.ref p) (upd H p (.lst xs)) := fun p hp =>
  q (.ref p) F _ (Gr.lay l hp) ⟨p, rfl, hp, none_le l hp, xs, upd_same, r⟩
theorem fin_tup {F H : Hp} {Q : VK} {ds : List D} {xs : List V} (l : Same F H) (q : ∀ v F' H', Gr F H F' H' → NwOk Z H F' H' v (.fz (.tup ds)) → Q v H') (r : RpA Z F xs ds) : ∀ p, H p = none → Q (.ref p) (upd H p (.tup xs)) := fun p hp =>
  q (.ref p) (upd F p (.tup xs)) _ (Gr.layF l hp) (.tup upd_same (r.mono (same_upd (none_le l hp))))
theorem some_inj {α : Type} {x y : α} (h : some x = some y) : x = y := Option.some.inj h

theorem s_intop {g : Int → Int → Int} {C : Int → Int → Prop} {op : D → D → Option RV} (h : ∀ i j rr, op (.int i) (.int j) = some rr → C i j ∧ rr = .fz (.int (g i j))) :
    ∀ F H x y i j rr Q, Same F H → RdV Z F H x (.int i) → RdV Z F H y (.int j) → op (.int i) (.int j) = some rr → (∀ v F' H', Gr F H F' H' → NwOk Z H F' H' v rr → Q v H') → rI C (fun i j => .int (g i j)) x y H Q := by
  intro F H x y i j rr Q l hx hy ho q
  obtain ⟨c, rfl⟩ := h i j rr ho
  exact ⟨i, j, hx.int, hy.int, c, fin_int l q⟩
theorem op_case {op : D → D → Option RV} {dx dy : D} {rr : RV} {P : Prop} (h : op dx dy = some rr) (k : ∀ i j, dx = .int i → dy = .int j → P) (n : (∀ i j, ¬ (dx = .int i ∧ dy = .int j)) → op dx dy = none) : P := by
  by_cases c : ∃ i j, dx = .int i ∧ dy = .int j
  · obtain ⟨i, j, e1, e2⟩ := c
    exact k i j e1 e2
  · rw [n fun i j z => c ⟨i, j, z⟩] at h
    cases h

theorem s_sub : Sound2 Z (rI0 fun i j => .int (i - j)) opSub := by
  intro F H x y dx dy rr Q l hx hy ho q
  cases dx <;> cases dy <;> simp only [opSub] at ho <;> try cases ho
  exact ⟨_, _, hx.int, hy.int, fin_int l q⟩
theorem s_mod : Sound2 Z (rI (fun _ j => 0 < j) fun i j => .int (i % j)) opMod := by
  intro F H x y dx dy rr Q l hx hy ho q
  cases dx <;> cases dy <;> simp only [opMod] at ho <;> try cases ho
  split at ho
  · cases ho; exact ⟨_, _, hx.int, hy.int, by assumption, fin_int l q⟩
  · cases ho
theorem s_div : Sound2 Z (rI CDiv fun i j => .int (i / j)) opDiv := by
  intro F H x y dx dy rr Q l hx hy ho q
  cases dx <;> cases dy <;> simp only [opDiv] at ho <;> try cases ho
  split at ho
  · cases ho; exact ⟨_, _, hx.int, hy.int, by assumption, fin_int l q⟩
  · cases ho
theorem s_pow : Sound2 Z (rI CPow fun i j => .int (i ^ j.toNat)) opPow := by
  intro F H x y dx dy rr Q l hx hy ho q
  cases dx <;> cases dy <;> simp only [opPow] at ho <;> try cases ho
  split at ho
  · cases ho; exact ⟨_, _, hx.int, hy.int, by assumption, fin_int l q⟩
  · cases ho
theorem s_shr : Sound2 Z (rI (fun _ j => 0 ≤ j) fun i j => .int (i / 2 ^ j.toNat)) opShr := by
  intro F H x y dx dy rr Q l hx hy ho q
  cases dx <;> cases dy <;> simp only [opShr] at ho <;> try cases ho
  split at ho
  · cases ho; exact ⟨_, _, hx.int, hy.int, by assumption, fin_int l q⟩
  · cases ho
/-- a comparison of two ints, or of two strings -/
def rCmpA (f : Int → Int → Bool) (g : Str → Str → Bool) : V → V → Hp → VK → Prop := fun x y H Q => rI0 (fun i j => .bl (f i j)) x y H Q ∨ ∃ i j, x = .str i ∧ y = .str j ∧ Q (.bl (g i j)) H
theorem op_ltA {X : Cx} : OpR X (compareOp .Lt) (rCmpA (fun i j => decide (i < j)) fun i j => decide (i.cps.toList < j.cps.toList)) := op_lt.or op_lt_str
theorem op_leA {X : Cx} : OpR X (compareOp .LtE) (rCmpA (fun i j => decide (i ≤ j)) fun i j => !decide (j.cps.toList < i.cps.toList)) := op_le.or op_le_str
theorem op_gtA {X : Cx} : OpR X (compareOp .Gt) (rCmpA (fun i j => decide (j < i)) fun i j => decide (j.cps.toList < i.cps.toList)) := op_gt.or op_gt_str
theorem op_geA {X : Cx} : OpR X (compareOp .GtE) (rCmpA (fun i j => decide (j ≤ i)) fun i j => !decide (i.cps.toList < j.cps.toList)) := op_ge.or op_ge_str
theorem s_lt : Sound2 Z (rCmpA (fun i j => decide (i < j)) fun i j => decide (i.cps.toList < j.cps.toList)) opLt := by
  intro F H x y dx dy rr Q l hx hy ho q
  cases dx <;> cases dy <;> simp only [opLt] at ho <;> cases ho
  · exact .inl ⟨_, _, hx.int, hy.int, fin_bl l q⟩
  · exact .inr ⟨_, _, hx.str.1, hy.str.1, fin_bl l q⟩
theorem s_le : Sound2 Z (rCmpA (fun i j => decide (i ≤ j)) fun i j => !decide (j.cps.toList < i.cps.toList)) opLe := by
  intro F H x y dx dy rr Q l hx hy ho q
  cases dx <;> cases dy <;> simp only [opLe] at ho <;> cases ho
  · exact .inl ⟨_, _, hx.int, hy.int, fin_bl l q⟩
  · exact .inr ⟨_, _, hx.str.1, hy.str.1, fin_bl l q⟩
theorem s_gt : Sound2 Z (rCmpA (fun i j => decide (j < i)) fun i j => decide (j.cps.toList < i.cps.toList)) opGt := by
  intro F H x y dx dy rr Q l hx hy ho q
  cases dx <;> cases dy <;> simp only [opGt] at ho <;> cases ho
  · exact .inl ⟨_, _, hx.int, hy.int, fin_bl l q⟩
  · exact .inr ⟨_, _, hx.str.1, hy.str.1, fin_bl l q⟩
theorem s_ge : Sound2 Z (rCmpA (fun i j => decide (j ≤ i)) fun i j => !decide (i.cps.toList < j.cps.toList)) opGe := by
  intro F H x y dx dy rr Q l hx hy ho q
  cases dx <;> cases dy <;> simp only [opGe] at ho <;> cases ho
  · exact .inl ⟨_, _, hx.int, hy.int, fin_bl l q⟩
  · exact .inr ⟨_, _, hx.str.1, hy.str.1, fin_bl l q⟩
theorem s_neg : Sound1 Z (rU fun i => .int (-i)) opNeg := by
  intro F H x dx rr Q l hx ho q
  cases dx <;> simp only [opNeg] at ho <;> cases ho
  exact ⟨_, hx.int, fin_int l q⟩
/-! a + b -/
def rAddA (K : PySem.W.Frag) : V → V → Hp → VK → Prop := fun x y H Q => rI0 (fun i j => .int (i + j)) x y H Q ∨ (∃ i j, x = .str i ∧ y = .str j ∧ i.length + j.length ≤ sizeLine ∧ Q (.str (i ++ j)) H) ∨ rCat x y H Q ∨ rCatA K x y H Q
theorem op_addA {X : Cx} : OpR X (binaryOp .Add) (rAddA X.K) := op_add.or (op_add_str.or (op_cat.or op_catA))
theorem str_len (x y : Str) : (x ++ y).length = x.length + y.length := by
  show (x.cps ++ y.cps).size = _
  rw [Array.size_append]
  rfl
theorem s_add : Sound2 Z (rAddA Z.K) opAdd := by
  intro F H x y dx dy rr Q l hx hy ho q
  cases dx <;> cases dy <;> simp only [opAdd] at ho <;> try (cases ho; done)
  · cases ho; exact .inl ⟨_, _, hx.int, hy.int, fin_int l q⟩
  · split at ho
    · rename_i h
      cases ho
      refine .inr (.inl ⟨_, _, hx.str.1, hy.str.1, by rw [sizeLine_eq]; exact h, ?_⟩)
      exact fin_fz l q (.str _ (sOk_of (by rw [str_len]; exact h) (by show (_ ++ _ : Array Nat).all _ = true; rw [Array.all_append, sOk_cps hx.str.2.2, sOk_cps hy.str.2.2]; rfl)))
    · cases ho
  · split at ho
    · rename_i h
      cases ho
      obtain ⟨a, xs, rfl, ha, ra⟩ := hx.lst l
      obtain ⟨b, ys, rfl, hb, rb⟩ := hy.lst l
      exact .inr (.inr (.inl ⟨a, b, xs, ys, rfl, rfl, ha, hb, by rw [sizeLine_eq, ra.length, rb.length]; exact h, fin_lst l q (ra.append rb)⟩))
    · cases ho
  · split at ho
    · rename_i h
      cases ho
      have hx' : Rp Z F x (.tup _) := hx.elim id fun ⟨_, _, _, t⟩ => t.elim
      have hy' : Rp Z F y (.tup _) := hy.elim id fun ⟨_, _, _, t⟩ => t.elim
      obtain ⟨a, xs, rfl, ha, ra⟩ := hx.tup l
      obtain ⟨b, ys, rfl, hb, rb⟩ := hy.tup l
      refine .inr (.inr (.inr ⟨a, b, xs, ys, rfl, rfl, SqT.of ha, SqT.of hb, by rw [sizeLine_eq, ra.length, rb.length]; exact h, fun z => ?_, fun _ z => ?_, fun _ _ p hp => ?_⟩))
      · subst z; cases ra; exact fin_fz l q hy'
      · subst z; cases rb
        rw [List.append_nil] at q
        exact fin_fz l q hx'
      · exact q (.ref p) _ _ (Gr.layF l hp) (.tup upd_same ((ra.append rb).mono (same_upd (none_le l hp))))
    · cases ho
theorem notLongS {n : Nat} (h : n ≤ 1000000) : PySem.Builtin.Str.tooLong n = false := by
  unfold PySem.Builtin.Str.tooLong
  rw [decide_eq_false]
  rw [sizeLine_eq]
  omega
theorem fold_rep (x : Array Nat) : ∀ (k : Nat) (acc : Array Nat), (List.replicate k x).foldl (· ++ ·) acc = acc ++ (List.replicate k x.toList).flatten.toArray
  | 0, acc => by simp
  | k + 1, acc => by
    rw [List.replicate_succ, List.foldl_cons, fold_rep x k, List.replicate_succ, List.flatten_cons]
    apply Array.ext'
    simp
theorem strRep_zero {x : Str} {n : Int} (h : n < 1) : strRep x n = Str.empty := by
  unfold strRep
  rw [show n.toNat = 0 by omega]
  rfl
theorem strRep_one {x : Str} : strRep x 1 = x := by
  unfold strRep
  obtain ⟨c⟩ := x
  simp
theorem strRep_nil {x : Str} {n : Int} (h : x.length = 0) : strRep x n = x := by
  obtain ⟨c⟩ := x
  have e : c = #[] := Array.eq_empty_of_size_eq_zero h
  subst e
  unfold strRep
  have : ∀ k : Nat, (List.replicate k ([] : List Nat)).flatten = [] := fun k => by induction k with
    | zero => rfl
    | succ k ih => rw [List.replicate_succ, List.flatten_cons, ih]; rfl
  simp [this]
theorem strRep_len (x : Str) (n : Int) : (strRep x n).length = n.toNat * x.length := by
  unfold strRep
  show (List.flatten _).toArray.size = _
  rw [List.size_toArray, List.length_flatten, List.map_replicate, List.sum_replicate_nat]
  rfl
theorem strRep_ok {x : Str} {n : Int} (h : sOk x = true) (h1 : n ≤ 1000) (h2 : x.length ≤ 1000) : sOk (strRep x n) = true := by
  refine sOk_of ?_ ?_
  · rw [strRep_len]
    have : n.toNat ≤ 1000 := by omega
    exact Nat.le_trans (Nat.mul_le_mul this h2) (by decide)
  · have q := sOk_cps h
    unfold strRep
    simp only [List.all_toArray]
    rw [List.all_eq_true] 
    intro c hc
    obtain ⟨l, hl, hcl⟩ := List.mem_flatten.mp hc
    have := List.eq_of_mem_replicate hl
    subst this
    exact Array.all_eq_true_iff_forall_mem.mp q c (Array.mem_toList_iff.mp hcl)
theorem op_mulS {X : Cx} : OpR X (binaryOp .Mult) (fun x y H Q => ∃ i n, x = .str i ∧ y = .int n ∧ (-1000 ≤ n ∧ n ≤ 1000 ∧ i.length ≤ 1000) ∧ Q (.str (strRep i n)) H) := by
  intro pins s σ H x y v u Q I rx ry h
  obtain ⟨i, n, rfl, rfl, ⟨h1, h2, h3⟩, q⟩ := h
  obtain ⟨t, rfl⟩ := rx
  obtain ⟨t', rfl⟩ := ry
  have fin : ∀ (tk : Tok) (s' : Shared), Inv X pins σ H s' → EP X pins σ Q (.str (strRep i n) tk) s' := fun tk s' I' => ⟨.str (strRep i n), H, I', ⟨tk, rfl⟩, q⟩
  have z1 : i.length * n.toNat ≤ 1000000 := Nat.mul_le_mul h3 (show n.toNat ≤ 1000 by omega)
  refine PySem.P.mul_str (by rw [decide_eq_false (by omega), decide_eq_false (by omega)]; rfl) (fun h4 _ => ?_) (fun h4 _ => ?_) ?_
  · have : (1000 : Int) ≤ (2 ^ 63 - 1) / n := by
      rw [Int.le_ediv_iff_mul_le (by omega)]
      omega
    omega
  · exact notLongS z1
  · by_cases c1 : n < 1
    · rw [if_pos c1]
      have e := strRep_zero (x := i) c1
      refine ⟨by decide, ?_⟩
      rw [← e]
      exact fin _ _ (I.tok _)
    · rw [if_neg c1]
      by_cases c2 : (n == 1 || i.length == 0) = true
      · rw [if_pos c2]
        have e : strRep i n = i := by
          rw [Bool.or_eq_true, beq_iff_eq, beq_iff_eq] at c2
          rcases c2 with rfl | c2
          · exact strRep_one
          · exact strRep_nil c2
        have f := fin t s I
        rw [e] at f
        exact f
      · rw [if_neg c2]
        have e : (⟨(List.replicate n.toNat i.cps).foldl (· ++ ·) #[]⟩ : Str) = strRep i n := by
          unfold strRep
          rw [fold_rep]
          simp
        rw [e]
        refine ⟨?_, fin _ _ (I.tok _)⟩
        rw [strRep_len, Nat.mul_comm, sizeLine_eq]
        omega
def rMulA : V → V → Hp → VK → Prop := fun x y H Q => rI CMul (fun i j => .int (i * j)) x y H Q ∨ ∃ i n, x = .str i ∧ y = .int n ∧ (-1000 ≤ n ∧ n ≤ 1000 ∧ i.length ≤ 1000) ∧ Q (.str (strRep i n)) H
theorem op_mulA {X : Cx} : OpR X (binaryOp .Mult) rMulA := op_mul.or op_mulS
theorem s_mul : Sound2 Z rMulA opMul := by
  intro F H x y dx dy rr Q l hx hy ho q
  cases dx <;> cases dy <;> simp only [opMul] at ho <;> try (cases ho; done)
  · split at ho
    · cases ho; exact .inl ⟨_, _, hx.int, hy.int, by assumption, fin_int l q⟩
    · cases ho
  · split at ho
    · rename_i h
      cases ho
      exact .inr ⟨_, _, hx.str.1, hy.int, h, fin_fz l q (.str _ (strRep_ok hx.str.2.2 h.2.1 h.2.2))⟩
    · cases ho

/-! plain data -/
theorem okD_flat {n : Nat} : ∀ {d : D}, okD 0 d = true → okD n d = true := by
  intro d h
  cases d <;> simp [okD] at h <;> cases n <;> rfl
theorem dp_of {K : PySem.W.Frag} {H : Hp} (hK : Z.K = K) : ∀ (n : Nat) {F : Hp} {v : V} {d : D}, Same F H → okD n d = true → RdV Z F H v d → Dp K H v (py n d) := by
  subst hK
  intro n
  induction n with
  | zero =>
    intro F v d l o h
    cases d <;> simp [okD] at o
    · rw [h.non]; exact .non
    · rw [h.bl]; exact .bl _
    · rw [h.int]; exact .int _
    · rw [h.str.1]; exact .str _
  | succ n ih =>
    intro F v d l o h
    have all : ∀ {vs : List V} {ds : List D}, RpA Z F vs ds → ds.all (okD n) = true → DpAll Z.K H vs (ds.map (py n)) := by
      intro vs ds r
      induction ds generalizing vs with
      | nil => intro _; cases r; exact .nil
      | cons d ds ihd =>
        intro q
        cases r with
        | cons r1 r2 =>
          rw [List.all_cons, Bool.and_eq_true] at q
          exact .cons (ih l q.1 (.inl r1)) (ihd r2 q.2)
    cases d <;> simp only [okD] at o <;> try (cases o; done)
    · rw [h.non]; exact .non
    · rw [h.bl]; exact .bl _
    · rw [h.int]; exact .int _
    · rw [h.str.1]; exact .str _
    · obtain ⟨a, xs, rfl, ha, ra⟩ := h.lst l
      exact .lst (SqL.of ha) (all ra o)
    · obtain ⟨a, xs, rfl, ha, ra⟩ := h.tup l
      exact .tup (SqT.of ha) (all ra o)
theorem py_depth : ∀ (n : Nat) (d : D), okD n d = true → (py n d).depth ≤ n := by
  intro n
  induction n with
  | zero => intro d o; cases d <;> simp [okD] at o <;> simp [py, PyData.depth]
  | succ n ih =>
    intro d o
    have all : ∀ ds : List D, ds.all (okD n) = true → PyData.depthAll (ds.map (py n)) ≤ n := by
      intro ds
      induction ds with
      | nil => intro _; simp [PyData.depthAll]
      | cons d ds ihd =>
        intro q
        rw [List.all_cons, Bool.and_eq_true] at q
        have h2 := ih d q.1
        have h4 := ihd q.2
        simp only [List.map_cons, PyData.depthAll]
        omega
    cases d <;> simp only [okD] at o <;> try (cases o; done)
    case lst xs => have h2 := all _ o; simp only [py, PyData.depth]; omega
    case tup xs => have h2 := all _ o; simp only [py, PyData.depth]; omega
    all_goals simp [py, PyData.depth]
theorem py_lay {F H : Hp} (l : Same F H) : ∀ (n : Nat) {v : V} {d : D}, okD n d = true → RdV Z F H v d → (py n d).canLay0 = true := by
  intro n
  induction n with
  | zero =>
    intro v d o h
    cases d <;> simp [okD] at o <;> simp [py, PyData.canLay0]
    exact sOk_cps h.str.2.2
  | succ n ih =>
    intro v d o h
    have all : ∀ {vs : List V} {ds : List D}, RpA Z F vs ds → ds.all (okD n) = true → PyData.canLayAll0 (ds.map (py n)) = true := by
      intro vs ds r
      induction ds generalizing vs with
      | nil => intro _; simp [PyData.canLayAll0]
      | cons d ds ihd =>
        intro q
        cases r with
        | cons r1 r2 =>
          rw [List.all_cons, Bool.and_eq_true] at q
          simp only [List.map_cons, PyData.canLayAll0, ih q.1 (.inl r1), ihd r2 q.2, Bool.and_self]
    cases d <;> simp only [okD] at o <;> try (cases o; done)
    case lst xs => obtain ⟨a, xs, rfl, ha, ra⟩ := h.lst l; simp only [py, PyData.canLay0]; exact all ra o
    case tup xs => obtain ⟨a, xs, rfl, ha, ra⟩ := h.tup l; simp only [py, PyData.canLay0]; exact all ra o
    case str x => simp only [py, PyData.canLay0]; exact sOk_cps h.str.2.2
    all_goals simp [py, PyData.canLay0]
theorem shaped_py {F H : Hp} (l : Same F H) {n : Nat} (hn : n ≤ 64) {v : V} {d : D} (h : okD n d = true) (r : RdV Z F H v d) : SeqAt.shaped (py n d) = true := by
  show ((py n d).canLay0 && decide ((py n d).depth ≤ 64)) = true
  rw [py_lay l n h r, Bool.true_and]
  exact decide_eq_true (Nat.le_trans (py_depth n d h) hn)
theorem bRV_some {o : Option Bool} {rr : RV} (h : bRV o = some rr) : ∃ b, o = some b ∧ rr = .fz (.bl b) := by
  unfold bRV at h
  cases o with
  | none => cases h
  | some b => cases h; exact ⟨b, rfl, rfl⟩
theorem dEq_some {x y : D} {b : Bool} (h : dEq x y = some b) : okD 6 x = true ∧ okD 6 y = true ∧ b = PyData.eqv (py 6 x) (py 6 y) := by
  unfold dEq at h
  split at h
  · rename_i q
    rw [Bool.and_eq_true] at q
    cases h
    exact ⟨q.1, q.2, rfl⟩
  · cases h
theorem s_eq : Sound2 Z (rEqD Z.K) opEq := by
  intro F H x y dx dy rr Q l hx hy ho q
  obtain ⟨b, h, rfl⟩ := bRV_some ho
  obtain ⟨h1, h2, rfl⟩ := dEq_some h
  exact ⟨_, _, dp_of rfl 6 l h1 hx, dp_of rfl 6 l h2 hy, shaped_py l (by decide) h1 hx, shaped_py l (by decide) h2 hy, fin_bl l q⟩
theorem s_ne : Sound2 Z (rNeD Z.K) opNe := by
  intro F H x y dx dy rr Q l hx hy ho q
  obtain ⟨b, h, rfl⟩ := bRV_some ho
  rw [Option.map_eq_some_iff] at h
  obtain ⟨b, h, rfl⟩ := h
  obtain ⟨h1, h2, rfl⟩ := dEq_some h
  exact ⟨_, _, dp_of rfl 6 l h1 hx, dp_of rfl 6 l h2 hy, shaped_py l (by decide) h1 hx, shaped_py l (by decide) h2 hy, fin_bl l q⟩
/-! is -/
def rIsA : V → V → Hp → VK → Prop := fun x y H Q => (y = .non ∧ Q (.bl (decide (x = .non))) H) ∨ rIsB x y H Q
def rIsNA : V → V → Hp → VK → Prop := fun x y H Q => (y = .non ∧ Q (.bl (!decide (x = .non))) H) ∨ rNotB x y H Q
theorem op_isA {X : Cx} : OpR X (compareOp .Is) rIsA := op_isN.or op_isBl
theorem op_isNA {X : Cx} : OpR X (compareOp .IsNot) rIsNA := op_notN.or op_notBl
theorem RdV.notNon {F H : Hp} {v : V} {d : D} (h : RdV Z F H v d) (n : d ≠ .non) : v ≠ .non := by
  rcases h with h | ⟨a, rfl, _⟩
  · cases h <;> first | (exact (n rfl).elim) | (intro z; cases z)
  · intro z; cases z
theorem dIs_none {F H : Hp} {x y : V} {dx : D} {b : Bool} (hx : RdV Z F H x dx) (h : dIs dx .non = some b) : b = decide (x = .non) := by
  unfold dIs at h
  cases dx <;> simp at h <;> subst h
  · rw [hx.non]; rfl
  all_goals exact (decide_eq_false (hx.notNon (by intro z; cases z))).symm
theorem s_is : Sound2 Z rIsA opIs := by
  intro F H x y dx dy rr Q l hx hy ho q
  obtain ⟨b, h, rfl⟩ := bRV_some ho
  cases dy with
  | non => rw [dIs_none (y := y) hx h] at q; exact .inl ⟨hy.non, fin_bl l q⟩
  | bl c => cases dx <;> simp only [dIs] at h <;> cases h; exact .inr ⟨_, _, hx.bl, hy.bl, fin_bl l q⟩
  | _ => cases dx <;> simp only [dIs] at h <;> cases h
theorem s_isN : Sound2 Z rIsNA opIsNot := by
  intro F H x y dx dy rr Q l hx hy ho q
  obtain ⟨b, h, rfl⟩ := bRV_some ho
  rw [Option.map_eq_some_iff] at h
  obtain ⟨b, h, rfl⟩ := h
  cases dy with
  | non => rw [dIs_none (y := y) hx h] at q; exact .inl ⟨hy.non, fin_bl l q⟩
  | bl c => cases dx <;> simp only [dIs] at h <;> cases h; exact .inr ⟨_, _, hx.bl, hy.bl, fin_bl l q⟩
  | _ => cases dx <;> simp only [dIs] at h <;> cases h
end
end S3

/-! B5: subscripts, in, built-ins by name, methods of built-in types, displays, tests. -/
namespace S3
open PySem L2
section
variable {Z : Wd} {F F' H H' : Hp} {N : En} {σ : St} {e e' : Env} {v x y : V} {W : WX}
/-! ### subscripts -/
theorem toKey_rd {F H : Hp} {y : V} {dy : D} {k : Key} (h : RdV Z F H y dy) (e : toKey dy = some k) : y = kV k := by
  cases dy <;> simp only [toKey] at e <;> cases e
  · exact h.int
  · exact h.str.1
theorem toKeys_rd {F : Hp} : ∀ {ds : List D} {vs : List V} {ks : List Key}, RpA Z F vs ds → toKeys ds = some ks → vs = ks.map kV
  | [], _, _, .nil, e => by simp only [toKeys] at e; cases e; rfl
  | d :: ds, _, _, .cons h r, e => by
    simp only [toKeys] at e
    cases q1 : toKey d with
    | none => rw [q1] at e; cases e
    | some k =>
      cases q2 : toKeys ds with
      | none => rw [q1, q2] at e; cases e
      | some ks =>
        rw [q1, q2] at e
        cases e
        rw [toKey_rd (H := fun _ => none) (.inl h) q1, toKeys_rd r q2]
        rfl
theorem RpP.any {κ : Type} [DecidableEq κ] (k : κ) : ∀ {vs : List (κ × V)} {ds : List (κ × D)}, RpP Z F vs ds → (vs.any fun kv => decide (kv.1 = k)) = ds.any fun kv => decide (kv.1 = k)
  | _, _, .nil => rfl
  | _, _, .cons _ r => by rw [List.any_cons, List.any_cons, RpP.any k r]
theorem RpP.val {κ : Type} [DecidableEq κ] (k : κ) : ∀ {vs : List (κ × V)} {ds : List (κ × D)}, RpP Z F vs ds → (∀ d, dVal ds k = some d → ∃ v, valV vs k = some v ∧ Rp Z F v d) ∧ (dVal ds k = none → valV vs k = none)
  | _, _, .nil => ⟨fun d h => by simp [dVal] at h, fun _ => rfl⟩
  | _, _, @RpP.cons _ _ _ j v vs d ds h r => by
    obtain ⟨i1, i2⟩ := RpP.val k r
    by_cases q : j = k
    · have e1 : dVal ((j, d) :: ds) k = some d := by simp [dVal, q]
      have e2 : valV ((j, v) :: vs) k = some v := by simp [valV, q]
      exact ⟨fun d' h' => by rw [e1] at h'; cases h'; exact ⟨v, e2, h⟩, fun h' => by rw [e1] at h'; cases h'⟩
    · have e1 : dVal ((j, d) :: ds) k = dVal ds k := by simp [dVal, q]
      have e2 : valV ((j, v) :: vs) k = valV vs k := by simp [valV, q]
      rw [e1, e2]
      exact ⟨i1, i2⟩
theorem RpP.length {κ : Type} : ∀ {vs : List (κ × V)} {ds : List (κ × D)}, RpP Z F vs ds → vs.length = ds.length
  | _, _, .nil => rfl
  | _, _, .cons _ r => congrArg Nat.succ r.length
/-- a dict asked -/
theorem dGet_rd {F H : Hp} {x y : V} {dx dy : D} {o : Option D} (l : Same F H) (hx : RdV Z F H x dx) (hy : RdV Z F H y dy) (e : dGet dx dy = some o) :
    ∃ a r, x = .ref a ∧ DGet H a y r ∧ r.isSome = o.isSome ∧ ∀ d, o = some d → ∃ v, r = some v ∧ Rp Z F v d := by
  cases dx <;> simp only [dGet] at e <;> try (cases e; done)
  · rename_i kvs
    rw [Option.map_eq_some_iff] at e
    obtain ⟨k, hk, rfl⟩ := e
    obtain ⟨a, xs, rfl, ha, r⟩ := hx.dk l
    obtain ⟨i1, i2⟩ := r.val k
    have ey := toKey_rd hy hk
    subst ey
    refine ⟨a, valV xs k, rfl, .inl ⟨xs, k, ha, rfl, rfl⟩, ?_, i1⟩
    cases q : dVal kvs k with
    | none => rw [i2 q]; rfl
    | some d => obtain ⟨v, h1, _⟩ := i1 d q; rw [h1]; rfl
  · rename_i kvs
    cases dy <;> simp only at e <;> try (cases e; done)
    rw [Option.map_eq_some_iff] at e
    obtain ⟨k, hk, rfl⟩ := e
    obtain ⟨a, xs, rfl, ha, r⟩ := hx.dt l
    obtain ⟨b, ys, rfl, hb, rb⟩ := hy.tup l
    obtain ⟨i1, i2⟩ := r.val k
    have ey := toKeys_rd rb hk
    subst ey
    refine ⟨a, valV xs k, rfl, .inr ⟨xs, k, _, ha, rfl, hb, rfl⟩, ?_, i1⟩
    cases q : dVal kvs k with
    | none => rw [i2 q]; rfl
    | some d => obtain ⟨v, h1, _⟩ := i1 d q; rw [h1]; rfl
/-! x[i] -/
def rIxA (K : PySem.W.Frag) : V → V → Hp → VK → Prop := fun x y H Q => rIx K x y H Q ∨ ∃ a v, x = .ref a ∧ DGet H a y (some v) ∧ Q v H
theorem ix_dict {X : Cx} (hu : X.A.units + 1 < cLine) : IxR X (fun x y H Q => ∃ a v, x = .ref a ∧ DGet H a y (some v) ∧ Q v H) := by
  intro value slice pins s σ H x y v u Q I rx ry q hs
  obtain ⟨a, w, rfl, g, q⟩ := q
  cases rx
  exact PyProof.Rows.tail_any (dict_typeIs I g) slot_dict_getitem.lookup (d_getItem hu I g ry fun w' s' I' rw' => ⟨w, H, I', rw', q⟩) hs
theorem ix_all {X : Cx} (hu : X.A.units + 1 < cLine) : IxR X (rIxA X.K) := ix_seq.or (ix_dict hu)
theorem sOk_one {z : Str} {c : Nat} {i : Int} (h : sOk z = true) (q : atI z.cps.toList i = some c) : sOk ⟨#[c]⟩ = true := by
  obtain ⟨j, _, h2, _⟩ := atI_get q
  have hm : c ∈ z.cps.toList := List.mem_of_getElem? h2
  have h3 := Array.all_eq_true_iff_forall_mem.mp (sOk_cps h) c (Array.mem_toList_iff.mp hm)
  refine sOk_of (by show 1 ≤ LIM; decide) ?_
  simpa using h3
theorem s_ix : Sound2 Z (rIxA Z.K) opIx := by
  intro F H x y dx dy rr Q l hx hy ho q
  have dict : ∀ (o : Option D), dGet dx dy = some o → o.map RV.fz = some rr → rIxA Z.K x y H Q := fun o h1 h2 => by
    obtain ⟨a, r, rfl, g, _, k⟩ := dGet_rd l hx hy h1
    rw [Option.map_eq_some_iff] at h2
    obtain ⟨d, rfl, rfl⟩ := h2
    obtain ⟨v, rfl, rv⟩ := k d rfl
    exact .inr ⟨a, v, rfl, g, fin_fz l q rv⟩
  have dict' : (dGet dx dy).join.map RV.fz = some rr → rIxA Z.K x y H Q := fun h => by
    cases e : dGet dx dy with
    | none => rw [e] at h; cases h
    | some o => rw [e] at h; exact dict o e h
  cases dx with
  | lst xs =>
    cases dy with
    | int i =>
      simp only [opIx, Option.map_eq_some_iff] at ho
      obtain ⟨d, h1, rfl⟩ := ho
      obtain ⟨a, vs, rfl, ha, ra⟩ := hx.lst l
      obtain ⟨v, h2, rv⟩ := ra.atI h1
      exact .inl (.inl ⟨a, vs, i, v, rfl, hy.int, SqL.of ha, h2, fin_fz l q rv⟩)
    | _ => exact dict' ho
  | tup xs =>
    cases dy with
    | int i =>
      simp only [opIx, Option.map_eq_some_iff] at ho
      obtain ⟨d, h1, rfl⟩ := ho
      obtain ⟨a, vs, rfl, ha, ra⟩ := hx.tup l
      obtain ⟨v, h2, rv⟩ := ra.atI h1
      exact .inl (.inr (.inl ⟨a, vs, i, v, rfl, hy.int, SqT.of ha, h2, fin_fz l q rv⟩))
    | _ => exact dict' ho
  | str z =>
    cases dy with
    | int i =>
      simp only [opIx, Option.map_eq_some_iff] at ho
      obtain ⟨c, h1, rfl⟩ := ho
      exact .inl (.inr (.inr ⟨z, i, c, hx.str.1, hy.int, hx.str.2.1, h1, fin_fz l q (.str _ (sOk_one hx.str.2.2 h1))⟩))
    | _ => exact dict' ho
  | _ => exact dict' ho
/-! slices -/
def rSlA (K : PySem.W.Frag) : V → Option Int → Option Int → Hp → VK → Prop := fun x lo hi H Q => rSlL K x lo hi H Q ∨ rSlS x lo hi H Q ∨ L2.rSlA K x lo hi H Q
theorem sl_all {X : Cx} : SlR X (rSlA X.K) := sl_list.or (sl_str.or sl_tupA)
theorem sOk_cut {z : Str} {lo hi : Option Int} (h : sOk z = true) : sOk (cutS z lo hi) = true := by
  refine sOk_of (Nat.le_trans (cutS_length z lo hi) (sOk_len h)) ?_
  rw [Array.all_eq_true_iff_forall_mem]
  intro c hc
  have hc' : c ∈ (cutS z lo hi).cps.toList := Array.mem_toList_iff.mpr hc
  have h2 : c ∈ z.cps.toList := List.mem_of_mem_drop (List.mem_of_mem_take (show c ∈ ((z.cps.toList.drop (HT.sIx z.length 0 lo)).take (HT.sIx z.length z.length hi - HT.sIx z.length 0 lo)) from hc'))
  exact Array.all_eq_true_iff_forall_mem.mp (sOk_cps h) c (Array.mem_toList_iff.mp h2)
theorem s_dCut {F H : Hp} {x : V} {dx : D} {lo hi : Option Int} {rr : RV} {Q : VK} (l : Same F H) (hx : RdV Z F H x dx) (ho : dCut dx lo hi = some rr) (q : ∀ v F' H', Gr F H F' H' → NwOk Z H F' H' v rr → Q v H') : rSlA Z.K x lo hi H Q := by
  cases dx <;> simp only [dCut] at ho <;> cases ho
  · exact .inr (.inl ⟨_, hx.str.1, hx.str.2.1, fin_fz l q (.str _ (sOk_cut hx.str.2.2))⟩)
  · obtain ⟨a, vs, rfl, ha, ra⟩ := hx.lst l
    refine .inl ⟨a, vs, rfl, SqL.of ha, fin_lst l q ?_⟩
    unfold cutV cutD
    rw [ra.length]
    exact (ra.drop _).take _
  · have hx' : Rp Z F x (.tup _) := hx.elim id fun ⟨_, _, _, t⟩ => t.elim
    obtain ⟨a, vs, rfl, ha, ra⟩ := hx.tup l
    rename_i dd
    have rc : RpA Z F (cutV vs lo hi) (cutD dd lo hi) := by
      unfold cutV cutD
      rw [ra.length]
      exact (ra.drop _).take _
    refine .inr (.inr ⟨a, vs, rfl, SqT.of ha, fun w => ?_, fun _ p hp => q (.ref p) _ _ (Gr.layF l hp) (.tup upd_same (rc.mono (same_upd (none_le l hp))))⟩)
    have e : ∀ ds : List D, ds.length = vs.length → cutD ds lo hi = ds := fun ds hl => by
      unfold cutD
      rw [hl, w.1, w.2, List.drop_zero, Nat.sub_zero, ← hl, List.take_length]
    rw [e _ ra.length.symm] at q
    exact fin_fz l q hx'
end

section
variable {ca : Str → Option Addr} {W : WX} {X : Cx} {a b c : Expr} {fa fb fc : EV} {pos p2 : Pos}
theorem ev_ix (ha : Ev ca W X a fa) (hb : Ev ca W X b fb) (hu : X.A.units + 1 < cLine) (hs : PlainIx b := by intro _ _; rfl) : Ev ca W X (.Subscript a b pos) (eOp2 opIx fa fb) := PE_imp (pe_ix (ix_all hu) ha hb hs) fun _ _ _ => two s_ix
theorem ev_cut (ha : Ev ca W X a fa) (hb : Ev ca W X b fb) (hc : Ev ca W X c fc) : Ev ca W X (.Subscript a (.Slice (some b) (some c) none p2) pos) (eOp3 opCut fa (eI fb) (eI fc)) :=
  PE_imp (pe_slice sl_all ha (po_some hb) (po_some hc)) fun σ H Q ⟨N, F, e, S, P⟩ => by
    refine bindL S P fun x F1 H1 e1 ra f1 S1 R1 P1 => ?_
    obtain ⟨F2, f2, S2, h2⟩ := RvOk.hold S1 R1
    refine bindI S2 (PostE.shift P1 f2) fun i F3 H3 e3 f3 T3 P3 => ⟨i, rfl, ?_⟩
    refine bindI T3 P3 fun j F4 H4 e4 f4 S4 P4 => ⟨j, rfl, ?_⟩
    cases d1 : S3.rd ra e4 with
    | none => rw [d1] at P4; exact P4.elim
    | some dx =>
      rw [d1] at P4
      dsimp only [S3.rd] at P4
      cases d3 : opCut dx (.int i) (.int j) with
      | none => rw [d3] at P4; exact P4.elim
      | some rr =>
        rw [d3] at P4
        exact s_dCut (Z := zw ca X) S4.le (((h2.mono f3).mono f4).rd S4 d1) d3 (op_end S4 P4)
theorem ev_cutLo (ha : Ev ca W X a fa) (hb : Ev ca W X b fb) : Ev ca W X (.Subscript a (.Slice (some b) none none p2) pos) (eOp2 opCutLo fa (eI fb)) :=
  PE_imp (pe_slice sl_all ha (po_some hb) po_none) fun σ H Q ⟨N, F, e, S, P⟩ => by
    refine bindL S P fun x F1 H1 e1 ra f1 S1 R1 P1 => ?_
    obtain ⟨F2, f2, S2, h2⟩ := RvOk.hold S1 R1
    refine bindI S2 (PostE.shift P1 f2) fun i F3 H3 e3 f3 T3 P3 => ⟨i, rfl, ?_⟩
    cases d1 : S3.rd ra e3 with
    | none => rw [d1] at P3; exact P3.elim
    | some dx =>
      rw [d1] at P3
      dsimp only [S3.rd] at P3
      cases d3 : opCutLo dx (.int i) with
      | none => rw [d3] at P3; exact P3.elim
      | some rr =>
        rw [d3] at P3
        exact s_dCut (Z := zw ca X) T3.le ((h2.mono f3).rd T3 d1) d3 (op_end T3 P3)
theorem ev_cutHi (ha : Ev ca W X a fa) (hb : Ev ca W X b fb) : Ev ca W X (.Subscript a (.Slice none (some b) none p2) pos) (eOp2 opCutHi fa (eI fb)) :=
  PE_imp (pe_slice sl_all ha po_none (po_some hb)) fun σ H Q ⟨N, F, e, S, P⟩ => by
    refine bindL S P fun x F1 H1 e1 ra f1 S1 R1 P1 => ?_
    obtain ⟨F2, f2, S2, h2⟩ := RvOk.hold S1 R1
    refine bindI S2 (PostE.shift P1 f2) fun i F3 H3 e3 f3 T3 P3 => ⟨i, rfl, ?_⟩
    cases d1 : S3.rd ra e3 with
    | none => rw [d1] at P3; exact P3.elim
    | some dx =>
      rw [d1] at P3
      dsimp only [S3.rd] at P3
      cases d3 : opCutHi dx (.int i) with
      | none => rw [d3] at P3; exact P3.elim
      | some rr =>
        rw [d3] at P3
        exact s_dCut (Z := zw ca X) T3.le ((h2.mono f3).rd T3 d1) d3 (op_end T3 P3)
end
end S3

/-! B6: in, built-ins by name, methods of built-in types, displays, tests. -/
namespace S3
open PySem L2
/-! ### in, not in -/
section
variable {Z : Wd}
theorem flat_eqv {x y : V} {dx dy : D} {F H : Hp} (hx : RdV Z F H x dx) (hy : RdV Z F H y dy) (ox : okD 0 dx = true) (oy : okD 0 dy = true) : flatV x = true ∧ flatV y = true ∧ eqV y x = PyData.eqv (py 0 dy) (py 0 dx) := by
  cases dx <;> simp [okD] at ox <;> cases dy <;> simp [okD] at oy
  all_goals (first | rw [hx.non] | rw [hx.bl] | rw [hx.int] | rw [hx.str.1])
  all_goals (first | rw [hy.non] | rw [hy.bl] | rw [hy.int] | rw [hy.str.1])
  all_goals (refine ⟨rfl, rfl, ?_⟩; simp [eqV, py, PyData.eqv])
theorem flat_any {x : V} {dx : D} {F H : Hp} (hx : RdV Z F H x dx) (ox : okD 0 dx = true) : ∀ {ys : List V} {ds : List D}, RpA Z F ys ds → ds.all (okD 0) = true → ys.all flatV = true ∧ inV x ys = ds.any fun z => PyData.eqv (py 0 z) (py 0 dx)
  | _, _, .nil, _ => ⟨rfl, rfl⟩
  | _, _, @RpA.cons _ _ v vs d ds h r, q => by
    rw [List.all_cons, Bool.and_eq_true] at q
    obtain ⟨i1, i2⟩ := flat_any hx ox r q.2
    obtain ⟨_, j1, j2⟩ := flat_eqv hx (y := v) (dy := d) (F := F) (H := H) (.inl h) ox q.1
    refine ⟨by rw [List.all_cons, j1, i1]; rfl, ?_⟩
    unfold inV at i2 ⊢
    rw [List.any_cons, List.any_cons, j2, i2]
def rInA (K : PySem.W.Frag) (P : Program) (w : World) : V → V → Hp → VK → Prop := fun x y H Q => rInD K x y H Q ∨ rIn K false x y H Q ∨
  (∃ (c : Nat) (z : Str), x = .str ⟨#[c]⟩ ∧ y = .str z ∧ Q (.bl (decide (c ∈ z.cps.toList))) H) ∨ rSInG P w false x y H Q ∨ ∃ a o, y = .ref a ∧ DGet H a x o ∧ Q (.bl o.isSome) H
def rNInA (K : PySem.W.Frag) (P : Program) (w : World) : V → V → Hp → VK → Prop := fun x y H Q => rNotInD K x y H Q ∨ rIn K true x y H Q ∨
  (∃ (c : Nat) (z : Str), x = .str ⟨#[c]⟩ ∧ y = .str z ∧ Q (.bl (!decide (c ∈ z.cps.toList))) H) ∨ rSInG P w true x y H Q ∨ ∃ a o, y = .ref a ∧ DGet H a x o ∧ Q (.bl (!o.isSome)) H
theorem op_inDict {X : Cx} (hu : X.A.units + 1 < cLine) : OpR X (compareOp .In) (fun x y H Q => ∃ a o, y = .ref a ∧ DGet H a x o ∧ Q (.bl o.isSome) H) := by
  intro pins s σ H x y v u Q I rx ry q
  obtain ⟨a, o, rfl, g, q⟩ := q
  cases ry
  exact d_in hu I g rx fun s' I' => ⟨.bl _, H, I', rfl, q⟩
theorem op_ninDict {X : Cx} (hu : X.A.units + 1 < cLine) : OpR X (compareOp .NotIn) (fun x y H Q => ∃ a o, y = .ref a ∧ DGet H a x o ∧ Q (.bl (!o.isSome)) H) := by
  intro pins s σ H x y v u Q I rx ry q
  obtain ⟨a, o, rfl, g, q⟩ := q
  cases ry
  exact d_notIn hu I g rx fun s' I' => ⟨.bl _, H, I', rfl, q⟩
theorem op_inA {X : Cx} (hu : X.A.units + 65 < cLine) : OpR X (compareOp .In) (rInA X.K X.prog X.w) :=
  (op_inD hu).or (op_in_seq.or (op_in_sign.or (or_sinG.or (op_inDict (by omega)))))
theorem op_ninA {X : Cx} (hu : X.A.units + 65 < cLine) : OpR X (compareOp .NotIn) (rNInA X.K X.prog X.w) :=
  (op_notInD hu).or (op_notIn_seq.or (op_notIn_sign.or (or_snotinG.or (op_ninDict (by omega)))))
/-- the cases of in -/
theorem in_cases {F H : Hp} {x y : V} {dx dy : D} {b : Bool} (l : Same F H) (hx : RdV Z F H x dx) (hy : RdV Z F H y dy) (h : dIn dx dy = some b) :
    (∃ d ds, Dp Z.K H x d ∧ Dp Z.K H y (.list ds) ∧ SeqAt.shaped d = true ∧ SeqAt.shaped (.list ds) = true ∧ b = ds.any fun z => PyData.eqv z d) ∨
    (∃ p xs, y = .ref p ∧ (SqL Z.K H p xs ∨ SqT Z.K H p xs) ∧ flatV x = true ∧ xs.all flatV = true ∧ b = inV x xs) ∨
    (∃ (c : Nat) (z : Str), x = .str ⟨#[c]⟩ ∧ y = .str z ∧ b = decide (c ∈ z.cps.toList)) ∨
    (∃ (k : Key) (a : Addr) (ks : List Key), x = kV k ∧ y = V.ref a ∧ H a = some (SetGO Z.P Z.w a ks) ∧ b = kIn k ks) ∨ ∃ a o, y = .ref a ∧ DGet H a x o ∧ b = o.isSome := by
  have dict : (dGet dy dx).map (·.isSome) = some b → ∃ a o, y = .ref a ∧ DGet H a x o ∧ b = o.isSome := fun h => by
    rw [Option.map_eq_some_iff] at h
    obtain ⟨o, h1, rfl⟩ := h
    obtain ⟨a, r, rfl, g, e, _⟩ := dGet_rd l hy hx h1
    exact ⟨a, r, rfl, g, e.symm⟩
  unfold dIn at h
  split at h
  · rename_i ys
    split at h
    · rename_i q
      rw [Bool.and_eq_true] at q
      cases h
      have oy : okD 6 (.lst ys) = true := q.2
      have s2 := shaped_py l (n := 6) (by decide) oy hy
      have d2 := dp_of rfl 6 l oy hy
      have e6 : ∀ d : D, okD 5 d = true → py 6 d = py 5 d := by
        have gen : ∀ (n : Nat) (d : D), okD n d = true → py (n + 1) d = py n d := by
          intro n
          induction n with
          | zero => intro d o; cases d <;> simp [okD] at o <;> rfl
          | succ n ih =>
            intro d o
            cases d <;> simp only [okD] at o <;> try (cases o; done)
            all_goals try rfl
            all_goals (simp only [py]; congr 1; exact List.map_congr_left fun z hz => ih z (List.all_eq_true.mp o z hz))
        exact gen 5
      refine .inl ⟨_, ys.map (py 5), dp_of rfl 6 l q.1 hx, d2, shaped_py l (by decide) q.1 hx, s2, ?_⟩
      rw [List.any_map]
      have q2 := q.2
      clear d2 s2 hy oy q dict
      induction ys with
      | nil => rfl
      | cons d ds ih =>
        rw [List.all_cons, Bool.and_eq_true] at q2
        rw [List.any_cons, List.any_cons, ih q2.2, e6 d q2.1]
        rfl
    · cases h
  · rename_i ys
    split at h
    · rename_i q
      rw [Bool.and_eq_true] at q
      cases h
      obtain ⟨a, xs, rfl, ha, ra⟩ := hy.tup l
      obtain ⟨j1, j2⟩ := flat_any hx q.1 ra q.2
      have j3 : flatV x = true := (flat_eqv hx hx q.1 q.1).1
      exact .inr (.inl ⟨a, xs, rfl, .inr (SqT.of ha), j3, j1, j2.symm⟩)
    · cases h
  · rename_i z
    split at h
    · rename_i c
      split at h
      · rename_i hc
        cases h
        have ec : c = ⟨#[c.cps.getD 0 0]⟩ := by
          obtain ⟨cs⟩ := c
          obtain ⟨l⟩ := cs
          cases l with
          | nil => cases hc
          | cons k r =>
            cases r with
            | nil => rfl
            | cons k2 r => cases hc
        refine .inr (.inr (.inl ⟨c.cps.getD 0 0, z, ?_, hy.str.1, rfl⟩))
        rw [hx.str.1, ← ec]
      · cases h
    · cases h
  · rename_i ks
    rw [Option.map_eq_some_iff] at h
    obtain ⟨k, hk, rfl⟩ := h
    obtain ⟨a, rfl, ha, _⟩ := hy.st l
    exact .inr (.inr (.inr (.inl ⟨k, a, _, toKey_rd hx hk, rfl, ha, rfl⟩)))
  · exact .inr (.inr (.inr (.inr (dict h))))
theorem s_in : Sound2 Z (rInA Z.K Z.P Z.w) opIn := by
  intro F H x y dx dy rr Q l hx hy ho q
  obtain ⟨b, h, rfl⟩ := bRV_some ho
  rcases in_cases l hx hy h with ⟨d, ds, h1, h2, h3, h4, rfl⟩ | ⟨p, xs, h1, h2, h3, h4, rfl⟩ | ⟨c, z, h1, h2, rfl⟩ | ⟨k, a, ks, h1, h2, h3, rfl⟩ | ⟨a, o, h1, h2, rfl⟩
  · exact .inl ⟨d, ds, h1, h2, h3, h4, fin_bl l q⟩
  · exact .inr (.inl ⟨p, xs, h1, h2, h3, h4, fin_bl l q⟩)
  · exact .inr (.inr (.inl ⟨c, z, h1, h2, fin_bl l q⟩))
  · exact .inr (.inr (.inr (.inl ⟨k, a, ks, h1, h2, h3, fin_bl l q⟩)))
  · exact .inr (.inr (.inr (.inr ⟨a, o, h1, h2, fin_bl l q⟩)))
theorem s_nin : Sound2 Z (rNInA Z.K Z.P Z.w) opNotIn := by
  intro F H x y dx dy rr Q l hx hy ho q
  obtain ⟨b, h, rfl⟩ := bRV_some ho
  rw [Option.map_eq_some_iff] at h
  obtain ⟨b, h, rfl⟩ := h
  rcases in_cases l hx hy h with ⟨d, ds, h1, h2, h3, h4, rfl⟩ | ⟨p, xs, h1, h2, h3, h4, rfl⟩ | ⟨c, z, h1, h2, rfl⟩ | ⟨k, a, ks, h1, h2, h3, rfl⟩ | ⟨a, o, h1, h2, rfl⟩
  · exact .inl ⟨d, ds, h1, h2, h3, h4, fin_bl l q⟩
  · exact .inr (.inl ⟨p, xs, h1, h2, h3, h4, fin_bl l q⟩)
  · exact .inr (.inr (.inl ⟨c, z, h1, h2, fin_bl l q⟩))
  · exact .inr (.inr (.inr (.inl ⟨k, a, ks, h1, h2, h3, fin_bl l q⟩)))
  · exact .inr (.inr (.inr (.inr ⟨a, o, h1, h2, fin_bl l q⟩)))

/-! ### built-ins, by what they give -/
theorem s_int : Sound1 Z (fun x H Q => (∃ i, [x] = [V.int i] ∧ Q (.int i) H) ∨ ∃ k, [x] = [V.bl k] ∧ Q (.int (if k then 1 else 0)) H) opInt := by
  intro F H x dx rr Q l hx ho q
  cases dx <;> simp only [opInt] at ho <;> cases ho
  · exact .inr ⟨_, by rw [hx.bl], fin_int l q⟩
  · exact .inl ⟨_, by rw [hx.int], fin_int l q⟩
theorem s_abs : Sound1 Z (fun x H Q => ∃ i, [x] = [V.int i] ∧ Q (.int (if i < 0 then -i else i)) H) opAbs := by
  intro F H x dx rr Q l hx ho q
  cases dx <;> simp only [opAbs] at ho <;> cases ho
  exact ⟨_, by rw [hx.int], fin_int l q⟩
def rLenA (K : PySem.W.Frag) (P : Program) (w : World) : List V → Hp → VK → Prop := fun xs H Q => (∃ x n, xs = [x] ∧ LenV K x H n ∧ Q (.int n) H) ∨ (∃ a kvs, xs = [V.ref a] ∧ L2.Rd H a (.dK kvs) ∧ Q (.int kvs.length) H) ∨
  ∃ a ks, xs = [V.ref a] ∧ H a = some (SetGO P w a ks) ∧ Q (.int ks.length) H
theorem call_lenR {X : Cx} : CallR X (.builtin "len") (fun xs H Q => ∃ a kvs, xs = [V.ref a] ∧ L2.Rd H a (.dK kvs) ∧ Q (.int kvs.length) H) := by
  intro pins s σ H xs us Q I r h
  obtain ⟨a, kvs, rfl, ha, q⟩ := h
  obtain ⟨u, rfl, ru⟩ := vals1 r
  cases ru
  exact d_len I ha fun t s' I' => ⟨.int kvs.length, H, I', ⟨t, rfl⟩, q⟩
theorem call_lenA {X : Cx} : CallR X (.builtin "len") (rLenA X.K X.prog X.w) := call_len.or (call_lenR.or call_lenSetG)
theorem s_len : Sound1 Z (fun x => rLenA Z.K Z.P Z.w [x]) opLen := by
  intro F H x dx rr Q l hx ho q
  cases dx <;> simp only [opLen] at ho <;> try (cases ho; done)
  · cases ho
    rw [hx.str.1]
    exact .inl ⟨_, _, rfl, ⟨hx.str.2.1, rfl⟩, fin_int l q⟩
  · cases ho
    obtain ⟨a, xs, rfl, ha, ra⟩ := hx.lst l
    refine .inl ⟨_, _, rfl, .inl ⟨xs, SqL.of ha, rfl⟩, ?_⟩
    rw [ra.length]
    exact fin_int l q
  · cases ho
    obtain ⟨a, xs, rfl, ha, ra⟩ := hx.tup l
    refine .inl ⟨_, _, rfl, .inr ⟨xs, SqT.of ha, rfl⟩, ?_⟩
    rw [ra.length]
    exact fin_int l q
  · cases ho
    obtain ⟨a, xs, rfl, ha, ra⟩ := hx.dk l
    refine .inr (.inl ⟨_, _, rfl, ha, ?_⟩)
    rw [ra.length]
    exact fin_int l q
  · cases ho
    obtain ⟨a, rfl, ha, _⟩ := hx.st l
    exact .inr (.inr ⟨_, _, rfl, ha, fin_int l q⟩)
theorem toBools_rd {F : Hp} : ∀ {ds : List D} {vs : List V} {bs : List Bool}, RpA Z F vs ds → toBools ds = some bs → vs = bs.map V.bl
  | [], _, _, .nil, e => by simp only [toBools] at e; cases e; rfl
  | d :: ds, _, _, .cons h r, e => by
    cases d <;> simp only [toBools] at e <;> try (cases e; done)
    rw [Option.map_eq_some_iff] at e
    obtain ⟨bs, h1, rfl⟩ := e
    rw [toBools_rd r h1, RdV.bl (H := fun _ => none) (.inl h)]
    rfl
theorem s_all : Sound1 Z (fun x => rAll Z.K [x]) opAll := by
  intro F H x dx rr Q l hx ho q
  cases dx <;> simp only [opAll] at ho <;> try (cases ho; done)
  rw [Option.map_eq_some_iff] at ho
  obtain ⟨bs, h1, rfl⟩ := ho
  obtain ⟨a, xs, rfl, ha, ra⟩ := hx.lst l
  have e := toBools_rd ra h1
  subst e
  exact ⟨a, bs, rfl, SqL.of ha, fin_bl l q⟩
theorem s_any : Sound1 Z (fun x => rAny Z.K [x]) opAny := by
  intro F H x dx rr Q l hx ho q
  cases dx <;> simp only [opAny] at ho <;> try (cases ho; done)
  rw [Option.map_eq_some_iff] at ho
  obtain ⟨bs, h1, rfl⟩ := ho
  obtain ⟨a, xs, rfl, ha, ra⟩ := hx.lst l
  have e := toBools_rd ra h1
  subst e
  exact ⟨a, bs, rfl, SqL.of ha, fin_bl l q⟩
theorem s_list : Sound1 Z (fun x H Q => ∃ p ys, [x] = [V.ref p] ∧ (SqL Z.K H p ys ∨ SqT Z.K H p ys) ∧ ∀ l, H l = none → Q (.ref l) (upd H l (.lst ys))) opList := by
  intro F H x dx rr Q l hx ho q
  cases dx <;> simp only [opList] at ho <;> cases ho
  · obtain ⟨a, xs, rfl, ha, ra⟩ := hx.lst l
    exact ⟨a, xs, rfl, .inl (SqL.of ha), fin_lst l q ra⟩
  · obtain ⟨a, xs, rfl, ha, ra⟩ := hx.tup l
    exact ⟨a, xs, rfl, .inr (SqT.of ha), fin_lst l q ra⟩
theorem s_tuple : Sound1 Z (fun x H Q => ∃ p ys, [x] = [V.ref p] ∧ ((SqL Z.K H p ys ∧ ∀ l, H l = none → Q (.ref l) (upd H l (.tup ys))) ∨ (SqT Z.K H p ys ∧ Q (.ref p) H))) opTuple := by
  intro F H x dx rr Q l hx ho q
  cases dx <;> simp only [opTuple] at ho <;> cases ho
  · obtain ⟨a, xs, rfl, ha, ra⟩ := hx.lst l
    exact ⟨a, xs, rfl, .inl ⟨SqL.of ha, fin_tup l q ra⟩⟩
  · rcases hx with hx | ⟨_, _, _, t⟩
    · obtain ⟨a, xs, rfl, ha, ra⟩ := RdV.tup (H := H) l (.inl hx)
      exact ⟨a, xs, rfl, .inr ⟨SqT.of ha, fin_fz l q hx⟩⟩
    · exact t.elim
theorem s_isty {T : String} (k1 : kitB "NoneType" T = some (subT "NoneType" T)) (k2 : kitB "bool" T = some (subT "bool" T)) (k3 : kitB "int" T = some (subT "int" T)) (k4 : kitB "str" T = some (subT "str" T))
    (k5 : kitB "list" T = some (subT "list" T)) (k6 : kitB "tuple" T = some (subT "tuple" T)) (k7 : kitB "dict" T = some (subT "dict" T)) : Sound1 Z (fun x => rIsi Z.K [x, .ty T]) (opIsTy T) := by
  intro F H x dx rr Q l hx ho q
  obtain ⟨b, h, rfl⟩ := bRV_some ho
  unfold isTy at h
  cases dx <;> simp only [tyN, Option.map_some, Option.map_none] at h <;> cases h
  · rw [hx.non]; exact ⟨_, _, _, _, _, rfl, .ty T, .base .non, kit_ty k1, fin_bl l q⟩
  · rw [hx.bl]; exact ⟨_, _, _, _, _, rfl, .ty T, .base (.bl _), kit_ty k2, fin_bl l q⟩
  · rw [hx.int]; exact ⟨_, _, _, _, _, rfl, .ty T, .base (.int _), kit_ty k3, fin_bl l q⟩
  · rw [hx.str.1]; exact ⟨_, _, _, _, _, rfl, .ty T, .base (.str _), kit_ty k4, fin_bl l q⟩
  · obtain ⟨a, xs, rfl, ha, _⟩ := hx.lst l; exact ⟨_, _, _, _, _, rfl, .ty T, .base (.lst ha), kit_ty k5, fin_bl l q⟩
  · obtain ⟨a, xs, rfl, ha, _⟩ := hx.tup l; exact ⟨_, _, _, _, _, rfl, .ty T, .base (.tup ha), kit_ty k6, fin_bl l q⟩
  · obtain ⟨a, xs, rfl, ha, _⟩ := hx.dk l; exact ⟨_, _, _, _, _, rfl, .ty T, ha.elim (fun z => .base (.dK z)) (fun ⟨o, z⟩ => .fDict z), kit_ty k7, fin_bl l q⟩
theorem sOk_int (i : Int) (h : i.natAbs.log2 < 1900) : sOk ((toString i : String) : Str) = true := by
  refine sOk_of (Nat.le_trans (PyProof.Rows.int_text_len_1921 (by omega)) (by decide)) ?_
  rw [Array.all_eq_true_iff_forall_mem]
  intro c hc
  have hc' : c ∈ (Str.ofString (toString i)).cps.toList := Array.mem_toList_iff.mpr hc
  rw [PyProof.Rows.signs_ofString] at hc'
  obtain ⟨ch, _, rfl⟩ := List.mem_map.mp hc'
  have := ch.valid
  simp only [decide_eq_true_eq]
  have h2 : ch.toNat < 1114112 := by
    have h3 := ch.valid
    simp only [UInt32.isValidChar, Nat.isValidChar] at h3
    show ch.val.toNat < _
    omega
  exact h2
theorem s_str : Sound1 Z (fun x H Q => (∃ a, [x] = [V.str a] ∧ Q (.str a) H) ∨ ∃ i, [x] = [V.int i] ∧ i.natAbs.log2 < 1920 ∧ Q (.str (toString i)) H) opStr := by
  intro F H x dx rr Q l hx ho q
  cases dx <;> simp only [opStr] at ho <;> try (cases ho; done)
  · split at ho
    · rename_i h
      cases ho
      exact .inr ⟨_, by rw [hx.int], by omega, fin_fz l q (.str _ (sOk_int _ h))⟩
    · cases ho
  · cases ho
    exact .inl ⟨_, by rw [hx.str.1], fin_fz l q (.str _ hx.str.2.2)⟩
end

section
variable {ca : Str → Option Addr} {W : WX} {X : Cx} {a b : Expr} {fa fb : EV} {pos p : Pos}
/-- f(a), f a built-in function, type -/
theorem ev_call1 {id : String} {n : Str} {r : List V → Hp → VK → Prop} {o : D → Option RV} (hc : CallR X (.builtin id) r) (hs : Sound1 (zw ca X) (fun x => r [x]) o) (hm : X.mg n = none) (ha : Ev ca W X a fa) (hg : Gl X n := by rfl)
    (hv : bootBuiltins n = some (.builtin id) := by decide +kernel) (hn : n ≠ "__name__" := by decide) (hdb : (n == ("__debug__" : Str)) = false := by decide)
    (he : starEach [a] X.env = (false, eval a X.env) :: starEach [] X.env := by rfl) : Ev ca W X (.Call (.Name n p) [a] [] pos) (eOp1 o fa) :=
  PE_imp (pe_callB hc hg hm hv (pa_cons ha pa_nil he) hn hdb he (by rfl)) fun _ _ _ => one hs
theorem ev_type1 {T : String} {n : Str} {r : List V → Hp → VK → Prop} {o : D → Option RV} (hc : CallR X (.type T) r) (hs : Sound1 (zw ca X) (fun x => r [x]) o) (hm : X.mg n = none) (ha : Ev ca W X a fa) (hg : Gl X n := by rfl)
    (hv : bootBuiltins n = some (.type T) := by decide +kernel) (hn : n ≠ "__name__" := by decide) (hdb : (n == ("__debug__" : Str)) = false := by decide)
    (he : starEach [a] X.env = (false, eval a X.env) :: starEach [] X.env := by rfl) : Ev ca W X (.Call (.Name n p) [a] [] pos) (eOp1 o fa) :=
  PE_imp (pe_callTy hc hg hm hv (pa_cons ha pa_nil he) hn hdb he (by rfl)) fun _ _ _ => one hs
/-- isinstance(a, T) -/
theorem ev_isty {T : String} {n : Str} {p2 : Pos} {o : D → Option RV} (hs : Sound1 (zw ca X) (fun x => rIsi X.K [x, .ty T]) o) (hm : X.mg "isinstance" = none) (hmT : X.mg n = none) (ha : Ev ca W X a fa) (hg : Gl X "isinstance" := by rfl) (hgT : Gl X n := by rfl)
    (hvT : bootBuiltins n = some (.type T) := by decide +kernel) (hn : n ≠ "__name__" := by decide) (hdb : (n == ("__debug__" : Str)) = false := by decide)
    (he : starEach [a, .Name n p2] X.env = (false, eval a X.env) :: starEach [.Name n p2] X.env := by rfl) : Ev ca W X (.Call (.Name "isinstance" p) [a, .Name n p2] [] pos) (eOp1 o fa) :=
  PE_imp (pe_callB call_isi hg hm (by decide +kernel) (pa_cons ha (pa_cons (pe_bltn (v := .ty T) hgT hmT hvT rfl hn hdb) pa_nil) he) (by decide) (by decide) he (by rfl)) fun _ _ _ => one hs
end
end S3

/-! B7: argument lists, displays, changes of one's own lists, tests. -/
namespace S3
open PySem L2
section
variable {Z : Wd} {F F' H H' : Hp} {N : En} {σ : St} {e e' : Env} {v x y : V} {W : WX}
/-! ### argument lists -/
theorem tAv_nil {Q : List V → Hp → Prop} (h : tAv Z W aNil σ H Q) : tNil σ H Q := by
  obtain ⟨N, F, e, S, P⟩ := h
  exact P [] F H (Same.refl _) S .nil
theorem tAv_keep {f : EV} {g : AV} {Q : List V → Hp → Prop} (h : tAv Z W (aKeep f g) σ H Q) : tCons (tEv Z W f) (tAv Z W g) σ H Q := by
  obtain ⟨N, F, e, S, P⟩ := h
  unfold aKeep at P
  refine ⟨N, F, e, S, ?_⟩
  cases q : f e with
  | no => rw [q] at P; exact P
  | ex z e1 => rw [q] at P; exact P
  | ok r e1 =>
    rw [q] at P
    dsimp only at P
    intro x F1 H1 f1 S1 R1
    cases q1 : stl r e1 with
    | none => rw [q1] at P; exact P.elim
    | some p =>
      obtain ⟨d, e2⟩ := p
      rw [q1] at P
      dsimp only at P
      obtain ⟨F2, f2, S2, r2⟩ := RvOk.stl S1 R1 q1
      refine ⟨N, F2, e2, S2, ?_⟩
      cases q2 : g e2 with
      | no => rw [q2] at P; exact P
      | ex z e3 => rw [q2] at P; exact PostA.shift P (f1.trans f2)
      | ok rs e3 =>
        rw [q2] at P
        exact fun vs F3 H3 f3 S3 h3 => P (x :: vs) F3 H3 ((f1.trans f2).trans f3) S3 (.cons (r := .fz d) (r2.mono f3) h3)
theorem Held.monoL {vs : List V} {rs : List RV} (h : Helds Z F σ vs rs) (f : Same F F') : Helds Z F' σ vs rs := by
  induction h with
  | nil => exact .nil
  | cons a _ ih => exact .cons (a.mono f) ih
theorem tAv_cons {f : EV} {g : AV} {Q : List V → Hp → Prop} (h : tAv Z W (aCons f g) σ H Q) : tCons (tEv Z W f) (tAv Z W g) σ H Q := by
  obtain ⟨N, F, e, S, P⟩ := h
  unfold aCons at P
  refine ⟨N, F, e, S, ?_⟩
  cases q : f e with
  | no => rw [q] at P; exact P
  | ex z e1 => rw [q] at P; exact P
  | ok r e1 =>
    rw [q] at P
    dsimp only at P
    intro x F1 H1 f1 S1 R1
    obtain ⟨F2, f2, S2, r2⟩ := RvOk.hold S1 R1
    refine ⟨N, F2, e1, S2, ?_⟩
    cases q2 : g e1 with
    | no => rw [q2] at P; exact P
    | ex z e3 => rw [q2] at P; exact PostA.shift P (f1.trans f2)
    | ok rs e3 =>
      rw [q2] at P
      exact fun vs F3 H3 f3 S3 h3 => P (x :: vs) F3 H3 ((f1.trans f2).trans f3) S3 (.cons (r2.mono f3) h3)
theorem fzs_rd : ∀ {rs : List RV} {vs : List V} {ds : List D}, Helds Z F σ vs rs → fzs rs = some ds → RpA Z F vs ds
  | [], _, _, .nil, h => by simp only [fzs] at h; cases h; exact .nil
  | r :: rs, _, _, .cons a k, h => by
    cases r <;> simp only [fzs] at h <;> try (cases h; done)
    rw [Option.map_eq_some_iff] at h
    obtain ⟨ds, h1, rfl⟩ := h
    exact .cons a (fzs_rd k h1)
/-- a display -/
theorem tEv_disp {mk : List D → RV} {a : AV} {Q : VK} {R : List V → Hp → Prop}
    (hR : ∀ F H vs ds, Same F H → RpA Z F vs ds → vs.length ≤ sizeLine → (∀ v F' H', Gr F H F' H' → NwOk Z H F' H' v (mk ds) → Q v H') → R vs H) (h : tEv Z W (eDisp mk a) σ H Q) : tAv Z W a σ H R := by
  obtain ⟨N, F, e, S, P⟩ := h
  unfold eDisp at P
  refine ⟨N, F, e, S, ?_⟩
  cases q : a e with
  | no => rw [q] at P; exact P
  | ex z e1 => rw [q] at P; exact P
  | ok rs e1 =>
    rw [q] at P
    dsimp only at P
    intro vs F1 H1 f1 S1 h1
    cases q1 : fzs rs with
    | none => rw [q1] at P; exact P.elim
    | some ds =>
      rw [q1] at P
      dsimp only at P
      split at P
      · rename_i hz
        have r := fzs_rd h1 q1
        exact hR F1 H1 vs ds S1.le r (by rw [sizeLine_eq, r.length]; exact hz) (op_end S1 (PostE.shift P f1))
      · exact P.elim
theorem disp_lst {a : AV} {Q : VK} (h : tEv Z W (eDisp mkLst a) σ H Q) : tLst (tAv Z W a) σ H Q := tEv_disp (fun F H vs ds l r z q => ⟨z, fin_lst l q r⟩) h
theorem disp_tup {a : AV} {Q : VK} (h : tEv Z W (eDisp mkTup a) σ H Q) : tTup (tAv Z W a) σ H Q := tEv_disp (fun F H vs ds l r z q => ⟨z, fin_tup l q r⟩) h

/-! ### one's own object at a slot is changed -/
theorem mine_own {k : D → Bool} {s : Sl} (h : mine k s = true) : s.own = true ∧ ∃ d, s.val = some d ∧ k d = true := by
  cases s <;> simp only [mine] at h <;> first | exact ⟨rfl, _, rfl, h⟩ | cases h
theorem own_at (S : SOk Z N F H σ e) {i : Nat} {s : Sl} {d : D} (h : S3.slot e i = s) (ho : s.own = true) (hd : s.val = some d) : ∃ a, σ[i]? = some (some (.ref a)) ∧ F a = none ∧ Top Z F H a d ∧ e[i]? = some s := by
  have ne : s ≠ .no := fun z => by rw [z] at ho; cases ho
  have g := slot_get h ne
  obtain ⟨o, h1, h2⟩ := S.slot i s g
  cases s <;> simp only [Sl.own] at ho <;> try (cases ho; done)
  all_goals (simp only [Sl.val, Option.some.injEq] at hd; subst hd; obtain ⟨a, rfl, f, _, t⟩ := h2; exact ⟨a, h1, f, t, g⟩)
/-- a change: it reads the kept arguments, and lays another object at a -/
def SoundM (Z : Wd) (r : V → List V → Hp → VK → Prop) (k : D → Bool) (op : D → List D → Option (D × RV)) : Prop :=
  ∀ F H a vs d ds d' rr Q, Same F H → F a = none → Top Z F H a d → RpA Z F vs ds → k d = true → op d ds = some (d', rr) →
    (∀ v F' o, Same F F' → Same F' H → (∀ b u, H b = some u → F b = none → F' b = none) → Top Z F' (upd H a o) a d' → (∃ d, rr = .fz d ∧ Rp Z F' v d) → Q v (upd H a o)) → r (.ref a) vs H Q
theorem tEv_mut {i : Nat} {k : D → Bool} {op : D → List D → Option (D × RV)} {a : AV} {Q : VK} {r : V → List V → Hp → VK → Prop} {ty : V → Hp → Prop} (hs : SoundM Z r k op)
    (hty : ∀ F H p d, Top Z F H p d → k d = true → ty (.ref p) H) (h : tEv Z W (eMut i k op a) σ H Q) : tVar i σ H fun x H1 => ty x H1 ∧ tAv Z W a σ H1 fun vs H2 => r x vs H2 Q := by
  obtain ⟨N, F, e, S, P⟩ := h
  unfold eMut at P
  split at P
  · rename_i hm
    obtain ⟨ho, d0, hd0, hk0⟩ := mine_own hm
    obtain ⟨p, h1, f0, t0, g0⟩ := own_at S rfl ho hd0
    refine ⟨.ref p, h1, hty F H p d0 t0 hk0, N, F, e, S, ?_⟩
    cases q : a e with
    | no => rw [q] at P; exact P
    | ex z e1 => rw [q] at P; exact P
    | ok rs e1 =>
      rw [q] at P
      dsimp only at P
      intro vs F1 H1 f1 S1 hl
      cases q1 : fzs rs with
      | none => rw [q1] at P; exact P.elim
      | some ds =>
        rw [q1] at P
        dsimp only at P
        split at P
        · rename_i hm1
          obtain ⟨ho1, d1, hd1, hk1⟩ := mine_own hm1
          obtain ⟨p1, h2, f2, t2, g2⟩ := own_at S1 rfl ho1 hd1
          rw [h1] at h2
          cases h2
          rw [hd1] at P
          dsimp only at P
          cases q3 : op d1 ds with
          | none => rw [q3] at P; exact P.elim
          | some pr =>
            obtain ⟨d', rr⟩ := pr
            rw [q3] at P
            dsimp only at P
            refine hs F1 H1 p vs d1 ds d' rr Q S1.le f2 t2 (fzs_rd hl q1) hk1 q3 fun v F' o f' l' nf0 t' ⟨d2, er, rv⟩ => ?_
            have nf : ∀ b u, H1 b = some u → NT u → F1 b = none → F' b = none := fun b u hb _ hn => nf0 b u hb hn
            subst er
            have S2 : SOk Z N F' H1 σ e1 := S1.grow f' (Same.refl _) l' nf
            have S3' := S2.write g2 ho1 h1 t'
            exact P v F' _ (f1.trans f') S3' rv
        · exact P.elim
  · exact P.elim
theorem m_append : SoundM Z rAppend isLst mAppend := by
  intro F H a vs d ds d' rr Q l fa t r hk ho q
  cases d <;> simp only [isLst] at hk <;> try (cases hk; done)
  rename_i xs
  obtain ⟨ys, ha, ra⟩ := t
  cases r with
  | nil => simp only [mAppend] at ho; cases ho
  | cons h1 h2 =>
    cases h2 with
    | cons _ _ => simp only [mAppend] at ho; cases ho
    | nil =>
      simp only [mAppend] at ho
      split at ho
      · rename_i hz
        cases ho
        refine ⟨a, ys, _, rfl, rfl, ha, by rw [sizeLine_eq, ra.length]; exact hz, ?_⟩
        exact q .non F _ (Same.refl _) l (fun _ _ _ h => h) ⟨_, upd_same, ra.append (.cons h1 .nil)⟩ ⟨_, rfl, .non⟩
      · cases ho
theorem last_of {α : Type} {xs : List α} {x : α} (h : xs.getLast? = some x) : xs[xs.length - 1]? = some x := by rw [← List.getLast?_eq_getElem?]; exact h
theorem m_pop : SoundM Z rPop isLst mPop := by
  intro F H a vs d ds d' rr Q l fa t r hk ho q
  cases d <;> simp only [isLst] at hk <;> try (cases hk; done)
  rename_i xs
  obtain ⟨ys, ha, ra⟩ := t
  cases r with
  | cons h1 h2 => simp only [mPop] at ho; cases ho
  | nil =>
    simp only [mPop] at ho
    cases q1 : xs.getLast? with
    | none => rw [q1] at ho; cases ho
    | some y =>
      rw [q1] at ho
      cases ho
      have q2 := last_of q1
      obtain ⟨v, h3, h4⟩ := ra.get q2
      rw [← ra.length] at h3
      exact ⟨a, ys, v, rfl, rfl, ha, h3, q v F _ (Same.refl _) l (fun _ _ _ h => h) ⟨_, upd_same, ra.dropLast⟩ ⟨_, rfl, h4⟩⟩
theorem ty_lst {K : PySem.W.Frag} : ∀ F H p d, Top Z F H p d → isLst d = true → tyV K "list" (.ref p) H := by
  intro F H p d t k
  cases d <;> simp only [isLst] at k <;> try (cases k; done)
  obtain ⟨xs, h, _⟩ := t
  exact .inl ⟨rfl, xs, SqL.of h⟩

/-! ### tests -/
theorem tTv_rd {p : D → Option Bool} {f : EV} {Q : Bool → Hp → Prop} {R : VK} (h : tTv Z W (tRd p f) σ H Q) (hR : ∀ F H v d b, Same F H → RdV Z F H v d → p d = some b → Q b H → R v H) : tEv Z W f σ H R := by
  obtain ⟨N, F, e, S, P⟩ := h
  unfold tRd at P
  refine ⟨N, F, e, S, ?_⟩
  cases q : f e with
  | no => rw [q] at P; exact P
  | ex z e1 => rw [q] at P; exact P
  | ok r e1 =>
    rw [q] at P
    dsimp only at P
    intro x F1 H1 f1 S1 R1
    obtain ⟨F2, f2, S2, r2⟩ := RvOk.hold S1 R1
    cases d1 : S3.rd r e1 with
    | none => rw [d1] at P; exact P.elim
    | some d =>
      rw [d1] at P
      dsimp only at P
      cases d2 : p d with
      | none => rw [d2] at P; exact P.elim
      | some b =>
        rw [d2] at P
        exact hR F2 H1 x d b S2.le (r2.rd S2 d1) d2 (P F2 H1 (f1.trans f2) S2)
theorem test_val {f : EV} {Q : Bool → Hp → Prop} (h : tTv Z W (tVal f) σ H Q) : tB (tEv Z W f) σ H Q :=
  tTv_rd h fun F H v d b l r hp q => by
    cases d <;> simp only [asBool] at hp <;> cases hp
    exact ⟨_, r.bl, q⟩
theorem tru_rd {K : PySem.W.Frag} (hK : Z.K = K) {F H : Hp} {v : V} {d : D} {b : Bool} (l : Same F H) (r : RdV Z F H v d) (h : truth d = some b) : TruV K v H b := by
  cases d <;> simp only [truth] at h <;> cases h
  · rw [r.non]; rfl
  · rw [r.bl]; rfl
  · rw [r.int]; rfl
  · rw [r.str.1]
    refine ⟨r.str.2.1, ?_⟩
    rename_i x
    by_cases c : x.length = 0
    · rw [c]; rfl
    · rw [bne_iff_ne.mpr c, bne_iff_ne.mpr (by omega)]
  · obtain ⟨a, xs, rfl, ha, ra⟩ := r.lst l
    refine .inl ⟨xs, SqL.of ha, ?_⟩
    cases ra <;> rfl
  · obtain ⟨a, xs, rfl, ha, ra⟩ := r.tup l
    refine .inr (.inl ⟨xs, SqT.of ha, ?_⟩)
    cases ra <;> rfl
theorem test_tru {K : PySem.W.Frag} (hK : Z.K = K) {f : EV} {Q : Bool → Hp → Prop} (h : tTv Z W (tTru f) σ H Q) : tEv Z W f σ H fun x H1 => ∃ k, TruV K x H1 k ∧ Q k H1 :=
  tTv_rd h fun F H v d b l r hp q => ⟨b, tru_rd hK l r hp, q⟩
/-- a first test, then what the rest asks -/
theorem bindT {f : TV} {g : Bool → TV} {Q R : Bool → Hp → Prop} {h0 : Env → RT} (S : SOk Z N F H σ e) (e0 : h0 e = match f e with | .ok b e1 => g b e1 | .ex x e1 => .ex x e1 | .no => .no) (P : PostT Z N F σ W Q (h0 e))
    (K : ∀ b F1 H1 e1, Same F F1 → SOk Z N F1 H1 σ e1 → PostT Z N F1 σ W Q (g b e1) → R b H1) : tTv Z W f σ H R := by
  rw [e0] at P
  refine ⟨N, F, e, S, ?_⟩
  cases q : f e with
  | no => rw [q] at P; exact P
  | ex z e1 => rw [q] at P; exact P
  | ok b e1 => rw [q] at P; exact fun F1 H1 f1 S1 => K b F1 H1 e1 f1 S1 (PostT.shift (r := g b e1) P f1)
theorem test_and {f g : TV} {Q : Bool → Hp → Prop} (h : tTv Z W (tAndS f g) σ H Q) : tAnd (tTv Z W f) (tTv Z W g) σ H Q := by
  obtain ⟨N, F, e, S, P⟩ := h
  refine bindT (g := fun b => if b then g else fun e => .ok false e) S (by unfold tAndS; cases f e with | ok b e1 => cases b <;> rfl | ex x e1 => rfl | no => rfl) P fun b F1 H1 e1 f1 S1 P1 => ?_
  cases b with
  | true => exact iteT ⟨N, F1, e1, S1, P1⟩
  | false => exact iteF (P1 F1 H1 (Same.refl _) S1)
theorem test_or {f g : TV} {Q : Bool → Hp → Prop} (h : tTv Z W (tOrS f g) σ H Q) : tOr (tTv Z W f) (tTv Z W g) σ H Q := by
  obtain ⟨N, F, e, S, P⟩ := h
  refine bindT (g := fun b => if b then fun e => .ok true e else g) S (by unfold tOrS; cases f e with | ok b e1 => cases b <;> rfl | ex x e1 => rfl | no => rfl) P fun b F1 H1 e1 f1 S1 P1 => ?_
  cases b with
  | true => exact iteT (P1 F1 H1 (Same.refl _) S1)
  | false => exact iteF ⟨N, F1, e1, S1, P1⟩
theorem test_not {f : TV} {Q : Bool → Hp → Prop} (h : tTv Z W (tNotS f) σ H Q) : tNot (tTv Z W f) σ H Q := by
  obtain ⟨N, F, e, S, P⟩ := h
  exact bindT (g := fun b e => .ok (!b) e) S (by unfold tNotS; cases f e with | ok b e1 => rfl | ex x e1 => rfl | no => rfl) P fun b F1 H1 e1 f1 S1 P1 => P1 F1 H1 (Same.refl _) S1
/-- a if c else b -/
theorem ev_if_rd {c : TV} {f g : EV} {Q : VK} (h : tEv Z W (eIf c f g) σ H Q) : tIf (tTv Z W c) (tEv Z W f) (tEv Z W g) σ H Q := by
  obtain ⟨N, F, e, S, P⟩ := h
  unfold eIf at P
  refine ⟨N, F, e, S, ?_⟩
  cases q : c e with
  | no => rw [q] at P; exact P
  | ex z e1 => rw [q] at P; exact P
  | ok b e1 =>
    rw [q] at P
    cases b with
    | true => exact fun F1 H1 f1 S1 => iteT ⟨N, F1, e1, S1, PostE.shift P f1⟩
    | false => exact fun F1 H1 f1 S1 => iteF ⟨N, F1, e1, S1, PostE.shift P f1⟩
/-- x and y, x or y, not x as values -/
theorem and_rd {K : PySem.W.Frag} (hK : Z.K = K) {f g : EV} {Q : VK} (h : tEv Z W (eAnd f g) σ H Q) : tAndT K (tEv Z W f) (tEv Z W g) σ H Q := by
  obtain ⟨N, F, e, S, P⟩ := h
  refine bindL S P fun x F1 H1 e1 r f1 S1 R1 P1 => ?_
  have rr := fun d => RvOk.rd (d := d) S1 R1
  cases d1 : S3.rd r e1 with
  | none => rw [d1] at P1; exact P1.elim
  | some d =>
    rw [d1] at P1
    dsimp only at P1
    cases d2 : truth d with
    | none => rw [d2] at P1; exact P1.elim
    | some b =>
      rw [d2] at P1
      refine ⟨b, tru_rd hK S1.le (rr d d1) d2, ?_⟩
      cases b with
      | true => exact iteT ⟨N, F1, e1, S1, P1⟩
      | false => exact iteF (P1 x F1 H1 (Same.refl _) S1 R1)
theorem or_rd {K : PySem.W.Frag} (hK : Z.K = K) {f g : EV} {Q : VK} (h : tEv Z W (eOr f g) σ H Q) : tOrT K (tEv Z W f) (tEv Z W g) σ H Q := by
  obtain ⟨N, F, e, S, P⟩ := h
  refine bindL S P fun x F1 H1 e1 r f1 S1 R1 P1 => ?_
  have rr := fun d => RvOk.rd (d := d) S1 R1
  cases d1 : S3.rd r e1 with
  | none => rw [d1] at P1; exact P1.elim
  | some d =>
    rw [d1] at P1
    dsimp only at P1
    cases d2 : truth d with
    | none => rw [d2] at P1; exact P1.elim
    | some b =>
      rw [d2] at P1
      refine ⟨b, tru_rd hK S1.le (rr d d1) d2, ?_⟩
      cases b with
      | true => exact iteT (P1 x F1 H1 (Same.refl _) S1 R1)
      | false => exact iteF ⟨N, F1, e1, S1, P1⟩
theorem not_rd {K : PySem.W.Frag} (hK : Z.K = K) {f : EV} {Q : VK} (h : tEv Z W (eNot f) σ H Q) : tNotT K (tEv Z W f) σ H Q :=
  one (r := fun x H1 Q => ∃ k, TruV K x H1 k ∧ Q (.bl (!k)) H1) (fun F H x dx rr Q l hx ho q => by
    rw [Option.map_eq_some_iff] at ho
    obtain ⟨b, h1, rfl⟩ := ho
    exact ⟨b, tru_rd hK l hx h1, fin_bl l q⟩) h
end

section
variable {ca : Str → Option Addr} {W : WX} {X : Cx} {a b c : Expr} {es rest : List Expr} {fa fb fc : EV} {ga : AV} {ta tb : TV} {pos p : Pos}
theorem av_nil : Av ca W X [] aNil := PA_imp pa_nil fun _ _ _ => tAv_nil
theorem av_keep (ha : Ev ca W X a fa) (hr : Av ca W X es ga) (hs : starEach (a :: es) X.env = (false, eval a X.env) :: starEach es X.env := by rfl) : Av ca W X (a :: es) (aKeep fa ga) := PA_imp (pa_cons ha hr hs) fun _ _ _ => tAv_keep
theorem av_cons (ha : Ev ca W X a fa) (hr : Av ca W X es ga) (hs : starEach (a :: es) X.env = (false, eval a X.env) :: starEach es X.env := by rfl) : Av ca W X (a :: es) (aCons fa ga) := PA_imp (pa_cons ha hr hs) fun _ _ _ => tAv_cons
theorem ev_lst (h : Av ca W X es ga) : Ev ca W X (.List es pos) (eDisp mkLst ga) := PE_imp (pe_lst h) fun _ _ _ => disp_lst
theorem ev_tup {k : Nat} (h : Av ca W X es ga) : Ev ca W X (.Tuple es k pos) (eDisp mkTup ga) := PE_imp (pe_tup h) fun _ _ _ => disp_tup
/-- x.append(a), x a slot -/
theorem ev_append {i : Nat} {x : Str} {px apos : Pos} (hx : PE X (.Name x px) (tVar i)) (ha : Av ca W X [a] ga)
    (hbase : attributeBase (.Name x px) "append" X.env (eval (.Name x px) X.env) = eval (.Name x px) X.env := by rfl)
    (hline : (apos.endLine == pos.line) = true := by rfl) (hs : starEach [a] X.env = (false, eval a X.env) :: starEach [] X.env := by rfl) : Ev ca W X (.Call (.Attribute (.Name x px) "append" apos) [a] [] pos) (eMut i isLst mAppend ga) :=
  PE_imp (pe_bm PySem.F.plainAttrs_list PySem.F.slot_list_append PySem.F.type_list_append mt_append hx ha hbase (by rw [hs]; rfl) hline hs (by rfl)) fun _ _ _ => tEv_mut m_append ty_lst
theorem ev_pop {i : Nat} {x : Str} {px apos : Pos} (hx : PE X (.Name x px) (tVar i))
    (hbase : attributeBase (.Name x px) "pop" X.env (eval (.Name x px) X.env) = eval (.Name x px) X.env := by rfl)
    (hline : (apos.endLine == pos.line) = true := by rfl) : Ev ca W X (.Call (.Attribute (.Name x px) "pop" apos) [] [] pos) (eMut i isLst mPop aNil) :=
  PE_imp (pe_bm0 PySem.F.plainAttrs_list PySem.F.slot_list_pop PySem.F.type_list_pop mt_pop hx hbase hline) fun σ H Q h => by
    obtain ⟨v, h1, h2, h3⟩ := tEv_mut m_pop ty_lst h
    exact ⟨v, h1, h2, tAv_nil h3⟩
/-! tests -/
theorem tv_val (h : Ev ca W X a fa) (he : ∀ whole, isTrue a X.env whole = (do let v ← whole; standAt a.pos; holding [v] (truthy v)) := by intro _; rfl) : Tv ca W X a (tVal fa) := PT_imp (pt_val h he) fun _ _ _ => test_val
theorem tv_tru (h : Ev ca W X a fa) (he : ∀ whole, isTrue a X.env whole = (do let v ← whole; standAt a.pos; holding [v] (truthy v)) := by intro _; rfl) : Tv ca W X a (tTru fa) := PT_imp (pt_truth h he) fun _ _ _ => test_tru rfl
theorem tv_cmp {op : CmpOp} {r : V → V → Hp → VK → Prop} {o : D → D → Option RV} (ho : OpR X (compareOp op) r) (hs : Sound2 (zw ca X) r o) (ha : Ev ca W X a fa) (hb : Ev ca W X b fb) (hm : behindInMarks op b = false) : Tv ca W X (.Compare a [op] [b] pos) (tVal (eOp2 o fa fb)) :=
  PT_imp (pt_cmpR ho ha hb hm) fun σ H Q h => two hs (Q := fun x H' => ∃ k, x = .bl k ∧ Q k H') (test_val h)
theorem tv_not (h : Tv ca W X a ta) : Tv ca W X (.UnaryOp .Not a pos) (tNotS ta) := PT_imp (pt_not h) fun _ _ _ => test_not
theorem wv_and1 (h : Tv ca W X a ta) : PW X (.BoolOp .And [a] pos) (tTv (zw ca X) W ta) := pw_and1 h
theorem wv_or1 (h : Tv ca W X a ta) : PW X (.BoolOp .Or [a] pos) (tTv (zw ca X) W ta) := pw_or1 h
theorem wv_and (ha : Tv ca W X a ta) (hb : PW X (.BoolOp .And (b :: rest) pos) (tTv (zw ca X) W tb)) : PW X (.BoolOp .And (a :: b :: rest) pos) (tTv (zw ca X) W (tAndS ta tb)) := PW_imp (pw_and ha hb) fun _ _ _ => test_and
theorem wv_or (ha : Tv ca W X a ta) (hb : PW X (.BoolOp .Or (b :: rest) pos) (tTv (zw ca X) W tb)) : PW X (.BoolOp .Or (a :: b :: rest) pos) (tTv (zw ca X) W (tOrS ta tb)) := PW_imp (pw_or ha hb) fun _ _ _ => test_or
theorem tv_w {e : Expr} (h : PW X e (tTv (zw ca X) W ta)) : Tv ca W X e ta := h.pt
theorem ev_if (hc : Tv ca W X c ta) (ha : Ev ca W X a fa) (hb : Ev ca W X b fb) : Ev ca W X (.IfExp c a b pos) (eIf ta fa fb) := PE_imp (pe_ifExp hc ha hb) fun _ _ _ => ev_if_rd
theorem ev_one {op : BoolOp} (ha : Ev ca W X a fa) : Ev ca W X (.BoolOp op [a] pos) fa := pe_one ha
theorem ev_and (ha : Ev ca W X a fa) (hb : Ev ca W X (.BoolOp .And (b :: rest) pos) fb) : Ev ca W X (.BoolOp .And (a :: b :: rest) pos) (eAnd fa fb) := PE_imp (pe_andT ha hb) fun _ _ _ => and_rd rfl
theorem ev_or (ha : Ev ca W X a fa) (hb : Ev ca W X (.BoolOp .Or (b :: rest) pos) fb) : Ev ca W X (.BoolOp .Or (a :: b :: rest) pos) (eOr fa fb) := PE_imp (pe_orT ha hb) fun _ _ _ => or_rd rfl
theorem ev_not (ha : Ev ca W X a fa) : Ev ca W X (.UnaryOp .Not a pos) (eNot fa) := PE_imp (pe_notT ha) fun _ _ _ => not_rd rfl
end
end S3

/-! B8: statements. -/
namespace S3
open PySem L2
section
variable {Z : Wd} {F F' H H' : Hp} {N : En} {σ : St} {e e' : Env} {v x y : V} {W : WX} {E : Ends}
/-- an expression, then what the rest of the statement asks -/
theorem bindS {f : EV} {k : RV → SV} {R : VK} (S : SOk Z N F H σ e) (P : PostS Z N F W E (sE f k e))
    (K : ∀ x F1 H1 e1 r, Same F F1 → SOk Z N F1 H1 σ e1 → RvOk Z N F1 H1 σ e1 x r → PostS Z N F1 W E (k r e1) → R x H1) : tEv Z W f σ H R := by
  unfold sE at P
  refine ⟨N, F, e, S, ?_⟩
  cases q : f e with
  | no => rw [q] at P; exact P
  | ex z e1 => rw [q] at P; exact fun cls d F1 H1 f1 S1 x => P cls d F1 H1 σ f1 S1 x
  | ok r e1 => rw [q] at P; exact fun x F1 H1 f1 S1 R1 => K x F1 H1 e1 r f1 S1 R1 (PostS.shift (r := k r e1) P f1)
theorem bindSI {f : EV} {k : RV → SV} {R : VK} (S : SOk Z N F H σ e) (P : PostS Z N F W E (sE (eI f) k e))
    (K : ∀ i F1 H1 e1, Same F F1 → SOk Z N F1 H1 σ e1 → PostS Z N F1 W E (k (.fz (.int i)) e1) → R (.int i) H1) : tEv Z W f σ H R := by
  unfold sE eI eBind at P
  refine ⟨N, F, e, S, ?_⟩
  cases q : f e with
  | no => rw [q] at P; exact P
  | ex z e1 => rw [q] at P; exact fun cls d F1 H1 f1 S1 x => P cls d F1 H1 σ f1 S1 x
  | ok r e1 =>
    rw [q] at P
    cases r with
    | fz d =>
      cases d with
      | int i =>
        intro x F1 H1 f1 S1 R1
        have ex : x = .int i := RdV.int (H := H1) (.inl R1)
        subst ex
        exact K i F1 H1 e1 f1 S1 (PostS.shift (r := k (.fz (.int i)) e1) P f1)
      | _ => exact P.elim
    | _ => exact P.elim
theorem bindST {f : TV} {g : Bool → SV} {R : Bool → Hp → Prop} {h0 : RS} (S : SOk Z N F H σ e) (e0 : h0 = match f e with | .ok b e1 => g b e1 | .ex x e1 => .ex x e1 | .no => .no) (P : PostS Z N F W E h0)
    (K : ∀ b F1 H1 e1, Same F F1 → SOk Z N F1 H1 σ e1 → PostS Z N F1 W E (g b e1) → R b H1) : tTv Z W f σ H R := by
  rw [e0] at P
  refine ⟨N, F, e, S, ?_⟩
  cases q : f e with
  | no => rw [q] at P; exact P
  | ex z e1 => rw [q] at P; exact fun cls d F1 H1 f1 S1 x => P cls d F1 H1 σ f1 S1 x
  | ok b e1 => rw [q] at P; exact fun F1 H1 f1 S1 => K b F1 H1 e1 f1 S1 (PostS.shift (r := g b e1) P f1)

theorem st_nx (h : tSv Z W sNx E σ H) : tNext E σ H := by
  obtain ⟨N, F, e, S, P⟩ := h
  exact P F H σ (Same.refl _) S
theorem st_seq {f g : SV} (h : tSv Z W (sSeq f g) E σ H) : tSeq (tSv Z W f) (tSv Z W g) E σ H := by
  obtain ⟨N, F, e, S, P⟩ := h
  unfold sSeq sBind at P
  refine ⟨N, F, e, S, ?_⟩
  cases q : f e with
  | no => rw [q] at P; exact P
  | nx e1 => rw [q] at P; exact fun F1 H1 σ1 f1 S1 => ⟨N, F1, e1, S1, PostS.shift P f1⟩
  | rt r e1 => rw [q] at P; exact P
  | bk e1 => rw [q] at P; exact P
  | ct e1 => rw [q] at P; exact P
  | ex x e1 => rw [q] at P; exact P
theorem st_bk (h : tSv Z W sBk E σ H) : tBreak E σ H := by
  obtain ⟨N, F, e, S, P⟩ := h
  exact P F H σ (Same.refl _) S
theorem st_ct (h : tSv Z W sCt E σ H) : tCont E σ H := by
  obtain ⟨N, F, e, S, P⟩ := h
  exact P F H σ (Same.refl _) S
theorem st_expr {f : EV} (h : tSv Z W (sExpr f) E σ H) : tDrop (tEv Z W f) E σ H := by
  obtain ⟨N, F, e, S, P⟩ := h
  exact bindS S P fun x F1 H1 e1 r f1 S1 R1 P1 => P1 F1 H1 σ (Same.refl _) S1
theorem st_ret {f : EV} (h : tSv Z W (sRet f) E σ H) : tRet (tEv Z W f) E σ H := by
  obtain ⟨N, F, e, S, P⟩ := h
  refine bindS S P fun x F1 H1 e1 r f1 S1 R1 P1 => ?_
  cases r with
  | fz d => exact P1 x F1 H1 σ (Same.refl _) S1 R1
  | nw d => exact P1 x F1 H1 σ (Same.refl _) S1 R1
  | «at» i =>
    obtain ⟨h1, s, h2, h3⟩ := R1
    have q : S3.slot e1 i = s := slot_of h2
    unfold ret at P1
    dsimp only at P1
    rw [q] at P1
    obtain ⟨o, g1, g2⟩ := S1.slot i s h2
    rw [h1] at g1
    cases g1
    cases s with
    | fz d =>
      obtain ⟨w, e1, r⟩ := g2
      cases e1
      exact P1 x F1 H1 σ (Same.refl _) S1 r
    | ow d =>
      obtain ⟨a, e1, fa, na, t⟩ := g2
      cases e1
      refine P1 _ F1 H1 σ (Same.refl _) (S1.forget i) ⟨a, rfl, fa, na, t, fun j s' hj l => ?_⟩
      rcases get_set hj with ⟨_, rfl, _⟩ | ⟨ne, hj'⟩
      · exact l
      · exact S1.sep i j _ s' a h2 hj' ne rfl (by rw [h1]; rfl) l
    | _ => exact P1.elim
theorem st_retN (h : tSv Z W sRetN E σ H) : tRetN E σ H := by
  obtain ⟨N, F, e, S, P⟩ := h
  exact P .non F H σ (Same.refl _) S .non
theorem st_if {c : TV} {f g : SV} (h : tSv Z W (sIf c f g) E σ H) : tIfS (tTv Z W c) (tSv Z W f) (tSv Z W g) E σ H := by
  obtain ⟨N, F, e, S, P⟩ := h
  refine bindST (g := fun b => if b then f else g) S (by unfold sIf; cases c e with | ok b e1 => cases b <;> rfl | ex x e1 => rfl | no => rfl) P fun b F1 H1 e1 f1 S1 P1 => ?_
  cases b with
  | true => exact iteT ⟨N, F1, e1, S1, P1⟩
  | false => exact iteF ⟨N, F1, e1, S1, P1⟩
/-- a value is given to a slot -/
theorem set_ok {i : Nat} {r : RV} (S : SOk Z N F H σ e) (R : RvOk Z N F H σ e v r) (h : setS i r e = some e') : ∃ F', Same F F' ∧ SOk Z N F' H (σ.set i (some v)) e' := by
  cases r with
  | fz d => cases h; exact ⟨F, Same.refl _, S.set R⟩
  | nw d =>
    cases h
    obtain ⟨a, rfl, fa, na, t, ap⟩ := R
    exact ⟨F, Same.refl _, S.setOw fa na t ap⟩
  | «at» j =>
    simp only [setS, Option.map_eq_some_iff] at h
    obtain ⟨⟨d, e1⟩, h1, rfl⟩ := h
    obtain ⟨F', f, S', r⟩ := RvOk.stl S R h1
    exact ⟨F', f, S'.set r⟩
theorem st_set {i : Nat} {f : EV} (h : tSv Z W (sSet i f) E σ H) : tAsg (tEv Z W f) (gName i) E σ H := by
  obtain ⟨N, F, e, S, P⟩ := h
  refine bindS S P fun x F1 H1 e1 r f1 S1 R1 P1 => ?_
  cases q : setS i r e1 with
  | none => rw [q] at P1; exact P1.elim
  | some e2 =>
    rw [q] at P1
    obtain ⟨F2, f2, S2⟩ := set_ok S1 R1 q
    exact P1 F2 H1 _ f2 S2
/-! targets -/
def tgIx : Tg → List Nat
  | .one i => [i]
  | .tup is => is
/-- the slots but those at is are as they were -/
def Off (is : List Nat) (σ σ' : St) : Prop := σ'.length = σ.length ∧ ∀ j, j ∉ is → σ'[j]? = σ[j]?
theorem Off.set (i : Nat) (is : List Nat) (σ σ' : St) (o : Option V) (h : Off is (σ.set i o) σ') : Off (i :: is) σ σ' := by
  refine ⟨by rw [h.1, List.length_set], fun j hj => ?_⟩
  rw [List.mem_cons, not_or] at hj
  rw [h.2 j hj.2, List.getElem?_set_ne (Ne.symm hj.1)]
def TgOk (Z : Wd) (g : TG) (t : Tg) : Prop := ∀ (N : En) (F H : Hp) (σ : St) (e : Env) (v : V) (d : D) (e1 : Env) (Q : St → Hp → Prop), SOk Z N F H σ e → Rp Z F v d → tgt t d e = some e1 → (∀ σ', SOk Z N F H σ' e1 → Off (tgIx t) σ σ' → Q σ' H) → g v σ H Q
theorem tg_one {i : Nat} : TgOk Z (gName i) (.one i) := fun N F H σ e v d e1 Q S r h q => by
  cases h
  exact q _ (S.set r) (Off.set i [] _ _ _ ⟨rfl, fun _ _ => rfl⟩)
def TgsOk (Z : Wd) (g : TGs) (is : List Nat) : Prop := ∀ (N : En) (F H : Hp) (σ : St) (e : Env) (vs : List V) (ds : List D) (e1 : Env) (Q : St → Hp → Prop), SOk Z N F H σ e → RpA Z F vs ds → setAll is ds e = some e1 → (∀ σ', SOk Z N F H σ' e1 → Off is σ σ' → Q σ' H) → g vs σ H Q
theorem tgs_nil : TgsOk Z gNil [] := fun N F H σ e vs ds e1 Q S r h q => by
  cases r with
  | nil => cases h; exact ⟨rfl, q _ S ⟨rfl, fun _ _ => rfl⟩⟩
  | cons _ _ => cases h
theorem tgs_cons {i : Nat} {is : List Nat} {g : TGs} (k : TgsOk Z g is) : TgsOk Z (gCons (gName i) g) (i :: is) := fun N F H σ e vs ds e1 Q S r h q => by
  cases r with
  | nil => cases h
  | cons r1 r2 => exact ⟨_, _, rfl, k N F H _ _ _ _ e1 Q (S.set r1) r2 h fun σ' S' o => q σ' S' (Off.set i is _ _ _ o)⟩
theorem setAll_len : ∀ {is : List Nat} {ds : List D} {e e1 : Env}, setAll is ds e = some e1 → is.length = ds.length
  | [], [], _, _, _ => rfl
  | [], _ :: _, _, _, h => by cases h
  | _ :: _, [], _, _, h => by cases h
  | _ :: is, _ :: ds, _, _, h => congrArg Nat.succ (setAll_len (is := is) (ds := ds) h)
theorem tg_tup {is : List Nat} {g : TGs} {n : Nat} (k : TgsOk Z g is) (hn : n = is.length) {K : PySem.W.Frag} (hK : Z.K = K) : TgOk Z (gTup K n g) (.tup is) := fun N F H σ e v d e1 Q S r h q => by
  cases d <;> simp only [tgt] at h <;> try (cases h; done)
  obtain ⟨a, xs, rfl, ha, ra⟩ := RdV.tup (H := H) S.le (.inl r)
  exact ⟨a, xs, rfl, SqT.of ha, by rw [ra.length, ← setAll_len h, hn], k N F H σ e xs _ e1 Q S ra h q⟩
theorem st_unp {is : List Nat} {f : EV} {g : TG} (k : TgOk Z g (.tup is)) (h : tSv Z W (sUnp is f) E σ H) : tAsg (tEv Z W f) g E σ H := by
  obtain ⟨N, F, e, S, P⟩ := h
  refine bindS S P fun x F1 H1 e1 r f1 S1 R1 P1 => ?_
  cases q : stl r e1 with
  | none => rw [q] at P1; exact P1.elim
  | some pr =>
    obtain ⟨d, e2⟩ := pr
    rw [q] at P1
    cases d <;> try exact P1.elim
    rename_i ds
    dsimp only at P1
    cases q2 : setAll is ds e2 with
    | none => rw [q2] at P1; exact P1.elim
    | some e3 =>
      rw [q2] at P1
      obtain ⟨F2, f2, S2, r2⟩ := RvOk.stl S1 R1 q
      exact k N F2 H1 σ e2 x (.tup ds) e3 _ S2 r2 q2 fun σ' S3 _ => P1 F2 H1 σ' f2 S3

/-! ### loops -/
/-- the walker J gives the items ds, from F on -/
def WalkOk (Z : Wd) (N : En) (F : Hp) (J : It) (ds : List D) : Prop := ∀ F' H' σ e, SOk Z N F' H' σ e → Same F F' → ∀ i,
  (∀ d, ds[i]? = some d → J.go i H' ∧ ∀ x H2, J.yld i H' x H2 → ∃ F2, Gr F' H' F2 H2 ∧ Rp Z F2 x d) ∧ (ds.length ≤ i → J.stop i H')
theorem for_sound {J : It} {ds : List D} {tmp : List Nat} {t : Tg} {g : TG} {b : SV} (wk : WalkOk Z N F J ds) (tk : TgOk Z g t) (S : SOk Z N F H σ e) (P : PostS Z N F W E (forL tmp t b ds e)) :
    ∃ Wm : Nat → Nat → St → Hp → Prop, (∃ m, Wm 0 m σ H) ∧ ∀ i m σ H, Wm i m σ H →
      (J.stop i H ∧ E.nx σ H) ∨ (J.go i H ∧ ∃ Nx : St → Hp → Prop, (∀ σ' H', Nx σ' H' → ∃ m', m' < m ∧ Wm (i + 1) m' σ' H') ∧ ∀ x H', J.yld i H x H' → g x σ H' fun σ2 H2 => tSv Z W b { E with nx := Nx, ct := Nx, bk := E.nx } σ2 H2) := by
  refine ⟨fun i m σ H => m = ds.length - i ∧ i ≤ ds.length ∧ ∃ F' e', Same F F' ∧ SOk Z N F' H σ e' ∧ PostS Z N F' W E (forL tmp t b (ds.drop i) e'), ⟨ds.length, rfl, Nat.zero_le _, F, e, Same.refl _, S, P⟩, ?_⟩
  rintro i m σ H ⟨rfl, hi, F1, e1, f1, S1, P1⟩
  obtain ⟨w1, w2⟩ := wk F1 H σ e1 S1 f1 i
  by_cases hlt : i < ds.length
  · have ed : ds.drop i = ds[i] :: ds.drop (i + 1) := List.drop_eq_getElem_cons hlt
    have ei : ds[i]? = some ds[i] := List.getElem?_eq_getElem hlt
    rw [ed] at P1
    generalize ds[i] = d at P1 ei
    obtain ⟨go, yl⟩ := w1 d ei
    unfold forL at P1
    cases q : tgt t d e1 with
    | none => rw [q] at P1; exact P1.elim
    | some e2 =>
      rw [q] at P1
      dsimp only at P1
      refine .inr ⟨go, fun σ' H' => ∃ F' e', Same F F' ∧ SOk Z N F' H' σ' e' ∧ PostS Z N F' W E (forL tmp t b (ds.drop (i + 1)) e'), fun σ' H' ⟨F', e', f', S', P'⟩ => ⟨ds.length - (i + 1), by omega, rfl, hlt, F', e', f', S', P'⟩, fun x H2 hy => ?_⟩
      obtain ⟨F2, g2, r2⟩ := yl x H2 hy
      refine tk N F2 H2 σ e1 x d e2 _ (S1.gr g2) r2 q fun σ' S2 _ => ⟨N, F2, e2, S2, ?_⟩
      cases q2 : b e2 with
      | no => rw [q2] at P1; exact P1
      | nx e3 => rw [q2] at P1; exact fun F3 H3 σ3 f3 S3 => ⟨F3, _, (f1.trans g2.f).trans f3, S3.wipe tmp, PostS.shift P1 (g2.f.trans f3)⟩
      | ct e3 => rw [q2] at P1; exact fun F3 H3 σ3 f3 S3 => ⟨F3, _, (f1.trans g2.f).trans f3, S3.wipe tmp, PostS.shift P1 (g2.f.trans f3)⟩
      | bk e3 => rw [q2] at P1; exact fun F3 H3 σ3 f3 S3 => P1 F3 H3 σ3 (g2.f.trans f3) (S3.wipe tmp)
      | rt r e3 => rw [q2] at P1; exact fun v F3 H3 σ3 f3 => P1 v F3 H3 σ3 (g2.f.trans f3)
      | ex x e3 => rw [q2] at P1; exact fun c d' F3 H3 σ3 f3 => P1 c d' F3 H3 σ3 (g2.f.trans f3)
  · have e0 : ds.drop i = [] := List.drop_eq_nil_of_le (Nat.le_of_not_lt hlt)
    rw [e0] at P1
    exact .inl ⟨w2 (Nat.le_of_not_lt hlt), P1 F1 H σ (Same.refl _) S1⟩
/-- what is walked, settled -/
theorem walk_ok {r : RV} {d : D} (S : SOk Z N F H σ e) (R : RvOk Z N F H σ e v r) (h : walk r e = some (d, e')) :
    ∃ F', Same F F' ∧ SOk Z N F' H σ e' ∧ (Rp Z F' v d ∨ ∃ a, v = .ref a ∧ (∃ u, N.H a = some u) ∧ a ∉ N.M ∧ Top Z F' H a d) := by
  cases r with
  | fz x => cases h; exact ⟨F, Same.refl _, S, .inl R⟩
  | nw x =>
    cases h
    obtain ⟨F', f, S', r⟩ := RvOk.stl (e' := e) S R rfl
    exact ⟨F', f, S', .inl r⟩
  | «at» i =>
    have R' := R
    obtain ⟨h1, s, h2, h3⟩ := R
    have q : S3.slot e i = s := slot_of h2
    unfold walk at h
    dsimp only at h
    rw [q] at h
    cases s with
    | fz x =>
      cases h
      obtain ⟨F', f, S', r⟩ := RvOk.stl (e' := e) (d := d) S R' (by unfold S3.stl; dsimp only; rw [q])
      exact ⟨F', f, S', .inl r⟩
    | ow x =>
      cases h
      obtain ⟨F', f, S', r⟩ := RvOk.stl (e' := e.set i (.fz d)) (d := d) S R' (by unfold S3.stl; dsimp only; rw [q])
      exact ⟨F', f, S', .inl r⟩
    | bo x =>
      cases h
      obtain ⟨o, g1, w, rfl, g2⟩ := S.slot i _ h2
      rw [h1] at g1
      cases g1
      refine ⟨F, Same.refl _, S, ?_⟩
      rcases g2 with g2 | ⟨a, rfl, _, u, m, t⟩
      · exact .inl g2
      · exact .inr ⟨a, rfl, u, m, t⟩
    | no => cases h
    | mu x => cases h
theorem walk_lst {K : PySem.W.Frag} (hK : Z.K = K) {ds : List D} (S : SOk Z N F H σ e) (h : Rp Z F v (.lst ds) ∨ ∃ a, v = .ref a ∧ (∃ u, N.H a = some u) ∧ a ∉ N.M ∧ Top Z F H a (.lst ds)) :
    ∃ a, v = .ref a ∧ (∃ xs, SqL K H a xs) ∧ WalkOk Z N F (Itl K a) ds := by
  obtain ⟨a, xs, rfl, ha, ra, st⟩ : ∃ a xs, v = .ref a ∧ H a = some (.lst xs) ∧ RpA Z F xs ds ∧ ∀ F' H' σ e, SOk Z N F' H' σ e → Same F F' → H' a = some (.lst xs) := by
    rcases h with h | ⟨a, rfl, ⟨u, hu⟩, m, xs, ha, ra⟩
    · cases h with
      | lst k r => exact ⟨_, _, rfl, S.le _ _ k, r, fun F' H' σ e S' f => S'.le _ _ (f _ _ k)⟩
    · have e1 := S.h0 a u hu m
      rw [ha] at e1
      cases e1
      exact ⟨a, xs, rfl, ha, ra, fun F' H' σ e S' f => S'.h0 a _ hu m⟩
  refine ⟨a, rfl, ⟨xs, SqL.of ha⟩, fun F' H' σ' e' S' f i => ⟨fun d hd => ?_, fun hl => ⟨xs, SqL.of (st _ _ _ _ S' f), by rw [ra.length]; exact hl⟩⟩⟩
  have hx := st _ _ _ _ S' f
  obtain ⟨w, hw, rw'⟩ := ra.get hd
  refine ⟨⟨xs, w, SqL.of hx, hw⟩, fun x H2 ⟨e2, y⟩ => ?_⟩
  subst e2
  have := y xs (SqL.of hx)
  rw [hw] at this
  cases this
  exact ⟨F', Gr.refl S'.le, rw'.mono f⟩
theorem walk_tup {K : PySem.W.Frag} (hK : Z.K = K) {ds : List D} (S : SOk Z N F H σ e) (h : Rp Z F v (.tup ds)) : ∃ a, v = .ref a ∧ (∃ xs, SqT K H a xs) ∧ WalkOk Z N F (Itt K a) ds := by
  cases h with
  | @tup a xs _ k ra =>
    refine ⟨a, rfl, ⟨xs, SqT.of (S.le _ _ k)⟩, fun F' H' σ' e' S' f i => ⟨fun d hd => ?_, fun hl => ⟨xs, SqT.of (S'.le _ _ (f _ _ k)), by rw [ra.length]; exact hl⟩⟩⟩
    have hx := S'.le _ _ (f _ _ k)
    obtain ⟨w, hw, rw'⟩ := ra.get hd
    refine ⟨⟨xs, w, SqT.of hx, hw⟩, fun x H2 ⟨e2, y⟩ => ?_⟩
    subst e2
    have := y xs (SqT.of hx)
    rw [hw] at this
    cases this
    exact ⟨F', Gr.refl S'.le, rw'.mono f⟩
theorem walk_scr {K : PySem.W.Frag} (hK : Z.K = K) {ds : List D} (S : SOk Z N F H σ e) (h : Rp Z F v (.scr ds)) : ∃ a, v = .ref a ∧ (∃ xs, SqL K H a xs) ∧ WalkOk Z N F (Itl K a) ds := by
  subst hK
  cases h with
  | @scr a xs _ k ra =>
    refine ⟨a, rfl, ⟨xs, Same.seq S.le k⟩, fun F' H' σ' e' S' f i => ⟨fun d hd => ?_, fun hl => ⟨xs, Same.seq S'.le (Same.seq f k), by rw [ra.length]; exact hl⟩⟩⟩
    have hx := Same.seq S'.le (Same.seq f k)
    obtain ⟨w, hw, rw'⟩ := ra.get hd
    refine ⟨⟨xs, w, hx, hw⟩, fun x H2 ⟨e2, y⟩ => ?_⟩
    subst e2
    have := y xs hx
    rw [hw] at this
    cases this
    exact ⟨F', Gr.refl S'.le, rw'.mono f⟩
theorem walk_str {x : Str} (hx : sOk x = true) : WalkOk Z N F (Its x) (x.cps.toList.map fun c => .str ⟨#[c]⟩) := fun F' H' σ' e' S' f i => by
  refine ⟨fun d hd => ?_, fun hl => ?_⟩
  · rw [List.getElem?_map, Option.map_eq_some_iff] at hd
    obtain ⟨c, hc, rfl⟩ := hd
    have hc' : x.cps[i]? = some c := by rw [← hc, Array.getElem?_toList]
    refine ⟨(Array.getElem?_eq_some_iff.mp hc').1, fun v H2 ⟨e2, c2, hc2, ev⟩ => ?_⟩
    subst e2 ev
    rw [hc'] at hc2
    cases hc2
    refine ⟨F', Gr.refl S'.le, .str _ (sOk_of (by show 1 ≤ LIM; decide) ?_)⟩
    have h3 := Array.all_eq_true_iff_forall_mem.mp (sOk_cps hx) c (Array.mem_of_getElem? hc')
    simpa using h3
  · rw [List.length_map, Array.length_toList] at hl
    exact hl
def PostW (Z : Wd) (N : En) (F : Hp) (σ : St) (W : WX) (R : It → Hp → Prop) : RW → Prop
  | .no => False
  | .ok xs e => ∀ J F' H', Same F F' → SOk Z N F' H' σ e → WalkOk Z N F' J xs → R J H'
  | .ex x e => ∀ cls d F' H', Same F F' → SOk Z N F' H' σ e → ExOk Z F' H' x cls d → W cls d σ H'
def tWv (Z : Wd) (W : WX) (w : WV) : TI := fun σ H R => ∃ N F e, SOk Z N F H σ e ∧ PostW Z N F σ W R (w e)
theorem PostW.shift {R : It → Hp → Prop} {r : RW} (h : PostW Z N F σ W R r) (s : Same F F') : PostW Z N F' σ W R r := by
  cases r with
  | no => exact h
  | ok r e => exact fun J F2 H2 s2 => h J F2 H2 (s.trans s2)
  | ex x e => exact fun c d F2 H2 s2 => h c d F2 H2 (s.trans s2)
/-- what a for, a comprehension may walk -/
def iAny (K : PySem.W.Frag) (te : TE) : TI := fun σ H R => iList K te σ H R ∨ iTup K te σ H R ∨ iStr te σ H R
theorem PI_or {X : Cx} {tg iter : Expr} {w1 w2 : TI} (h1 : PI X tg iter w1) (h2 : PI X tg iter w2) : PI X tg iter (fun σ H R => w1 σ H R ∨ w2 σ H R) := ⟨fun p s σ H R I q => by
  rcases q with q | q
  · exact h1.run p s σ H R I q
  · exact h2.run p s σ H R I q⟩
theorem PI_imp {X : Cx} {tg iter : Expr} {w1 w2 : TI} (h1 : PI X tg iter w1) (i : ∀ σ H R, w2 σ H R → w1 σ H R) : PI X tg iter w2 := ⟨fun p s σ H R I q => h1.run p s σ H R I (i σ H R q)⟩
theorem pi_any {X : Cx} {tg iter : Expr} {te : TE} (h : PE X iter te) : PI X tg iter (iAny X.K te) := PI_or (pi_list h) (PI_or (pi_tup h) (pi_str h))
theorem wv_any_rd {K : PySem.W.Frag} (hK : Z.K = K) {f : EV} {R : It → Hp → Prop} (h : tWv Z W (wAny f) σ H R) : iAny K (tEv Z W f) σ H R := by
  obtain ⟨N, F, e, S, P⟩ := h
  unfold wAny wE at P
  cases q : f e with
  | no => rw [q] at P; exact P.elim
  | ex z e1 =>
    rw [q] at P
    refine .inl ⟨N, F, e, S, ?_⟩
    rw [q]
    exact fun cls d F1 H1 f1 S1 x => P cls d F1 H1 f1 S1 x
  | ok r e0 =>
    rw [q] at P
    dsimp only at P
    cases q1 : walk r e0 with
    | none => rw [q1] at P; exact P.elim
    | some pr =>
      obtain ⟨d, e1⟩ := pr
      rw [q1] at P
      dsimp only at P
      cases q2 : items d with
      | none => rw [q2] at P; exact P.elim
      | some xs =>
        rw [q2] at P
        dsimp only at P
        have h : ∀ J F2 H2, Same F F2 → SOk Z N F2 H2 σ e1 → WalkOk Z N F2 J xs → R J H2 := P
        cases d <;> simp only [items] at q2 <;> cases q2
        · refine .inr (.inr ⟨N, F, e, S, ?_⟩)
          rw [q]
          intro v F1 H1 f1 S1 R1
          obtain ⟨F2, f2, S2, h2⟩ := walk_ok S1 R1 q1
          rcases h2 with h2 | ⟨_, _, _, _, t⟩
          · have hs := RdV.str (H := H1) (.inl h2)
            exact ⟨_, hs.1, h _ F2 H1 (f1.trans f2) S2 (walk_str hs.2.2)⟩
          · exact t.elim
        · refine .inl ⟨N, F, e, S, ?_⟩
          rw [q]
          intro v F1 H1 f1 S1 R1
          obtain ⟨F2, f2, S2, h2⟩ := walk_ok S1 R1 q1
          obtain ⟨a, e1, h3, w⟩ := walk_lst hK S2 h2
          exact ⟨a, e1, h3, h _ F2 H1 (f1.trans f2) S2 w⟩
        · refine .inr (.inl ⟨N, F, e, S, ?_⟩)
          rw [q]
          intro v F1 H1 f1 S1 R1
          obtain ⟨F2, f2, S2, h2⟩ := walk_ok S1 R1 q1
          rcases h2 with h2 | ⟨_, _, _, _, t⟩
          · obtain ⟨a, e1, h3, w⟩ := walk_tup hK S2 h2
            exact ⟨a, e1, h3, h _ F2 H1 (f1.trans f2) S2 w⟩
          · exact t.elim
        · refine .inl ⟨N, F, e, S, ?_⟩
          rw [q]
          intro v F1 H1 f1 S1 R1
          obtain ⟨F2, f2, S2, h2⟩ := walk_ok S1 R1 q1
          rcases h2 with h2 | ⟨_, _, _, _, t⟩
          · obtain ⟨a, e1, h3, w⟩ := walk_scr hK S2 h2
            exact ⟨a, e1, h3, h _ F2 H1 (f1.trans f2) S2 w⟩
          · exact t.elim
/-- an int, then what the walk asks -/
theorem bindWI {f : EV} {k : RV → WV} {R : It → Hp → Prop} {R' : VK} (S : SOk Z N F H σ e) (P : PostW Z N F σ W R (wE (eI f) k e))
    (K : ∀ i F1 H1 e1, Same F F1 → SOk Z N F1 H1 σ e1 → PostW Z N F1 σ W R (k (.fz (.int i)) e1) → R' (.int i) H1) : tEv Z W f σ H R' := by
  unfold wE eI eBind at P
  refine ⟨N, F, e, S, ?_⟩
  cases q : f e with
  | no => rw [q] at P; exact P
  | ex z e1 => rw [q] at P; exact P
  | ok r e1 =>
    rw [q] at P
    cases r with
    | fz d =>
      cases d with
      | int i =>
        intro x F1 H1 f1 S1 R1
        have ex : x = .int i := RdV.int (H := H1) (.inl R1)
        subst ex
        exact K i F1 H1 e1 f1 S1 (PostW.shift (r := k (.fz (.int i)) e1) P f1)
      | _ => exact P.elim
    | _ => exact P.elim
theorem walk_rng {lo : Int} {n : Nat} : WalkOk Z N F (Itr lo n) ((List.range n).map fun i => .int (lo + (i : Nat))) := fun F' H' σ' e' S' f i => by
  refine ⟨fun d hd => ?_, fun hl => ?_⟩
  · rw [List.getElem?_map, Option.map_eq_some_iff] at hd
    obtain ⟨j, hj, rfl⟩ := hd
    obtain ⟨h1, h2⟩ := List.getElem?_eq_some_iff.mp hj
    rw [List.getElem_range] at h2
    subst h2
    rw [List.length_range] at h1
    refine ⟨h1, fun v H2 ⟨e2, ev⟩ => ?_⟩
    subst e2 ev
    exact ⟨F', Gr.refl S'.le, .int _⟩
  · rw [List.length_map, List.length_range] at hl
    exact hl
theorem wv_r1_rd {g : EV} {R : It → Hp → Prop} (h : tWv Z W (wR1 g) σ H R) : iRng1 (tCons (tEv Z W g) tNil) σ H R := by
  obtain ⟨N, F, e, S, P⟩ := h
  refine bindWI S P fun y F1 H1 e1 f1 S1 P1 => ?_
  dsimp only at P1
  split at P1
  · rename_i hb
    refine ⟨y, rfl, hb.1, hb.2, P1 _ F1 H1 (Same.refl _) S1 ?_⟩
    have e0 : rng 0 y = (List.range y.toNat).map fun i => D.int (0 + (i : Nat)) := by unfold rng; rw [Int.sub_zero]
    rw [e0]
    exact walk_rng
  · exact P1.elim
theorem wv_r2_rd {f g : EV} {R : It → Hp → Prop} (h : tWv Z W (wR2 f g) σ H R) : iRng2 (tCons (tEv Z W f) (tCons (tEv Z W g) tNil)) σ H R := by
  obtain ⟨N, F, e, S, P⟩ := h
  refine bindWI S P fun x F1 H1 e1 f1 S1 P1 => ?_
  refine bindWI S1 P1 fun y F2 H2 e2 f2 S2 P2 => ?_
  dsimp only at P2
  split at P2
  · rename_i hb
    exact ⟨x, y, rfl, hb, P2 _ F2 H2 (Same.refl _) S2 walk_rng⟩
  · exact P2.elim
theorem for_post {tmp : List Nat} {t : Tg} {g : TG} {w : WV} {b : SV} (tk : TgOk Z g t) (S : SOk Z N F H σ e) (P : PostS Z N F W E (sFor tmp t w b e)) : tFor (fun _ _ R => PostW Z N F σ W R (w e)) g (tSv Z W b) E σ H := by
  unfold sFor at P
  show PostW Z N F σ W _ (w e)
  cases q : w e with
  | no => rw [q] at P; exact P
  | ex z e1 => rw [q] at P; exact fun cls d F1 H1 f1 S1 x => P cls d F1 H1 σ f1 S1 x
  | ok xs e1 => rw [q] at P; exact fun J F2 H2 f2 S2 wk => for_sound wk tk S2 (PostS.shift P f2)
theorem st_for {tmp : List Nat} {t : Tg} {g : TG} {w : WV} {b : SV} (tk : TgOk Z g t) (h : tSv Z W (sFor tmp t w b) E σ H) : tFor (tWv Z W w) g (tSv Z W b) E σ H :=
  let ⟨N, F, e, S, P⟩ := h
  ⟨N, F, e, S, for_post tk S P⟩
def whG (tmp : List Nat) (c : TV) (b : SV) (m : Nat) (k : Bool) : SV := if k = true then fun e1 => (match b e1 with
      | .nx e2 => whL tmp c b m (wipeE e2 tmp)
      | .ct e2 => whL tmp c b m (wipeE e2 tmp)
      | .bk e2 => .nx (wipeE e2 tmp)
      | .rt r e2 => .rt r e2
      | .ex x e2 => .ex x e2
      | .no => .no) else fun e1 => .nx e1
theorem whL_succ (tmp : List Nat) (c : TV) (b : SV) (m : Nat) (e : Env) : whL tmp c b (m + 1) e = match c e with | .ok k e1 => whG tmp c b m k e1 | .ex x e1 => .ex x e1 | .no => .no := by
  rw [whL]
  unfold whG
  cases c e with
  | ok k e1 => cases k <;> rfl
  | ex x e1 => rfl
  | no => rfl
theorem st_while {tmp : List Nat} {n : Nat} {c : TV} {b : SV} (h : tSv Z W (whL tmp c b n) E σ H) : tWhile (tTv Z W c) (tSv Z W b) E σ H := by
  obtain ⟨N, F, e, S, P⟩ := h
  refine ⟨fun m σ H => ∃ F' e', SOk Z N F' H σ e' ∧ PostS Z N F' W E (whL tmp c b m e'), ⟨n, F, e, S, P⟩, ?_⟩
  rintro m σ H ⟨F1, e1, S1, P1⟩
  cases m with
  | zero => exact P1.elim
  | succ m =>
    refine bindST (g := whG tmp c b m) S1 (whL_succ tmp c b m e1) P1 fun k F2 H2 e2 f2 S2 P2 => ?_
    cases k with
    | false => exact iteF (P2 F2 H2 σ (Same.refl _) S2)
    | true =>
      refine iteT ⟨fun σ' H' => ∃ F' e', SOk Z N F' H' σ' e' ∧ PostS Z N F' W E (whL tmp c b m e'), fun σ' H' h => ⟨m, Nat.lt_succ_self m, h⟩, N, F2, e2, S2, ?_⟩
      unfold whG at P2
      rw [if_pos rfl] at P2
      cases q2 : b e2 with
      | no => rw [q2] at P2; exact P2
      | nx e3 => rw [q2] at P2; exact fun F3 H3 σ3 f3 S3 => ⟨F3, _, S3.wipe tmp, PostS.shift P2 f3⟩
      | ct e3 => rw [q2] at P2; exact fun F3 H3 σ3 f3 S3 => ⟨F3, _, S3.wipe tmp, PostS.shift P2 f3⟩
      | bk e3 => rw [q2] at P2; exact fun F3 H3 σ3 f3 S3 => P2 F3 H3 σ3 f3 (S3.wipe tmp)
      | rt r e3 => rw [q2] at P2; exact P2
      | ex x e3 => rw [q2] at P2; exact P2
end

section
variable {ca : Str → Option Addr} {W : WX} {X : Cx} {a b c : Expr} {st : Stmt} {rest s1 s2 : List Stmt} {fa fb : EV} {t : TV} {f g : SV} {pos p p2 : Pos}
theorem bv_nil : Bv ca W X [] sNx := PSs_imp pss_nil fun _ _ _ => st_nx
theorem bv_one (h : Sv ca W X st f) : Bv ca W X [st] f := pss_one h
theorem bv_cons (h : Sv ca W X st f) (k : Bv ca W X rest g) : Bv ca W X (st :: rest) (sSeq f g) := PSs_imp (pss_cons h k) fun _ _ _ => st_seq
theorem sv_pass : Sv ca W X (.Pass pos) sNx := PS_imp ps_pass fun _ _ _ => st_nx
theorem sv_bk : Sv ca W X (.Break pos) sBk := PS_imp ps_break fun _ _ _ => st_bk
theorem sv_ct : Sv ca W X (.Continue pos) sCt := PS_imp ps_continue fun _ _ _ => st_ct
theorem sv_expr (h : Ev ca W X a fa) (hs : swapsWith a none pos.line X.env = pure false := by rfl) : Sv ca W X (.Expr a pos) (sExpr fa) := PS_imp (ps_expr h hs) fun _ _ _ => st_expr
theorem sv_ret (h : Ev ca W X a fa) : Sv ca W X (.Return (some a) pos) (sRet fa) := PS_imp (ps_ret h) fun _ _ _ => st_ret
theorem sv_retN : Sv ca W X (.Return none pos) sRetN := PS_imp ps_retN fun _ _ _ => st_retN
theorem sv_if (hc : Tv ca W X c t) (h1 : Bv ca W X s1 f) (h2 : Bv ca W X s2 g) : Sv ca W X (.If c s1 s2 pos) (sIf t f g) := PS_imp (ps_if hc h1 h2) fun _ _ _ => st_if
theorem sv_set (i : Nat) {x : Str} (hN : X.N.Nodup) (h : Ev ca W X a fa) (hi : X.N[i]? = some x := by rfl) (hx : Loc X.env.scope x := by first | exact Or.inl rfl | exact Or.inr rfl) (hs : swapsWith a (some (.Name x p)) pos.line X.env = pure false := by rfl)
    (hf : X.fn x = true ∨ X.env.scope.names.lookup x = some .local := by first | exact .inl rfl | exact .inr rfl | assumption) : Sv ca W X (.Assign [.Name x p] a pos) (sSet i fa) := PS_imp (ps_set hN hi hx h hs hf) fun _ _ _ => st_set
/-- the text iter, walked to the target tg, says w -/
abbrev Wv (ca : Str → Option Addr) (W : WX) (X : Cx) (tg iter : Expr) (w : WV) : Prop := PI X tg iter (tWv (zw ca X) W w)
theorem wv_any {tg : Expr} (h : Ev ca W X a fa) : Wv ca W X tg a (wAny fa) := PI_imp (pi_any h) fun _ _ _ => wv_any_rd rfl
theorem wv_r1 {tg : Expr} (hm : X.mg "range" = none) (h : Ev ca W X a fa) (hg : Gl X "range" := by rfl) (hs : starEach [a] X.env = (false, eval a X.env) :: starEach [] X.env := by rfl) : Wv ca W X tg (.Call (.Name "range" p) [a] [] pos) (wR1 fa) := PI_imp (pi_range1 hg hm (pa_cons h pa_nil hs) (by rw [hs]; rfl)) fun _ _ _ => wv_r1_rd
theorem wv_r2 {tg : Expr} (hm : X.mg "range" = none) (h : Ev ca W X a fa) (h2 : Ev ca W X b fb) (hg : Gl X "range" := by rfl) (hs : starEach [a, b] X.env = (false, eval a X.env) :: starEach [b] X.env := by rfl) (hs2 : starEach [b] X.env = (false, eval b X.env) :: starEach [] X.env := by rfl) :
    Wv ca W X tg (.Call (.Name "range" p) [a, b] [] pos) (wR2 fa fb) := PI_imp (pi_range2 hg hm (pa_cons h (pa_cons h2 pa_nil hs2) hs) (by rw [hs, hs2]; rfl) (by rw [hs2]; rfl)) fun _ _ _ => wv_r2_rd
theorem sv_for {tmp : List Nat} {tt : Tg} {tg : TG} {w : WV} (hp : PassesOwn (model X.prog X.w) X.A X.env X.xe) (hc : X.calm = true) (hg : PG X c tg) (tk : TgOk (zw ca X) tg tt) (h : Wv ca W X c a w) (hb : Bv ca W X s1 f)
    (hs : ∀ x, foldedSetIterable a X.env x = pure x := by intro _; rfl) : Sv ca W X (.For c a s1 [] pos) (sFor tmp tt w f) := PS_imp (ps_for hp hc h hg hb hs) fun _ _ _ => st_for tk
theorem sv_while {tmp : List Nat} (n : Nat) (hp : PassesOwn (model X.prog X.w) X.A X.env X.xe) (hc : Tv ca W X c t) (hb : Bv ca W X s1 f) : Sv ca W X (.While c s1 [] pos) (whL tmp t f n) := PS_imp (ps_while hp hc hb) fun _ _ _ => st_while
end
end S3

/-! B9: list comprehensions. -/
namespace S3
open PySem L2
section
variable {Z : Wd} {F F' H H' : Hp} {N : En} {σ : St} {e e' : Env} {v x y : V} {W : WX}
theorem get_lock {e : Env} {i : Nat} {s : Sl} (h : (lock e)[i]? = some s) : ∃ t, e[i]? = some t ∧ s = t.lock := by
  unfold lock at h
  rw [List.getElem?_map, Option.map_eq_some_iff] at h
  obtain ⟨t, h1, h2⟩ := h
  exact ⟨t, h1, h2.symm⟩
/-- all that is owned is lent to be read, from here on -/
theorem SOk.lockd (S : SOk Z N F H σ e) : SOk Z ⟨F, H, [], fun _ => none⟩ F H σ (lock e) where
  le := S.le
  f0 := Same.refl _
  h0 := fun _ _ h _ => h
  nf := fun _ _ _ _ h => h
  len := by unfold lock; rw [List.length_map]; exact S.len
  slot := fun i s h => by
    obtain ⟨t, h1, rfl⟩ := get_lock h
    obtain ⟨o, g1, g2⟩ := S.slot i t h1
    refine ⟨o, g1, ?_⟩
    cases t with
    | no => trivial
    | fz d => exact g2
    | ow d => obtain ⟨a, rfl, f, n, t⟩ := g2; exact ⟨_, rfl, .inr ⟨a, rfl, f, t.there, by simp, t⟩⟩
    | mu d => obtain ⟨a, rfl, f, n, t⟩ := g2; exact ⟨_, rfl, .inr ⟨a, rfl, f, t.there, by simp, t⟩⟩
    | bo d =>
      obtain ⟨v, rfl, r | ⟨a, rfl, f, n, m, t⟩⟩ := g2
      · exact ⟨v, rfl, .inl r⟩
      · exact ⟨_, rfl, .inr ⟨a, rfl, f, t.there, by simp, t⟩⟩
  sep := fun i j s t a h1 h2 ne o l1 l2 => by
    obtain ⟨s', _, rfl⟩ := get_lock h1
    cases s' <;> cases o
  mh := fun a m => absurd m (by simp)
  mus := fun i d h => by
    obtain ⟨t, _, q⟩ := get_lock h
    cases t <;> cases q
theorem wipe_get {σ : St} {j : Nat} : ∀ {is : List Nat}, (wipe σ is)[j]? = if j ∈ is ∧ j < σ.length then some none else σ[j]?
  | [] => by simp [wipe]
  | i :: is => by
    have ih := wipe_get (σ := σ) (j := j) (is := is)
    have hl := wipe_length σ is
    unfold wipe
    by_cases q : i = j
    · subst q
      by_cases l : i < σ.length
      · rw [List.getElem?_set_self (by rw [hl]; exact l), if_pos ⟨List.mem_cons_self, l⟩]
      · rw [List.getElem?_eq_none (by rw [List.length_set, hl]; omega), if_neg (fun z => l z.2), List.getElem?_eq_none (by omega)]
    · rw [List.getElem?_set_ne q, ih]
      by_cases m : j ∈ is ∧ j < σ.length
      · rw [if_pos m, if_pos ⟨List.mem_cons_of_mem _ m.1, m.2⟩]
      · rw [if_neg m, if_neg]
        rintro ⟨m1, m2⟩
        rcases List.mem_cons.mp m1 with z | z
        · exact q z.symm
        · exact m ⟨z, m2⟩
theorem wipeE_get {e : Env} {j : Nat} : ∀ {is : List Nat}, (wipeE e is)[j]? = if j ∈ is ∧ j < e.length then some .no else e[j]?
  | [] => by simp [wipeE]
  | i :: is => by
    have ih := wipeE_get (e := e) (j := j) (is := is)
    have hl : ∀ is : List Nat, (wipeE e is).length = e.length := fun is => by
      induction is with
      | nil => rfl
      | cons a b ih => unfold wipeE; rw [List.length_set]; exact ih
    unfold wipeE
    by_cases q : i = j
    · subst q
      by_cases l : i < e.length
      · rw [List.getElem?_set_self (by rw [hl]; exact l), if_pos ⟨List.mem_cons_self, l⟩]
      · rw [List.getElem?_eq_none (by rw [List.length_set, hl]; omega), if_neg (fun z => l z.2), List.getElem?_eq_none (by omega)]
    · rw [List.getElem?_set_ne q, ih]
      by_cases m : j ∈ is ∧ j < e.length
      · rw [if_pos m, if_pos ⟨List.mem_cons_of_mem _ m.1, m.2⟩]
      · rw [if_neg m, if_neg]
        rintro ⟨m1, m2⟩
        rcases List.mem_cons.mp m1 with z | z
        · exact q z.symm
        · exact m ⟨z, m2⟩
theorem SOk.wipe2 (S : SOk Z N F H σ e) (is : List Nat) : SOk Z N F H (L2.wipe σ is) (wipeE e is) where
  le := S.le
  f0 := S.f0
  h0 := S.h0
  nf := S.nf
  len := by
    rw [wipe_length, S.len]
    induction is with
    | nil => rfl
    | cons a b ih => unfold wipeE; rw [List.length_set]; exact ih
  slot := fun i s h => by
    rw [wipeE_get] at h
    rw [wipe_get]
    split at h
    · rename_i m
      cases h
      rw [if_pos ⟨m.1, by rw [S.len]; exact m.2⟩]
      exact ⟨_, rfl, trivial⟩
    · rename_i m
      rw [if_neg (fun z => m ⟨z.1, by rw [← S.len]; exact z.2⟩)]
      exact S.slot i s h
  sep := fun i j s t a h1 h2 ne o l1 l2 => by
    rw [wipeE_get] at h1 h2
    split at h1
    · cases h1; cases o
    · rename_i m1
      split at h2
      · cases h2; exact l2
      · rename_i m2
        rw [wipe_get, if_neg (fun z => m1 ⟨z.1, by rw [← S.len]; exact z.2⟩)] at l1
        rw [wipe_get, if_neg (fun z => m2 ⟨z.1, by rw [← S.len]; exact z.2⟩)] at l2
        exact S.sep i j s t a h1 h2 ne o l1 l2
  mh := S.mh
  mus := fun i d h => by
    rw [wipeE_get] at h
    split at h
    · cases h
    · rename_i m
      rw [wipe_get, if_neg (fun z => m ⟨z.1, by rw [← S.len]; exact z.2⟩)]
      exact S.mus i d h
theorem wipe_off {σ σ' : St} {is own : List Nat} (h : Off is σ σ') (sub : ∀ i ∈ is, i ∈ own) : wipe σ' own = wipe σ own := by
  apply List.ext_getElem?
  intro j
  rw [wipe_get, wipe_get, h.1]
  by_cases m : j ∈ own ∧ j < σ.length
  · rw [if_pos m, if_pos m]
  · rw [if_neg m, if_neg m]
    by_cases l : j < σ.length
    · exact h.2 j fun z => m ⟨sub j z, l⟩
    · rw [List.getElem?_eq_none (by rw [h.1]; omega), List.getElem?_eq_none (by omega)]
theorem wipe_wipe (σ : St) (own : List Nat) : wipe (wipe σ own) own = wipe σ own := by
  apply List.ext_getElem?
  intro j
  rw [wipe_get, wipe_get, wipe_length]
  split <;> rfl
abbrev W0 : WX := fun _ _ _ _ => False
theorem lc_sound {g : TG} {t : Tg} {own : List Nat} {c : TV} {f : EV} {J : It} {ds ys : List D} {Q : VK} (tk : TgOk Z g t) (sub : ∀ i ∈ tgIx t, i ∈ own) (S : SOk Z N F H σ e) (wk : WalkOk Z N F J ds)
    (hz : ds.length ≤ 16777216) (hl : lcL t c f ds (wipeE (lock e) own) [] = some ys) (P : PostE Z N F σ W Q (.ok (.nw (.lst ys)) e)) : ∀ A, H A = none →
    ∃ Wm : Nat → Nat → Hp → Prop, (∃ m, Wm 0 m (upd H A (.lst []))) ∧ ∀ i m H, Wm i m H → (J.stop i H ∧ Q (.ref A) H) ∨ (J.go i H ∧ ∃ Nx : Hp → Prop, (∀ H', Nx H' → ∃ m', m' < m ∧ Wm (i + 1) m' H') ∧
      ∀ x H', J.yld i H x H' → g x (wipe σ own) H' fun σ2 H2 => wipe σ2 own = wipe σ own ∧ tTv Z W0 c σ2 H2 fun b H3 =>
        if b = true then tEv Z W0 f σ2 H3 fun y H4 => ∃ acc, H4 A = some (.lst acc) ∧ acc.length < sizeLine ∧ Nx (upd H4 A (.lst (acc ++ [y]))) else Nx H3) := by
  intro A hA
  refine ⟨fun i m Hx => m = ds.length - i ∧ i ≤ ds.length ∧ ∃ F' Hm acc accD, Same F F' ∧ SOk Z N F' Hm σ e ∧ Hm A = none ∧ Hx = upd Hm A (.lst acc) ∧ RpA Z F' acc accD ∧ accD.length ≤ i ∧ lcL t c f (ds.drop i) (wipeE (lock e) own) accD = some ys,
    ⟨ds.length, rfl, Nat.zero_le _, F, H, [], [], Same.refl _, S, hA, rfl, .nil, Nat.le_refl _, hl⟩, ?_⟩
  rintro i m _ ⟨rfl, hi, F1, Hm, acc, accD, f1, S1, nA, rfl, ra, hacc, hl1⟩
  have SH : SOk Z N F1 (upd Hm A (.lst acc)) σ e := S1.gr (Gr.lay S1.le nA)
  obtain ⟨w1, w2⟩ := wk F1 _ σ e SH f1 i
  by_cases hlt : i < ds.length
  · have ed : ds.drop i = ds[i] :: ds.drop (i + 1) := List.drop_eq_getElem_cons hlt
    have ei : ds[i]? = some ds[i] := List.getElem?_eq_getElem hlt
    rw [ed] at hl1
    generalize ds[i] = d at hl1 ei
    obtain ⟨go, yl⟩ := w1 d ei
    refine .inr ⟨go, fun Hx => ∃ F' Hm acc accD, Same F F' ∧ SOk Z N F' Hm σ e ∧ Hm A = none ∧ Hx = upd Hm A (.lst acc) ∧ RpA Z F' acc accD ∧ accD.length ≤ i + 1 ∧ lcL t c f (ds.drop (i + 1)) (wipeE (lock e) own) accD = some ys,
      fun H' h => ⟨ds.length - (i + 1), by omega, rfl, hlt, h⟩, fun x H2 hy => ?_⟩
    obtain ⟨F2, g2, r2⟩ := yl x H2 hy
    have S2 := SH.gr g2
    have S3' := S2.lockd.wipe2 own
    unfold lcL at hl1
    cases q : tgt t d (wipeE (lock e) own) with
    | none => rw [q] at hl1; cases hl1
    | some e2 =>
      rw [q] at hl1
      dsimp only at hl1
      refine tk ⟨F2, H2, [], fun _ => none⟩ F2 H2 (wipe σ own) (wipeE (lock e) own) x d e2 _ S3' r2 q fun σ2 S4 off => ⟨by rw [wipe_off off sub, wipe_wipe], ⟨F2, H2, [], fun _ => none⟩, F2, e2, S4, ?_⟩
      -- the heap behind the turn, without the new list
      have A2 : H2 A = some (.lst acc) := g2.h _ _ upd_same
      have ntA : NT (HO.lst acc) := fun _ z => by cases z
      have FA : F2 A = none := g2.nf A _ upd_same ntA (none_le S1.le nA)
      have back : ∀ {F3 H3 : Hp} {σ3 : St} {e3 : Env}, SOk Z ⟨F2, H2, [], fun _ => none⟩ F3 H3 σ3 e3 → H3 A = some (.lst acc) ∧ F3 A = none ∧ ∃ H3m : Hp, SOk Z N F3 H3m σ e ∧ H3m A = none ∧ ∀ o, upd H3 A o = upd H3m A o := by
        intro F3 H3 σ3 e3 T
        have k1 : H3 A = some (.lst acc) := T.h0 A _ A2 (by simp)
        have k2 : F3 A = none := T.nf A _ A2 ntA FA
        refine ⟨k1, k2, fun b => if b = A then none else H3 b, S1.grow (g2.f.trans T.f0) (fun b o hb => ?_) (fun b o hb => ?_) (fun b u hb nt n => ?_), if_pos rfl, fun o => ?_⟩
        · have nb : b ≠ A := ne_of_none hb nA
          rw [if_neg nb]
          exact T.h0 b o (g2.h _ _ (by rw [upd_ne nb]; exact hb)) (by simp)
        · have nb : b ≠ A := fun z => by subst z; rw [k2] at hb; cases hb
          rw [if_neg nb]
          exact T.le _ _ hb
        · have nb : b ≠ A := ne_of_none hb nA
          have hb' : upd Hm A (.lst acc) b = some u := by rw [upd_ne nb]; exact hb
          exact T.nf b u (g2.h _ _ hb') nt (g2.nf b u hb' nt n)
        · funext b
          show (if b = A then some o else H3 b) = (if b = A then some o else (if b = A then none else H3 b))
          by_cases z : b = A
          · rw [if_pos z, if_pos z]
          · rw [if_neg z, if_neg z, if_neg z]
      cases q2 : c e2 with
      | no => rw [q2] at hl1; cases hl1
      | ex z e3 => rw [q2] at hl1; cases hl1
      | ok b e3 =>
        rw [q2] at hl1
        intro F3 H3 f3 T3
        cases b with
        | false =>
          refine iteF ?_
          obtain ⟨k1, k2, H3m, S5, k3, k4⟩ := back T3
          refine ⟨F3, H3m, acc, accD, f1.trans (g2.f.trans f3), S5, k3, ?_, ra.mono (g2.f.trans f3), Nat.le_succ_of_le hacc, hl1⟩
          rw [← k4]
          funext b
          by_cases z : b = A
          · subst z; rw [upd_same, k1]
          · rw [upd_ne z]
        | true =>
          refine iteT ⟨⟨F2, H2, [], fun _ => none⟩, F3, e3, T3, ?_⟩
          dsimp only at hl1
          cases q3 : f e3 with
          | no => rw [q3] at hl1; cases hl1
          | ex z e4 => rw [q3] at hl1; cases hl1
          | ok r e4 =>
            rw [q3] at hl1
            dsimp only at hl1
            cases q4 : stl r e4 with
            | none => rw [q4] at hl1; cases hl1
            | some pr =>
              obtain ⟨x', e5⟩ := pr
              rw [q4] at hl1
              dsimp only at hl1
              intro v F5 H5 f5 T5 R5
              obtain ⟨F6, f6, T6, r6⟩ := RvOk.stl T5 R5 q4
              obtain ⟨k1, k2, H6m, S6, k3, k4⟩ := back T6
              have ff : Same F1 F6 := g2.f.trans (f3.trans (f5.trans f6))
              refine ⟨acc, k1, ?_, F6, H6m, acc ++ [v], accD ++ [x'], f1.trans ff, S6, k3, k4 _, (ra.mono ff).append (.cons r6 .nil), by rw [List.length_append]; exact Nat.succ_le_succ hacc, hl1⟩
              rw [ra.length, sizeLine_eq]
              omega
  · have e0 : ds.drop i = [] := List.drop_eq_nil_of_le (Nat.le_of_not_lt hlt)
    rw [e0] at hl1
    unfold lcL at hl1
    cases hl1
    refine .inl ⟨w2 (Nat.le_of_not_lt hlt), P (.ref A) F1 _ f1 SH ⟨A, rfl, none_le S1.le nA, S1.nohave nA, ⟨acc, upd_same, ra⟩, fun j s hj l => ?_⟩⟩
    obtain ⟨_, u, hu⟩ := S1.live hj l
    rw [nA] at hu; cases hu
theorem lc_post {g : TG} {t : Tg} {own : List Nat} {w : WV} {c : TV} {f : EV} {Q : VK} (tk : TgOk Z g t) (sub : ∀ i ∈ tgIx t, i ∈ own) (S : SOk Z N F H σ e) (P : PostE Z N F σ W Q (eLc own t w c f e)) : tLc (fun _ _ R => PostW Z N F σ W R (w e)) g (tTv Z W0 c) (tEv Z W0 f) own σ H Q := by
  unfold eLc at P
  show PostW Z N F σ W _ (w e)
  cases q : w e with
  | no => rw [q] at P; exact P
  | ex z e1 => rw [q] at P; exact P
  | ok xs e1 =>
    rw [q] at P
    dsimp only at P
    cases q1 : lcL t c f xs (wipeE (lock e1) own) [] with
    | none => rw [q1] at P; exact P.elim
    | some ys =>
      rw [q1] at P
      dsimp only at P
      split at P
      · rename_i hz
        exact fun J F1 H1 f1 S1 wk => lc_sound tk sub S1 wk hz q1 (PostE.shift P f1)
      · exact P.elim
theorem lc_rd {g : TG} {t : Tg} {own : List Nat} {w : WV} {c : TV} {f : EV} {Q : VK} (tk : TgOk Z g t) (sub : ∀ i ∈ tgIx t, i ∈ own) (h : tEv Z W (eLc own t w c f) σ H Q) : tLc (tWv Z W w) g (tTv Z W0 c) (tEv Z W0 f) own σ H Q :=
  let ⟨N, F, e, S, P⟩ := h
  ⟨N, F, e, S, lc_post tk sub S P⟩
theorem yes_rd {Q : Bool → Hp → Prop} (h : tTv Z W0 tYesS σ H Q) : tYes σ H Q := by
  obtain ⟨N, F, e, S, P⟩ := h
  exact P F H (Same.refl _) S
end
section
variable {ca : Str → Option Addr} {W : WX} {X : Cx} {fe : EV} {w : WV} {c : TV} {elt tg iter : Expr} {ifs : List Expr} {scope : Scope} {own : List (Str × Nat)} {pos : Pos} {g : TG} {t : Tg}
theorem ptv_nil : PTs X [] (tTv (zw ca X) W0 tYesS) := ⟨fun p s σ H Q I h => pts_nil.run p s σ H Q I (yes_rd h)⟩
theorem ptv_one {a : Expr} (h : Tv ca W0 X a c) : PTs X [a] (tTv (zw ca X) W0 c) := pts_one h
theorem ev_lc (hc : X.calm = true) (hN : X.N.Nodup) (hi : Wv ca W X tg iter w) (ok : BlkOk X.N X.env.scope scope own) (tk : TgOk (zw ca X) g t) (sub : ∀ i ∈ tgIx t, i ∈ own.map (·.2))
    (hg : ∀ (s : Shared) (H : Hp) (C : Addr) (cl : List (Str × Addr)) (fp : List Addr), PG (X.blk s H scope (compEnvC scope cl C X.env) fp) tg g)
    (ht : ∀ (s : Shared) (H : Hp) (C : Addr) (cl : List (Str × Addr)) (fp : List Addr), PTs (X.blk s H scope (compEnvC scope cl C X.env) fp) ifs (tTv (zw ca X) W0 c))
    (he : ∀ (s : Shared) (H : Hp) (C : Addr) (cl : List (Str × Addr)) (fp : List Addr), Ev ca W0 (X.blk s H scope (compEnvC scope cl C X.env) fp) elt fe) (hs : ∀ x, foldedSetIterable iter X.env x = pure x := by intro _; rfl) :
    Ev ca W X (.ListComp elt [⟨tg, iter, ifs, 0⟩] scope pos) (eLc (own.map (·.2)) t w c fe) :=
  PE_imp (pe_lc hc hN hi ok hg ht he hs) fun _ _ _ => lc_rd tk sub
theorem sv_setLc (i : Nat) {y : Str} {py spos : Pos} (hc : X.calm = true) (hN : X.N.Nodup) (hyl : X.env.scope.names.lookup y = some .local) (hsw : swapsWith (.ListComp elt [⟨tg, iter, ifs, 0⟩] scope pos) (some (.Name y py)) spos.line X.env = pure true)
    (hi : Wv ca W X tg iter w) (ok : BlkOk X.N X.env.scope scope own) (tk : TgOk (zw ca X) g t) (sub : ∀ i ∈ tgIx t, i ∈ own.map (·.2))
    (hg : ∀ (s : Shared) (H : Hp) (C : Addr) (cl : List (Str × Addr)) (fp : List Addr), PG (X.blk s H scope (compEnvC scope cl C X.env) fp) tg g)
    (ht : ∀ (s : Shared) (H : Hp) (C : Addr) (cl : List (Str × Addr)) (fp : List Addr), PTs (X.blk s H scope (compEnvC scope cl C X.env) fp) ifs (tTv (zw ca X) W0 c))
    (he : ∀ (s : Shared) (H : Hp) (C : Addr) (cl : List (Str × Addr)) (fp : List Addr), Ev ca W0 (X.blk s H scope (compEnvC scope cl C X.env) fp) elt fe) (hy : X.N[i]? = some y := by rfl) (hs : ∀ x, foldedSetIterable iter X.env x = pure x := by intro _; rfl) :
    Sv ca W X (.Assign [.Name y py] (.ListComp elt [⟨tg, iter, ifs, 0⟩] scope pos) spos) (sSet i (eLc (own.map (·.2)) t w c fe)) :=
  PS_imp (ps_setLc hc hN hy hyl hsw hi ok hg ht he hs) fun D σ H h => by
    have h2 := st_set h
    exact lc_rd tk sub h2
end
end S3

/-! C1: defs: what a def promises, how it is called, how its body shows it. -/
namespace S3
open PySem L2
section
variable {Z : Wd} {F F' H H' : Hp} {N : En} {σ : St} {e e' : Env} {W : WX}
/-- the arguments, by their modes -/
inductive ArgsOk (Z : Wd) (F H : Hp) : List Md → List V → List D → Prop
  | nil : ArgsOk Z F H [] [] []
  | v {ms : List Md} {x : V} {vs : List V} {d : D} {ds : List D} : Rp Z F x d → ArgsOk Z F H ms vs ds → ArgsOk Z F H (.v :: ms) (x :: vs) (d :: ds)
  | r {ms : List Md} {x : V} {vs : List V} {d : D} {ds : List D} : RdV Z F H x d → ArgsOk Z F H ms vs ds → ArgsOk Z F H (.r :: ms) (x :: vs) (d :: ds)
  | m {ms : List Md} {a : Addr} {vs : List V} {d : D} {ds : List D} : F a = none → Top Z F H a d → ArgsOk Z F H ms vs ds → ArgsOk Z F H (.m :: ms) (.ref a :: vs) (d :: ds)
/-- a lent place: the slot that a parameter begins as -/
def pSl (m : Md) (d : D) : Sl := match m with | .v => .fz d | .r => .bo d | .m => .mu d
/-- the place of the i-th parameter, if it may be changed -/
def mAt (ms : List Md) (vs : List V) (i : Nat) : Option Addr := match ms[i]?, vs[i]? with
  | some .m, some (.ref a) => some a
  | _, _ => none
def mSet : List Md → List V → List Addr
  | .m :: ms, .ref a :: vs => a :: mSet ms vs
  | _ :: ms, _ :: vs => mSet ms vs
  | _, _ => []
theorem mem_mSet : ∀ {ms : List Md} {vs : List V} {a : Addr}, a ∈ mSet ms vs ↔ ∃ i, mAt ms vs i = some a
  | [], vs, a => by simp [mSet, mAt]
  | m :: ms, [], a => by cases m <;> simp [mSet, mAt]
  | m :: ms, v :: vs, a => by
    have ih := mem_mSet (ms := ms) (vs := vs) (a := a)
    have sh : ∀ i, mAt (m :: ms) (v :: vs) (i + 1) = mAt ms vs i := fun i => by simp [mAt]
    have h0 : ∀ b, (m = .m ∧ v = .ref b) ↔ mAt (m :: ms) (v :: vs) 0 = some b := fun b => by
      cases m <;> cases v <;> simp [mAt]
    have split : (∃ i, mAt (m :: ms) (v :: vs) i = some a) ↔ (m = .m ∧ v = .ref a) ∨ ∃ i, mAt ms vs i = some a := by
      constructor
      · rintro ⟨i, hi⟩
        cases i with
        | zero => exact .inl ((h0 a).mpr hi)
        | succ i => rw [sh] at hi; exact .inr ⟨i, hi⟩
      · rintro (h | ⟨i, hi⟩)
        · exact ⟨0, (h0 a).mp h⟩
        · exact ⟨i + 1, by rw [sh]; exact hi⟩
    rw [split]
    cases m <;> cases v <;> simp [mSet, ih] <;> try (constructor <;> intro h <;> simpa using h)
    all_goals (constructor <;> (rintro (h | h)) <;> first | exact .inl h.symm | exact .inr h)
/-- no place that may be changed is handed on twice -/
def ApartV (Z : Wd) (F : Hp) (ms : List Md) (vs : List V) (ds : List D) : Prop :=
  ∀ i j a m d, i ≠ j → mAt ms vs i = some a → ms[j]? = some m → ds[j]? = some d → Live Z F (vs[j]?) (pSl m d) a → False
/-- the heap behind a call -/
structure CGr (F H : Hp) (M : List Addr) (F' H' : Hp) : Prop where
  f : Same F F'
  le : Same F' H'
  h : ∀ b o, H b = some o → b ∉ M → H' b = some o
  nf : ∀ b o, H b = some o → NT o → F b = none → F' b = none
inductive OutsOk (Z : Wd) (F H : Hp) : List Md → List V → List D → Prop
  | nil : OutsOk Z F H [] [] []
  | v {ms : List Md} {x : V} {vs : List V} {ds : List D} : OutsOk Z F H ms vs ds → OutsOk Z F H (.v :: ms) (x :: vs) ds
  | r {ms : List Md} {x : V} {vs : List V} {ds : List D} : OutsOk Z F H ms vs ds → OutsOk Z F H (.r :: ms) (x :: vs) ds
  | m {ms : List Md} {a : Addr} {vs : List V} {d : D} {ds : List D} : Top Z F H a d → OutsOk Z F H ms vs ds → OutsOk Z F H (.m :: ms) (.ref a :: vs) (d :: ds)
def ResOk (Z : Wd) (H F' H' : Hp) (n : Bool) (v : V) (d : D) : Prop := if n = true then ∃ a, v = .ref a ∧ H a = none ∧ F' a = none ∧ Top Z F' H' a d else Rp Z F' v d
def PostC (Z : Wd) (F H : Hp) (ms : List Md) (vs : List V) (Q : VK) (E : XK) : RC → Prop
  | .no => False
  | .ok n d outs => ∀ v F' H', CGr F H (mSet ms vs) F' H' → OutsOk Z F' H' ms vs outs → ResOk Z H F' H' n v d → Q v H'
  | .ex x outs => ∀ cls dd F' H', CGr F H (mSet ms vs) F' H' → OutsOk Z F' H' ms vs outs → ExOk Z F' H' x cls dd → E cls dd H'
/-- THE PROMISE of a def that does phi -/
def spOf (Z : Wd) (ms : List Md) (phi : List D → RC) : Sp := fun vs H Q E => ∃ F ds, Same F H ∧ ArgsOk Z F H ms vs ds ∧ ApartV Z F ms vs ds ∧ PostC Z F H ms vs Q E (phi ds)

theorem ArgsOk.lens {ms : List Md} {vs : List V} {ds : List D} (h : ArgsOk Z F H ms vs ds) : vs.length = ms.length ∧ ds.length = ms.length := by
  induction h with
  | nil => exact ⟨rfl, rfl⟩
  | v _ _ ih => exact ⟨congrArg Nat.succ ih.1, congrArg Nat.succ ih.2⟩
  | r _ _ ih => exact ⟨congrArg Nat.succ ih.1, congrArg Nat.succ ih.2⟩
  | m _ _ _ ih => exact ⟨congrArg Nat.succ ih.1, congrArg Nat.succ ih.2⟩
theorem ArgsOk.at : ∀ {ms : List Md} {vs : List V} {ds : List D} {i : Nat} {m : Md} {d : D}, ArgsOk Z F H ms vs ds → ms[i]? = some m → ds[i]? = some d →
    ∃ v, vs[i]? = some v ∧ (match m with | .v => Rp Z F v d | .r => RdV Z F H v d | .m => ∃ a, v = .ref a ∧ F a = none ∧ Top Z F H a d)
  | _, _, _, _, _, _, .nil, h, _ => by simp at h
  | _, _, _, 0, _, _, .v a _, h, k => by simp at h k; subst h k; exact ⟨_, rfl, a⟩
  | _, _, _, 0, _, _, .r a _, h, k => by simp at h k; subst h k; exact ⟨_, rfl, a⟩
  | _, _, _, 0, _, _, .m a b _, h, k => by simp at h k; subst h k; exact ⟨_, rfl, _, rfl, a, b⟩
  | _, _, _, i + 1, _, _, .v a t, h, k => by
    obtain ⟨v, h1, h2⟩ := ArgsOk.at (i := i) t (by simpa using h) (by simpa using k)
    exact ⟨v, by simpa using h1, h2⟩
  | _, _, _, i + 1, _, _, .r a t, h, k => by
    obtain ⟨v, h1, h2⟩ := ArgsOk.at (i := i) t (by simpa using h) (by simpa using k)
    exact ⟨v, by simpa using h1, h2⟩
  | _, _, _, i + 1, _, _, .m a b t, h, k => by
    obtain ⟨v, h1, h2⟩ := ArgsOk.at (i := i) t (by simpa using h) (by simpa using k)
    exact ⟨v, by simpa using h1, h2⟩

/-! ### the body -/
theorem startE_get {ms : List Md} {ds : List D} {n i : Nat} {s : Sl} (hl : ds.length = ms.length) (h : (startE ms ds n)[i]? = some s) :
    (∃ m d, ms[i]? = some m ∧ ds[i]? = some d ∧ s = pSl m d) ∨ (ms.length ≤ i ∧ s = .no) := by
  unfold startE at h
  by_cases q : i < ms.length
  · rw [List.getElem?_append_left (by rw [List.length_map, List.length_zip, hl]; omega), List.getElem?_map, Option.map_eq_some_iff] at h
    obtain ⟨⟨m, d⟩, h1, rfl⟩ := h
    rw [List.getElem?_zip_eq_some] at h1
    exact .inl ⟨m, d, h1.1, h1.2, by cases m <;> rfl⟩
  · rw [List.getElem?_append_right (by rw [List.length_map, List.length_zip, hl]; omega), List.getElem?_replicate] at h
    split at h
    · cases h; exact .inr ⟨by omega, rfl⟩
    · cases h
theorem start_get {Nm : List Str} {vs : List V} {i : Nat} {v : V} (h : vs[i]? = some v) : (L2.start Nm vs)[i]? = some (some v) := by
  unfold L2.start
  rw [List.getElem?_append_left (by rw [List.length_map]; exact (List.getElem?_eq_some_iff.mp h).1), List.getElem?_map, h]
  rfl
/-- the frame's state at the entry -/
theorem start_ok {ms : List Md} {vs : List V} {ds : List D} {Nm : List Str} {n : Nat} (l : Same F H) (a : ArgsOk Z F H ms vs ds) (ap : ApartV Z F ms vs ds) (hn : Nm.length = n) (hm : ms.length ≤ n) :
    SOk Z ⟨F, H, mSet ms vs, mAt ms vs⟩ F H (L2.start Nm vs) (startE ms ds n) where
  le := l
  f0 := Same.refl _
  h0 := fun _ _ h _ => h
  nf := fun _ _ _ _ h => h
  len := by
    obtain ⟨h1, h2⟩ := a.lens
    unfold L2.start startE
    simp only [List.length_append, List.length_map, List.length_replicate, List.length_zip, h1, h2, hn]
    omega
  slot := fun i s h => by
    obtain ⟨h1, h2⟩ := a.lens
    rcases startE_get h2 h with ⟨m, d, k1, k2, rfl⟩ | ⟨k, rfl⟩
    · obtain ⟨v, g1, g2⟩ := a.at k1 k2
      refine ⟨_, start_get g1, ?_⟩
      cases m with
      | v => exact ⟨v, rfl, g2⟩
      | r =>
        refine ⟨v, rfl, ?_⟩
        by_cases rr : Rp Z F v d
        · exact .inl rr
        · rcases g2 with g2 | ⟨b, rfl, f, t⟩
          · exact (rr g2).elim
          · refine .inr ⟨b, rfl, f, t.there, fun hm => ?_, t⟩
            obtain ⟨j, hj⟩ := mem_mSet.mp hm
            have ne : j ≠ i := by
              rintro rfl
              unfold mAt at hj
              rw [k1] at hj
              cases hj
            refine ap j i b .r d ne hj k1 k2 ?_
            rw [g1]
            exact ⟨rfl, rr⟩
      | m =>
        obtain ⟨b, rfl, f, t⟩ := g2
        exact ⟨b, rfl, f, mem_mSet.mpr ⟨i, by unfold mAt; rw [k1, g1]⟩, t⟩
    · have hi : i < (startE ms ds n).length := (List.getElem?_eq_some_iff.mp h).1
      have hl : i < (L2.start Nm vs).length := by
        unfold L2.start startE at *
        simp only [List.length_append, List.length_map, List.length_replicate, List.length_zip, h1, h2, hn] at hi ⊢
        omega
      exact ⟨_, List.getElem?_eq_getElem hl, trivial⟩
  sep := fun i j s t b h1 h2 ne o l1 l2 => by
    obtain ⟨k1, k2⟩ := a.lens
    rcases startE_get k2 h1 with ⟨m, d, g1, g2, rfl⟩ | ⟨_, rfl⟩
    · cases m <;> try (cases o; done)
      obtain ⟨v, e1, b', rfl, f, t'⟩ := a.at g1 g2
      rcases startE_get k2 h2 with ⟨m2, d2, g3, g4, rfl⟩ | ⟨_, rfl⟩
      · obtain ⟨v2, e2, _⟩ := a.at g3 g4
        rw [start_get e1] at l1
        rw [start_get e2] at l2
        cases l1
        exact ap i j _ m2 d2 ne (by unfold mAt; rw [g1, e1]) g3 g4 (by rw [e2]; exact l2)
      · exact l2
    · cases o
  mh := fun b hb => by
    obtain ⟨i, hi⟩ := mem_mSet.mp hb
    unfold mAt at hi
    cases q1 : ms[i]? with
    | none => rw [q1] at hi; cases hi
    | some m =>
      have li : i < ds.length := by rw [a.lens.2]; exact (List.getElem?_eq_some_iff.mp q1).1
      obtain ⟨v, e1, g⟩ := a.at q1 (List.getElem?_eq_getElem li)
      rw [q1, e1] at hi
      cases m <;> cases v <;> cases hi
      obtain ⟨b', e2, f, t⟩ := g
      cases e2
      exact ⟨f, t.thereN, t.there⟩
  mus := fun i d h => by
    obtain ⟨k1, k2⟩ := a.lens
    rcases startE_get k2 h with ⟨m, d2, g1, g2, q⟩ | ⟨_, q⟩
    · cases m <;> cases q
      obtain ⟨v, e1, b, rfl, f, t⟩ := a.at g1 g2
      exact ⟨b, start_get e1, by show mAt ms vs i = _; unfold mAt; rw [g1, e1]⟩
    · cases q
/-- the lent parameters' values at the end -/
theorem outs_ok : ∀ {ms : List Md} {vs : List V} {e : Env} {outs : List D} (k : Nat) (σ : St), vs.length = ms.length →
    (∀ i d, e[i]? = some (.mu d) → ∃ a, σ[k + i]? = some (some (.ref a)) ∧ mAt ms vs i = some a ∧ Top Z F H a d) → outsE ms e = some outs → OutsOk Z F H ms vs outs
  | [], [], _, _, _, _, _, _, h => by simp only [outsE] at h; cases h; exact .nil
  | m :: ms, v :: vs, e, outs, k, σ, hl, hm, h => by
    have rest : ∀ {e2 : Env} {s : Sl} {o : List D}, e = s :: e2 → outsE ms e2 = some o → OutsOk Z F H ms vs o := fun {e2 s o} he ho =>
      outs_ok (k + 1) σ (Nat.succ.inj hl) (fun i d hi => by
        obtain ⟨a, h1, h2, h3⟩ := hm (i + 1) d (by rw [he]; simpa using hi)
        exact ⟨a, by rw [show k + 1 + i = k + (i + 1) by omega]; exact h1, by simpa [mAt] using h2, h3⟩) ho
    cases m with
    | v => cases e with
      | nil => cases h
      | cons s e2 => exact .v (rest rfl h)
    | r => cases e with
      | nil => cases h
      | cons s e2 => exact .r (rest rfl h)
    | m => cases e with
      | nil => cases h
      | cons s e2 =>
        cases s <;> simp only [outsE] at h <;> try (cases h; done)
        rw [Option.map_eq_some_iff] at h
        obtain ⟨o, h1, rfl⟩ := h
        obtain ⟨a, g1, g2, g3⟩ := hm 0 _ rfl
        cases v <;> simp [mAt] at g2
        subst g2
        exact .m g3 (rest rfl h1)
theorem SOk.cgr {ms : List Md} {vs : List V} (S : SOk Z ⟨F, H, mSet ms vs, mAt ms vs⟩ F' H' σ e) : CGr F H (mSet ms vs) F' H' := ⟨S.f0, S.le, S.h0, S.nf⟩
theorem SOk.outs {ms : List Md} {vs : List V} {outs : List D} (S : SOk Z ⟨F, H, mSet ms vs, mAt ms vs⟩ F' H' σ e) (hl : vs.length = ms.length) (h : outsE ms e = some outs) : OutsOk Z F' H' ms vs outs :=
  outs_ok 0 σ hl (fun i d hi => by
    obtain ⟨a, h1, h2⟩ := S.mus i d hi
    obtain ⟨o, g1, b, rfl, f, m, t⟩ := S.slot i _ hi
    rw [h1] at g1
    cases g1
    exact ⟨a, by rw [Nat.zero_add]; exact h1, h2, t⟩) h
/-- the body's end is the def's end -/
theorem body_end {ms : List Md} {vs : List V} {r : RS} {Q : VK} {E : XK} (hl : vs.length = ms.length) (P : PostC Z F H ms vs Q E (finish ms r)) :
    PostS Z ⟨F, H, mSet ms vs, mAt ms vs⟩ F (fun cls d _ H => E cls d H) { nx := fun _ H' => Q .non H', rt := Q } r := by
  cases r with
  | no => exact P
  | bk e => exact P.elim
  | ct e => exact P.elim
  | nx e =>
    unfold finish at P
    dsimp only at P
    cases q : outsE ms e with
    | none => rw [q] at P; exact P.elim
    | some o => rw [q] at P; exact fun F' H' σ' f S => P .non F' H' S.cgr (S.outs hl q) (by unfold ResOk; rw [if_neg Bool.false_ne_true]; exact .non)
  | ex x e =>
    unfold finish at P
    dsimp only at P
    cases q : outsE ms e with
    | none => rw [q] at P; exact P.elim
    | some o => rw [q] at P; exact fun cls d F' H' σ' f S k => P cls d F' H' S.cgr (S.outs hl q) k
  | rt r e =>
    unfold finish at P
    cases r with
    | «at» i => exact P.elim
    | fz d =>
      dsimp only at P
      cases q : outsE ms e with
      | none => rw [q] at P; exact P.elim
      | some o => rw [q] at P; exact fun v F' H' σ' f S k => P v F' H' S.cgr (S.outs hl q) (by unfold ResOk; rw [if_neg Bool.false_ne_true]; exact k)
    | nw d =>
      dsimp only at P
      cases q : outsE ms e with
      | none => rw [q] at P; exact P.elim
      | some o =>
        rw [q] at P
        intro v F' H' σ' f S k
        obtain ⟨a, rfl, fa, na, t, _⟩ := k
        exact P _ F' H' S.cgr (S.outs hl q) (by unfold ResOk; rw [if_pos rfl]; exact ⟨a, rfl, na, fa, t⟩)
end
section
variable {P : Program} {w : World} {K : PySem.W.Frag} {mg : Str → Option Value} {base : Heap}
open PySem.Spec PyProof.Rows in
/-- THE RULE: a def of the text keeps the promise of its term -/
theorem fn_ok {ca : Str → Option Addr} {x qual : Str} {st : Stmt} {f : Addr} {fd : FuncData} {Nm ps : List Str} {k : Nat} {T : Def} {phi : String → List D → RC} (Fn : L2.Fun K x qual st f fd) (S : FnScope Nm ps (defScope st)) (hps : ps.length = T.ms.length) (hn : Nm.length = T.n) (hm : T.ms.length ≤ T.n)
    (body : ∀ (cdv : Value) (A : Around) (outer : List PySem.Env) (s : Shared) (H : Hp) (E : XK), Room k (A.deeper (envOfC qual (defScope st) s.heap.objs.size f cdv)) →
      Takes (cxOf (L2.CX P w) P w K mg base Nm qual (defScope st) f cdv A outer s H E) (fun cls d _ H => E cls d H) →
      PassesOwn (model P w) (cxOf (L2.CX P w) P w K mg base Nm qual (defScope st) f cdv A outer s H E).A (cxOf (L2.CX P w) P w K mg base Nm qual (defScope st) f cdv A outer s H E).env (cxOf (L2.CX P w) P w K mg base Nm qual (defScope st) f cdv A outer s H E).xe →
      PySem.W.kdsCode K cdv = true → Bv ca (fun cls d _ H => E cls d H) (cxOf (L2.CX P w) P w K mg base Nm qual (defScope st) f cdv A outer s H E) (defBody st) (T.body phi)) :
    FnOk P w K mg base (L2.CX P w) (k + 1) f fd ps (spOf ⟨P, w, K, ca⟩ T.ms (T.run phi)) := by
  obtain ⟨oc, od, kV, doc, pm, an, cdv, ct, osl, rfl, lk, hcd⟩ := Fn.ex
  refine fn_of lk hcd S (fun vs H Q E ⟨F, ds, l, a, _⟩ => by rw [a.lens.1, hps]) fun A outer s H vs Q E hr ⟨F, ds, l, a, ap, P⟩ => ?_
  refine ⟨_, body cdv A outer s H E hr (takes_of rfl rfl rfl rfl) (passes_of rfl) (kdsCode_of hcd), ⟨F, H, mSet T.ms vs, mAt T.ms vs⟩, F, startE T.ms ds T.n, start_ok l a ap hn hm, ?_⟩
  unfold Def.run at P
  rw [if_pos a.lens.2] at P
  exact body_end a.lens.1 P
end
end S3

/-! C2: a def called. -/
namespace S3
open PySem L2
section
variable {Z : Wd} {F F' H H' : Hp} {N : En} {σ : St} {e e' : Env} {W : WX}
theorem args_ok (S : SOk Z N F H σ e) : ∀ {ms : List Md} {rs : List RV} {vs : List V} {ds : List D}, Helds Z F σ vs rs → argD ms rs e = some ds → ArgsOk Z F H ms vs ds
  | [], [], _, _, h, q => by cases h; simp only [argD] at q; cases q; exact .nil
  | [], _ :: _, _, _, _, q => by simp only [argD] at q; cases q
  | m :: ms, [], _, _, _, q => by cases m <;> simp only [argD] at q <;> cases q
  | m :: ms, r :: rs, _, _, h, q => by
    cases h with
    | cons h1 h2 =>
      cases m with
      | v =>
        cases r <;> simp only [argD] at q <;> try (cases q; done)
        rw [Option.map_eq_some_iff] at q
        obtain ⟨ds, q1, rfl⟩ := q
        exact .v h1 (args_ok S h2 q1)
      | r =>
        simp only [argD] at q
        cases d1 : S3.rd r e with
        | none => rw [d1] at q; cases q
        | some d =>
          rw [d1] at q
          dsimp only at q
          rw [Option.map_eq_some_iff] at q
          obtain ⟨ds, q1, rfl⟩ := q
          exact .r (h1.rd S d1) (args_ok S h2 q1)
      | m =>
        cases r <;> simp only [argD] at q <;> try (cases q; done)
        rename_i i
        cases d1 : S3.slot e i <;> rw [d1] at q <;> dsimp only at q <;> try (cases q; done)
        all_goals
          rw [Option.map_eq_some_iff] at q
          obtain ⟨ds, q1, rfl⟩ := q
          obtain ⟨a, g1, g2, g3, _⟩ := own_at S d1 rfl rfl
          have h1' : σ[i]? = some (some _) := h1
          rw [g1] at h1'
          cases h1'
          exact .m g2 g3 (args_ok S h2 q1)
theorem held_at : ∀ {vs : List V} {rs : List RV} {j : Nat} {v : V}, Helds Z F σ vs rs → vs[j]? = some v → ∃ r, rs[j]? = some r ∧ Held Z F σ v r
  | _, _, _, _, .nil, h => by simp at h
  | _, _, 0, _, .cons a _, h => by simp at h; subst h; exact ⟨_, rfl, a⟩
  | _, _, j + 1, _, .cons _ t, h => by
    obtain ⟨r, h1, h2⟩ := held_at (j := j) t (by simpa using h)
    exact ⟨r, by simpa using h1, h2⟩
def ArgAt (e : Env) (m : Md) (r : RV) (d : D) : Prop := match m with
  | .v => r = .fz d
  | .r => S3.rd r e = some d
  | .m => ∃ i, r = .at i ∧ (S3.slot e i).own = true ∧ (S3.slot e i).val = some d
theorem argD_at : ∀ {ms : List Md} {rs : List RV} {ds : List D} {j : Nat} {m : Md} {r : RV} {d : D}, argD ms rs e = some ds → ms[j]? = some m → rs[j]? = some r → ds[j]? = some d →
    ArgAt e m r d
  | [], _, _, _, _, _, _, _, h, _, _ => by simp at h
  | m :: ms, [], _, _, _, _, _, q, _, _, _ => by cases m <;> simp only [argD] at q <;> cases q
  | m :: ms, r :: rs, ds, j, _, _, _, q, h1, h2, h3 => by
    have key : ∃ d ds', ds = d :: ds' ∧ argD ms rs e = some ds' ∧ ArgAt e m r d := by
      cases m with
      | v =>
        cases r <;> simp only [argD] at q <;> try (cases q; done)
        rw [Option.map_eq_some_iff] at q
        obtain ⟨ds', q1, rfl⟩ := q
        exact ⟨_, _, rfl, q1, rfl⟩
      | r =>
        simp only [argD] at q
        cases d1 : S3.rd r e with
        | none => rw [d1] at q; cases q
        | some d =>
          rw [d1] at q
          dsimp only at q
          rw [Option.map_eq_some_iff] at q
          obtain ⟨ds', q1, rfl⟩ := q
          exact ⟨_, _, rfl, q1, d1⟩
      | m =>
        cases r <;> simp only [argD] at q <;> try (cases q; done)
        rename_i i
        cases d1 : S3.slot e i <;> rw [d1] at q <;> dsimp only at q <;> try (cases q; done)
        all_goals
          rw [Option.map_eq_some_iff] at q
          obtain ⟨ds', q1, rfl⟩ := q
          exact ⟨_, _, rfl, q1, i, rfl, by rw [d1]; rfl, by rw [d1]; rfl⟩
    obtain ⟨d, ds', rfl, q1, k⟩ := key
    cases j with
    | zero => simp at h1 h2 h3; subst h1 h2 h3; exact k
    | succ j => exact argD_at (j := j) q1 (by simpa using h1) (by simpa using h2) (by simpa using h3)
theorem mutIx_mem : ∀ {ms : List Md} {rs : List RV} {i p : Nat}, ms[i]? = some .m → rs[i]? = some (.at p) → p ∈ mutIx ms rs
  | [], _, _, _, h, _ => by simp at h
  | _ :: _, [], _, _, _, h => by simp at h
  | m :: ms, r :: rs, 0, p, h1, h2 => by simp at h1 h2; subst h1 h2; exact List.mem_cons_self
  | m :: ms, r :: rs, i + 1, p, h1, h2 => by
    have ih := mutIx_mem (ms := ms) (rs := rs) (i := i) (p := p) (by simpa using h1) (by simpa using h2)
    cases m <;> cases r <;> simp only [mutIx] <;> first | exact ih | exact List.mem_cons_of_mem _ ih
theorem atIx_count1 : ∀ {rs : List RV} {i p : Nat}, rs[i]? = some (.at p) → 1 ≤ (atIx rs).count p
  | [], _, _, h => by simp at h
  | r :: rs, 0, p, h => by simp at h; subst h; simp [atIx]
  | r :: rs, i + 1, p, h => by
    have ih := atIx_count1 (rs := rs) (i := i) (p := p) (by simpa using h)
    cases r <;> simp only [atIx] <;> first | exact ih | (rw [List.count_cons]; omega)
theorem atIx_count2 : ∀ {rs : List RV} {i j p : Nat}, i < j → rs[i]? = some (.at p) → rs[j]? = some (.at p) → 2 ≤ (atIx rs).count p
  | [], _, _, _, _, h, _ => by simp at h
  | r :: rs, 0, 0, _, l, _, _ => absurd l (Nat.lt_irrefl _)
  | r :: rs, i + 1, 0, _, l, _, _ => absurd l (Nat.not_lt_zero _)
  | r :: rs, 0, j + 1, p, _, h, k => by
    simp at h
    subst h
    have := atIx_count1 (rs := rs) (i := j) (p := p) (by simpa using k)
    simp only [atIx, List.count_cons_self]
    omega
  | r :: rs, i + 1, j + 1, p, l, h, k => by
    have ih := atIx_count2 (rs := rs) (i := i) (j := j) (p := p) (by omega) (by simpa using h) (by simpa using k)
    cases r <;> simp only [atIx] <;> first | exact ih | (rw [List.count_cons]; omega)
theorem apart_no {ms : List Md} {rs : List RV} {i j p : Nat} (h : apart ms rs = true) (hm : ms[i]? = some .m) (h1 : rs[i]? = some (.at p)) (h2 : rs[j]? = some (.at p)) (ne : i ≠ j) : False := by
  unfold apart at h
  have q := List.all_eq_true.mp h p (mutIx_mem hm h1)
  rw [beq_iff_eq] at q
  rcases Nat.lt_or_gt_of_ne ne with l | l
  · have := atIx_count2 l h1 h2; omega
  · have := atIx_count2 l h2 h1; omega
theorem apart_ok (S : SOk Z N F H σ e) {ms : List Md} {rs : List RV} {vs : List V} {ds : List D} (hl : Helds Z F σ vs rs) (q : argD ms rs e = some ds) (ap : apart ms rs = true) : ApartV Z F ms vs ds := by
  intro i j a m d ne hi hj hd lv
  have A := args_ok S hl q
  unfold mAt at hi
  cases q1 : ms[i]? with
  | none => rw [q1] at hi; cases hi
  | some mi =>
    cases q2 : vs[i]? with
    | none => rw [q1, q2] at hi; cases mi <;> cases hi
    | some vi =>
      rw [q1, q2] at hi
      cases mi <;> cases vi <;> cases hi
      have li : i < ds.length := by rw [A.lens.2]; exact (List.getElem?_eq_some_iff.mp q1).1
      obtain ⟨ri, g1, g2⟩ := held_at hl q2
      obtain ⟨p, e1, ho, hv⟩ := argD_at q q1 g1 (List.getElem?_eq_getElem li)
      subst e1
      have g2' : σ[p]? = some (some (.ref a)) := g2
      have np : S3.slot e p ≠ .no := fun z => by rw [z] at ho; cases ho
      have gp := slot_get rfl np
      have lp : Live Z F ((σ[p]?).join) (S3.slot e p) a := by
        rw [g2']
        cases q5 : S3.slot e p <;> rw [q5] at ho <;> first | rfl | cases ho
      obtain ⟨vj, hvj, _⟩ := A.at hj hd
      rw [hvj] at lv
      obtain ⟨rj, k1, k2⟩ := held_at hl hvj
      have kd := argD_at q hj k1 hd
      have atj : ∀ p2, rj = .at p2 → vj = .ref a → (∀ x, S3.slot e p2 = .fz x → x = d) → (∀ x, S3.slot e p2 = .bo x → x = d) → ¬ Rp Z F (.ref a) d ∨ (S3.slot e p2).own = true → False := by
        intro p2 e2 e3 z1 z3 z2
        subst e2 e3
        have k2' : σ[p2]? = some (some (.ref a)) := k2
        by_cases pp : p = p2
        · subst pp; exact apart_no ap q1 g1 k1 ne
        · cases q6 : S3.slot e p2 with
          | no =>
            cases m with
            | v => cases kd
            | r => have kd' : (S3.slot e p2).val = some d := kd; rw [q6] at kd'; cases kd'
            | m => obtain ⟨_, e5, o5, _⟩ := kd; cases e5; rw [q6] at o5; cases o5
          | fz x =>
            have e7 := z1 x q6
            subst e7
            obtain ⟨o, h1, w, rfl, r⟩ := S.slot p2 _ (slot_get q6 (by intro z; cases z))
            rw [k2'] at h1
            cases h1
            rcases z2 with z2 | z2
            · exact z2 r
            · rw [q6] at z2; cases z2
          | bo x =>
            have e7 := z3 x q6
            subst e7
            rcases z2 with z2 | z2
            · exact S.sep p p2 _ _ a gp (slot_get q6 (by intro z; cases z)) pp ho lp (by rw [k2']; exact ⟨rfl, z2⟩)
            · rw [q6] at z2; cases z2
          | ow x => exact S.sep p p2 _ _ a gp (slot_get q6 (by intro z; cases z)) pp ho lp (by rw [k2']; rfl)
          | mu x => exact S.sep p p2 _ _ a gp (slot_get q6 (by intro z; cases z)) pp ho lp (by rw [k2']; rfl)
      cases m with
      | v => exact lv
      | r =>
        obtain ⟨e3, nr⟩ := lv
        cases e3
        cases rj with
        | fz x => cases kd; exact nr k2
        | nw x => cases kd; exact nr k2
        | «at» p2 =>
          have kd' : (S3.slot e p2).val = some d := kd
          exact atj p2 rfl rfl (fun x hx => by rw [hx] at kd'; exact Option.some.inj kd') (fun x hx => by rw [hx] at kd'; exact Option.some.inj kd') (.inl nr)
      | m =>
        have e3 : some vj = some (.ref a) := lv
        cases e3
        obtain ⟨p2, e5, o5, v5⟩ := kd
        subst e5
        exact atj p2 rfl rfl (fun x hx => by rw [hx] at o5; cases o5) (fun x hx => by rw [hx] at o5; cases o5) (.inr o5)

/-! the slots behind the call -/
/-- what has become of the slots: as they were, or (at is) another object's tree -/
def Wb (Z : Wd) (F H : Hp) (σ : St) (is : List Nat) (e e2 : Env) : Prop := e2.length = e.length ∧ ∀ j s2, e2[j]? = some s2 →
  ∃ s, e[j]? = some s ∧ ((j ∉ is ∧ s2 = s) ∨ (j ∈ is ∧ s.own = true ∧ ∃ a d', σ[j]? = some (some (.ref a)) ∧ s2 = reown s d' ∧ Top Z F H a d'))
theorem wb_ok : ∀ {is : List Nat} {ds : List D} {e e2 : Env}, wback is ds e = some e2 → is.Nodup →
    (∀ (k i : Nat) (d : D), is[k]? = some i → ds[k]? = some d → ∃ a, σ[i]? = some (some (V.ref a)) ∧ Top Z F H a d) → Wb Z F H σ is e e2
  | [], [], e, _, h, _, _ => by
    simp only [wback] at h
    cases h
    exact ⟨rfl, fun j s h => ⟨s, h, .inl ⟨by simp, rfl⟩⟩⟩
  | [], _ :: _, _, _, h, _, _ => by simp only [wback] at h; cases h
  | _ :: _, [], _, _, h, _, _ => by simp only [wback] at h; cases h
  | i :: is, d :: ds, e, e2, h, nd, ht => by
    obtain ⟨n1, n2⟩ := List.nodup_cons.mp nd
    obtain ⟨a, g1, g2⟩ := ht 0 i d rfl rfl
    have step : (S3.slot e i).own = true ∧ wback is ds (e.set i (reown (S3.slot e i) d)) = some e2 := by
      simp only [wback] at h
      cases q : S3.slot e i <;> rw [q] at h <;> dsimp only at h <;> first | exact ⟨rfl, h⟩ | cases h
    obtain ⟨o1, h1⟩ := step
    have ih := wb_ok h1 n2 fun k i' d' k1 k2 => ht (k + 1) i' d' (by simpa using k1) (by simpa using k2)
    have np : S3.slot e i ≠ .no := fun z => by rw [z] at o1; cases o1
    have gp := slot_get rfl np
    refine ⟨by rw [ih.1, List.length_set], fun j s2 hj => ?_⟩
    obtain ⟨s, k1, k2⟩ := ih.2 j s2 hj
    rcases get_set k1 with ⟨rfl, rfl, l⟩ | ⟨ne, k1'⟩
    · rcases k2 with ⟨_, rfl⟩ | ⟨m, _⟩
      · exact ⟨_, gp, .inr ⟨List.mem_cons_self, o1, a, d, g1, rfl, g2⟩⟩
      · exact (n1 m).elim
    · refine ⟨s, k1', ?_⟩
      rcases k2 with ⟨m, rfl⟩ | ⟨m, r⟩
      · exact .inl ⟨fun z => (List.mem_cons.mp z).elim (fun z => ne z.symm) m, rfl⟩
      · exact .inr ⟨List.mem_cons_of_mem _ m, r⟩
theorem reown_own {s : Sl} {d : D} (h : s.own = true) : (reown s d).own = true := by cases s <;> first | rfl | cases h
theorem live_reown {s : Sl} {d : D} {o : Option V} {a : Addr} (h : s.own = true) : Live Z F o (reown s d) a ↔ Live Z F o s a := by
  cases s <;> first | exact Iff.rfl | cases h
/-- the frame's state behind a call -/
theorem SOk.called (S : SOk Z N F H σ e) {M : List Addr} {is : List Nat} (g : CGr F H M F' H') (hM : ∀ a, a ∈ M → ∃ i s, i ∈ is ∧ e[i]? = some s ∧ s.own = true ∧ σ[i]? = some (some (.ref a)))
    (wb : Wb Z F' H' σ is e e') : SOk Z N F' H' σ e' where
  le := g.le
  f0 := S.f0.trans g.f
  h0 := fun b o h m => g.h b o (S.h0 b o h m) fun hb => by
    obtain ⟨i, s, _, h1, h2, h3⟩ := hM b hb
    obtain ⟨ov, k1, k2⟩ := S.slot i s h1
    rw [h3] at k1
    cases k1
    cases s <;> try (cases h2; done)
    · obtain ⟨c, e1, _, n, _⟩ := k2; cases e1; rw [n] at h; cases h
    · obtain ⟨c, e1, _, n, _⟩ := k2; cases e1; exact m n
  nf := fun b o h nt n => by
    by_cases m : b ∈ N.M
    · obtain ⟨x, ⟨u, y, ny⟩, z⟩ := S.mh b m
      exact g.nf b u y ny x
    · exact g.nf b o (S.h0 b o h m) nt (S.nf b o h nt n)
  len := by rw [S.len, wb.1]
  slot := fun j s2 hj => by
    obtain ⟨s, h1, h2⟩ := wb.2 j s2 hj
    obtain ⟨o, k1, k2⟩ := S.slot j s h1
    refine ⟨o, k1, ?_⟩
    rcases h2 with ⟨nj, rfl⟩ | ⟨mj, ho, a, d', g1, rfl, t⟩
    · have kp : ∀ a, Live Z F o s2 a → ∀ u, H a = some u → H' a = some u := fun a l u hu => g.h a u hu fun hb => by
        obtain ⟨i, s, hi, h1', h2', h3'⟩ := hM a hb
        have ne : i ≠ j := fun z => nj (z ▸ hi)
        exact S.sep i j s s2 a h1' h1 ne h2' (by rw [h3']; cases s <;> first | rfl | cases h2') (by rw [k1]; exact l)
      cases s2 with
      | no => trivial
      | fz d => obtain ⟨v, e, r⟩ := k2; exact ⟨v, e, r.mono g.f⟩
      | ow d => obtain ⟨a, e, x, y, t⟩ := k2; obtain ⟨u, hu, nt⟩ := t.thereN; exact ⟨a, e, g.nf _ _ hu nt x, y, t.keep g.f (kp a (by rw [e]; rfl))⟩
      | mu d => obtain ⟨a, e, x, y, t⟩ := k2; obtain ⟨u, hu, nt⟩ := t.thereN; exact ⟨a, e, g.nf _ _ hu nt x, y, t.keep g.f (kp a (by rw [e]; rfl))⟩
      | bo d =>
        obtain ⟨v, e, r⟩ := k2
        by_cases rr : Rp Z F v d
        · exact ⟨v, e, .inl (rr.mono g.f)⟩
        · rcases r with r | ⟨a, rfl, x, y, z, t⟩
          · exact (rr r).elim
          · obtain ⟨u, hu, nt⟩ := t.thereN
            exact ⟨_, e, .inr ⟨a, rfl, g.nf _ _ hu nt x, y, z, t.keep g.f (kp a (by rw [e]; exact ⟨rfl, rr⟩))⟩⟩
    · rw [k1] at g1
      cases g1
      cases s <;> try (cases ho; done)
      · obtain ⟨c, e1, x, y, t0⟩ := k2; cases e1; obtain ⟨u, hu, nt⟩ := t0.thereN; exact ⟨a, rfl, g.nf _ _ hu nt x, y, t⟩
      · obtain ⟨c, e1, x, y, t0⟩ := k2; cases e1; obtain ⟨u, hu, nt⟩ := t0.thereN; exact ⟨a, rfl, g.nf _ _ hu nt x, y, t⟩
  sep := fun i j s2 t2 a h1 h2 ne o l1 l2 => by
    obtain ⟨s, g1, g2⟩ := wb.2 i s2 h1
    obtain ⟨t, g3, g4⟩ := wb.2 j t2 h2
    have ho : s.own = true := by
      rcases g2 with ⟨_, rfl⟩ | ⟨_, ho, _⟩
      · exact o
      · exact ho
    have k1 : Live Z F ((σ[i]?).join) s a := by
      rcases g2 with ⟨_, rfl⟩ | ⟨_, ho, _, d', _, rfl, _⟩
      · exact l1.mono g.f
      · exact ((live_reown ho).mp l1).mono g.f
    have k2 : Live Z F ((σ[j]?).join) t a := by
      rcases g4 with ⟨_, rfl⟩ | ⟨_, ho, _, d', _, rfl, _⟩
      · exact l2.mono g.f
      · exact ((live_reown ho).mp l2).mono g.f
    exact S.sep i j s t a g1 g3 ne ho k1 k2
  mh := fun a m => by
    obtain ⟨x, ⟨u, y, ny⟩, z⟩ := S.mh a m
    refine ⟨g.nf a u y ny x, ?_, z⟩
    by_cases hb : a ∈ M
    · obtain ⟨i, s, hi, h1', h2', h3'⟩ := hM a hb
      have il : i < e'.length := by rw [wb.1]; exact (List.getElem?_eq_some_iff.mp h1').1
      obtain ⟨s', k1, k2⟩ := wb.2 i _ (List.getElem?_eq_getElem il)
      rcases k2 with ⟨ni, _⟩ | ⟨_, _, a', d', e1, _, t⟩
      · exact (ni hi).elim
      · rw [h3'] at e1; cases e1; exact t.thereN
    · exact ⟨u, g.h a u y hb, ny⟩
  mus := fun i d h => by
    obtain ⟨s, g1, g2⟩ := wb.2 i _ h
    rcases g2 with ⟨_, rfl⟩ | ⟨_, ho, a, d', _, e1, _⟩
    · exact S.mus i d g1
    · cases s with
      | no => cases ho
      | fz d => cases ho
      | bo d => cases ho
      | ow d => simp only [reown] at e1; cases e1
      | mu d => exact S.mus i _ g1
theorem outs_at : ∀ {ms : List Md} {rs : List RV} {vs : List V} {outs : List D}, Helds Z F σ vs rs → OutsOk Z F' H' ms vs outs → argD ms rs e = some ds →
    ∀ (k i : Nat) (d : D), (mutIx ms rs)[k]? = some i → outs[k]? = some d → ∃ a, σ[i]? = some (some (V.ref a)) ∧ Top Z F' H' a d := by
  intro ms
  induction ms generalizing ds with
  | nil => intro rs vs outs _ _ _ k i d h; simp [mutIx] at h
  | cons m ms ih =>
    intro rs vs outs hl ho q k i d h1 h2
    cases hl with
    | nil => cases m <;> simp [mutIx] at h1
    | @cons v vs r rs a hl =>
      have tail : ∃ ds', argD ms rs e = some ds' := by
        cases m with
        | v =>
          cases r <;> simp only [argD] at q <;> try (cases q; done)
          rw [Option.map_eq_some_iff] at q
          obtain ⟨ds', q1, _⟩ := q
          exact ⟨_, q1⟩
        | r =>
          simp only [argD] at q
          cases d1 : S3.rd r e with
          | none => rw [d1] at q; cases q
          | some d =>
            rw [d1] at q
            dsimp only at q
            rw [Option.map_eq_some_iff] at q
            obtain ⟨ds', q1, _⟩ := q
            exact ⟨_, q1⟩
        | m =>
          cases r <;> simp only [argD] at q <;> try (cases q; done)
          rename_i i
          cases d1 : S3.slot e i <;> rw [d1] at q <;> dsimp only at q <;> try (cases q; done)
          all_goals
            rw [Option.map_eq_some_iff] at q
            obtain ⟨ds', q1, _⟩ := q
            exact ⟨_, q1⟩
      obtain ⟨ds', q1⟩ := tail
      cases ho with
      | v ho => cases r <;> exact ih hl ho q1 k i d h1 h2
      | r ho => cases r <;> exact ih hl ho q1 k i d h1 h2
      | m t ho =>
        cases r <;> simp only [argD] at q <;> try (cases q; done)
        cases k with
        | zero => simp [mutIx] at h1 h2; subst h1 h2; exact ⟨_, a, t⟩
        | succ k => exact ih hl ho q1 k i d (by simpa [mutIx] using h1) (by simpa using h2)
theorem mset_at : ∀ {ms : List Md} {rs : List RV} {vs : List V} {ds : List D} {a : Addr}, Helds Z F σ vs rs → argD ms rs e = some ds → a ∈ mSet ms vs →
    ∃ i s, i ∈ mutIx ms rs ∧ e[i]? = some s ∧ s.own = true ∧ σ[i]? = some (some (.ref a)) := by
  intro ms rs vs ds a hl q h
  obtain ⟨j, hj⟩ := mem_mSet.mp h
  unfold mAt at hj
  cases q1 : ms[j]? with
  | none => rw [q1] at hj; cases hj
  | some mj =>
    cases q2 : vs[j]? with
    | none => rw [q1, q2] at hj; cases mj <;> cases hj
    | some vj =>
      rw [q1, q2] at hj
      cases mj <;> cases vj <;> cases hj
      obtain ⟨rj, g1, g2⟩ := held_at hl q2
      have len : ∀ {ms : List Md} {rs : List RV} {ds : List D}, argD ms rs e = some ds → ds.length = ms.length := by
        intro ms
        induction ms with
        | nil => intro rs ds q; cases rs <;> simp only [argD] at q <;> cases q; rfl
        | cons m ms ih =>
          intro rs ds q
          cases rs with
          | nil => cases m <;> simp only [argD] at q <;> cases q
          | cons r rs =>
            cases m with
            | v =>
              cases r <;> simp only [argD] at q <;> try (cases q; done)
              rw [Option.map_eq_some_iff] at q
              obtain ⟨ds', q1, rfl⟩ := q
              exact congrArg Nat.succ (ih q1)
            | r =>
              simp only [argD] at q
              cases d1 : S3.rd r e with
              | none => rw [d1] at q; cases q
              | some d =>
                rw [d1] at q
                dsimp only at q
                rw [Option.map_eq_some_iff] at q
                obtain ⟨ds', q1, rfl⟩ := q
                exact congrArg Nat.succ (ih q1)
            | m =>
              cases r <;> simp only [argD] at q <;> try (cases q; done)
              rename_i i
              cases d1 : S3.slot e i <;> rw [d1] at q <;> dsimp only at q <;> try (cases q; done)
              all_goals
                rw [Option.map_eq_some_iff] at q
                obtain ⟨ds', q1, rfl⟩ := q
                exact congrArg Nat.succ (ih q1)
      have lj : j < ds.length := by rw [len q]; exact (List.getElem?_eq_some_iff.mp q1).1
      obtain ⟨p, e1, ho, _⟩ := argD_at q q1 g1 (List.getElem?_eq_getElem lj)
      subst e1
      have np : S3.slot e p ≠ .no := fun z => by rw [z] at ho; cases ho
      exact ⟨p, _, mutIx_mem q1 g1, slot_get rfl np, ho, g2⟩
theorem mut_nodup : ∀ {ms : List Md} {rs : List RV}, apart ms rs = true → (mutIx ms rs).Nodup := by
  intro ms rs h
  have all : ∀ p ∈ mutIx ms rs, (atIx rs).count p = 1 := fun p hp => by
    unfold apart at h
    have q := List.all_eq_true.mp h p hp
    rwa [beq_iff_eq] at q
  clear h
  have le : ∀ (ms : List Md) (rs : List RV) (p : Nat), (mutIx ms rs).count p ≤ (atIx rs).count p := by
    intro ms
    induction ms with
    | nil => intro rs p; simp [mutIx]
    | cons m ms ih =>
      intro rs p
      cases rs with
      | nil => cases m <;> simp [mutIx]
      | cons r rs =>
        have := ih rs p
        cases m <;> cases r <;> simp only [mutIx, atIx, List.count_cons] <;> omega
  rw [List.nodup_iff_count]
  intro p
  by_cases hp : p ∈ mutIx ms rs
  · have := le ms rs p
    rw [all p hp] at this
    exact this
  · rw [List.count_eq_zero_of_not_mem hp]
    exact Nat.zero_le _
/-- THE CALL -/
theorem call_rd {ms : List Md} {phi : List D → RC} {a : AV} {Q : VK} (h : tEv Z W (eCall phi ms a) σ H Q) : tAv Z W a σ H fun vs H1 => spOf Z ms phi (vs ++ []) H1 Q (WE W σ) := by
  obtain ⟨N, F, e, S, P⟩ := h
  unfold eCall at P
  refine ⟨N, F, e, S, ?_⟩
  cases q : a e with
  | no => rw [q] at P; exact P
  | ex z e1 => rw [q] at P; exact P
  | ok rs e1 =>
    rw [q] at P
    dsimp only at P
    intro vs F1 H1 f1 S1 hl
    rw [List.append_nil]
    cases q1 : argD ms rs e1 with
    | none => rw [q1] at P; exact P.elim
    | some ds =>
      rw [q1] at P
      dsimp only at P
      split at P
      · rename_i ap
        refine ⟨F1, ds, S1.le, args_ok S1 hl q1, apart_ok S1 hl q1 ap, ?_⟩
        have P1 := PostE.shift P f1
        have after : ∀ {F' H' : Hp} {outs : List D} {e2 : Env}, CGr F1 H1 (mSet ms vs) F' H' → OutsOk Z F' H' ms vs outs → wback (mutIx ms rs) outs e1 = some e2 → SOk Z N F' H' σ e2 :=
          fun {F' H' outs e2} g ho w => S1.called g (fun a ha => mset_at hl q1 ha) (wb_ok w (mut_nodup ap) (outs_at hl ho q1))
        cases q2 : phi ds with
        | no => rw [q2] at P1; exact P1
        | ok n d outs =>
          rw [q2] at P1
          dsimp only at P1
          intro v F' H' g ho r
          cases q3 : wback (mutIx ms rs) outs e1 with
          | none => rw [q3] at P1; exact P1.elim
          | some e2 =>
            rw [q3] at P1
            have S2 := after g ho q3
            refine P1 v F' H' g.f S2 ?_
            unfold ResOk at r
            cases n with
            | false => rw [if_neg Bool.false_ne_true] at r; exact r
            | true =>
              rw [if_pos rfl] at r
              obtain ⟨b, rfl, hb, fb, t⟩ := r
              refine ⟨b, rfl, fb, S1.nohave hb, t, fun j s hj l => ?_⟩
              obtain ⟨s0, k1, k2⟩ := (wb_ok q3 (mut_nodup ap) (outs_at hl ho q1)).2 j s hj
              have l0 : Live Z F1 ((σ[j]?).join) s0 b := by
                rcases k2 with ⟨_, rfl⟩ | ⟨_, ho', _, d', _, rfl, _⟩
                · exact l.mono g.f
                · exact ((live_reown ho').mp l).mono g.f
              obtain ⟨_, u, hu⟩ := S1.live k1 l0
              rw [hb] at hu; cases hu
        | ex x outs =>
          rw [q2] at P1
          dsimp only at P1
          intro cls dd F' H' g ho r
          cases q3 : wback (mutIx ms rs) outs e1 with
          | none => rw [q3] at P1; exact P1.elim
          | some e2 =>
            rw [q3] at P1
            exact P1 cls dd F' H' g.f (after g ho q3) r
      · exact P.elim
end
section
variable {ca : Str → Option Addr} {W : WX} {X : Cx} {a : Expr} {es : List Expr} {ga : AV} {pos p : Pos}
/-- a def of the module, as the module's code may call it -/
structure FnT (ca : Str → Option Addr) (P : Program) (w : World) (K : PySem.W.Frag) (mg : Str → Option Value) (base : Heap) (k : Nat) (n : Str) (ms : List Md) (phi : List D → RC) : Prop where
  ex : ∃ (f : Addr) (fd : FuncData) (ps : List Str), FnOk P w K mg base (L2.CX P w) (2 * k) f fd ps (spOf ⟨P, w, K, ca⟩ ms phi) ∧ mg n = some (.ref f) ∧ PySem.W.keepIn K (.ref f) = true ∧ Binds K fd ps []
theorem ev_call {n : Str} {k : Nat} {ms : List Md} {phi : List D → RC} (G : FnT ca X.prog X.w X.K X.mg X.base k n ms phi) (hr : Room (2 * k + 1) X.A) (tk : Takes X W) (ha : Av ca W X (a :: es) ga) (hg : Gl X n := by rfl) (hdb : (n == ("__debug__" : Str)) = false := by decide)
    (he : starEach (a :: es) X.env = (false, eval a X.env) :: starEach es X.env := by rfl) (hpl : (backTo pos (starEach es X.env)).any (·.1) = false := by rfl) : Ev ca W X (.Call (.Name n p) (a :: es) [] pos) (eCall phi ms ga) := by
  obtain ⟨f, fd, ps, G, hm, hk, hb⟩ := G.ex
  exact PE_imp (pe_callSD G (hr.mono (Nat.le_succ _)) hg hm hk hb .nil (fun σ => passAt tk σ) ha hdb he hpl) fun _ _ _ => call_rd
open PySem.Spec PyProof.Rows in
theorem ev_call0 {n : Str} {k : Nat} {phi : List D → RC} (G : FnT ca X.prog X.w X.K X.mg X.base k n [] phi) (hr : Room (2 * k + 1) X.A) (tk : Takes X W) (hg : Gl X n := by rfl) (hdb : (n == ("__debug__" : Str)) = false := by decide) : Ev ca W X (.Call (.Name n p) [] [] pos) (eCall phi [] aNil) := by
  obtain ⟨f, fd, ps, G, hm, hk, hb⟩ := G.ex
  refine ⟨fun pins s σ H Q I h => ?_⟩
  refine wpAny_Call_Name_kw (ld_glob I hg hm ?_ hdb)
  exact PySem.W.callWith_K0 I.kIn hk (run_fnSD (us := []) G (hr.mono (Nat.le_succ _)) hb .nil (passAt tk σ) I .nil (tAv_nil (call_rd h)))
end
end S3

/-! C3: chains, names from a tuple; the depth of calls; the law's end. -/
namespace S3
open PySem L2
/-- a o b o' c -/
def eChain (o o' : D → D → Option RV) (f g h : EV) : EV := eBind f fun r => eBind g fun q e => match rd r e, rd q e with
  | some x, some y => (match o x y with
    | some (.fz (.bl true)) => eBind h (fun p e => match rd q e, rd p e with
      | some y, some z => ofOp (o' y z) e
      | _, _ => .no) e
    | some (.fz (.bl false)) => .ok (.fz (.bl false)) e
    | _ => .no)
  | _, _ => .no
section
variable {Z : Wd} {F F' H H' : Hp} {N : En} {σ : St} {e e' : Env} {v x y : V} {W : WX} {E : Ends}
theorem chain_rd {r r' : V → V → Hp → VK → Prop} {o o' : D → D → Option RV} (hs : Sound2 Z r o) (hs' : Sound2 Z r' o') {fa fb fc : EV} {Q : VK} (h : tEv Z W (eChain o o' fa fb fc) σ H Q) :
    tChain r r' (tEv Z W fa) (tEv Z W fb) (tEv Z W fc) σ H Q := by
  obtain ⟨N, F, e, S, P⟩ := h
  refine bindL S P fun x F1 H1 e1 ra f1 S1 R1 P1 => ?_
  obtain ⟨F2, f2, S2, h2⟩ := RvOk.hold S1 R1
  refine bindL S2 (PostE.shift P1 f2) fun y F3 H3 e3 rb f3 T3 R3 P3 => ?_
  obtain ⟨F4, f4, S4, h4⟩ := RvOk.hold T3 R3
  have P4 := PostE.shift P3 f4
  have g2 := (h2.mono f3).mono f4
  cases d1 : S3.rd ra e3 with
  | none => rw [d1] at P4; exact P4.elim
  | some dx =>
    cases d2 : S3.rd rb e3 with
    | none => rw [d1, d2] at P4; exact P4.elim
    | some dy =>
      rw [d1, d2] at P4
      dsimp only at P4
      cases d3 : o dx dy with
      | none => rw [d3] at P4; exact P4.elim
      | some rr =>
        rw [d3] at P4
        have fin : ∀ b : Bool, rr = .fz (.bl b) → (if b = true then PostE Z N F4 σ W Q (eBind fc (fun p e => match S3.rd rb e, S3.rd p e with | some y, some z => ofOp (o' y z) e | _, _ => .no) e3) else PostE Z N F4 σ W Q (.ok (.fz (.bl false)) e3)) →
            r x y H3 fun z H4 => ∃ k, z = .bl k ∧ (if k = true then tEv Z W fc σ H4 fun w' H5 => r' y w' H5 Q else Q (.bl false) H4) := by
          rintro b rfl P5
          refine hs F4 H3 x y dx dy _ _ S4.le (g2.rd S4 d1) (h4.rd S4 d2) d3 fun v F' H' g n => ?_
          have T5 : SOk Z N F' H' σ e3 := S4.gr g
          have n' : Rp Z F' v (.bl b) := n
          refine ⟨b, RdV.bl (H := H') (.inl n'), ?_⟩
          cases b with
          | false =>
            rw [if_neg Bool.false_ne_true] at P5 ⊢
            exact P5 _ F' H' g.f T5 (.bl false)
          | true =>
            rw [if_pos rfl] at P5 ⊢
            have h5 := h4.mono g.f
            refine bindL T5 (PostE.shift P5 g.f) fun z F6 H6 e6 rc f6 T6 R6 P6 => ?_
            obtain ⟨F7, f7, S7, h7⟩ := RvOk.hold T6 R6
            have P7 := PostE.shift P6 f7
            have g5 := (h5.mono f6).mono f7
            cases d5 : S3.rd rb e6 with
            | none => rw [d5] at P7; exact P7.elim
            | some dy2 =>
              cases d6 : S3.rd rc e6 with
              | none => rw [d5, d6] at P7; exact P7.elim
              | some dz =>
                rw [d5, d6] at P7
                dsimp only at P7
                cases d7 : o' dy2 dz with
                | none => rw [d7] at P7; exact P7.elim
                | some r7 =>
                  rw [d7] at P7
                  exact hs' F7 H6 y z dy2 dz r7 Q S7.le (g5.rd S7 d5) (h7.rd S7 d6) d7 (op_end S7 P7)
        cases rr with
        | fz d =>
          cases d with
          | bl b =>
            refine fin b rfl ?_
            cases b with
            | true => exact P4
            | false => exact P4
          | _ => exact P4.elim
        | _ => exact P4.elim
end
section
variable {ca : Str → Option Addr} {W : WX} {X : Cx} {a b c : Expr} {fa fb fc : EV} {pos p : Pos} {st : Stmt}
theorem ev_chain {op op' : CmpOp} {r r' : R2} {o o' : D → D → Option RV} (ho : OpR X (compareOp op) r) (hs : Sound2 (zw ca X) r o) (ho' : OpR X (compareOp op') r') (hs' : Sound2 (zw ca X) r' o') (ha : Ev ca W X a fa) (hb : Ev ca W X b fb) (hc : Ev ca W X c fc)
    (hm : lastMarks [op, op'] [b, c] = false := by with_unfolding_all rfl) : Ev ca W X (.Compare a [op, op'] [b, c] pos) (eChain o o' fa fb fc) := PE_imp (pe_chain ho ho' ha hb hc hm) fun _ _ _ => chain_rd hs hs'
theorem tv_chain {op op' : CmpOp} {r r' : R2} {o o' : D → D → Option RV} (ho : OpR X (compareOp op) r) (hs : Sound2 (zw ca X) r o) (ho' : OpR X (compareOp op') r') (hs' : Sound2 (zw ca X) r' o') (ha : Ev ca W X a fa) (hb : Ev ca W X b fb) (hc : Ev ca W X c fc)
    (hm : lastMarks [op, op'] [b, c] = false := by with_unfolding_all rfl) : Tv ca W X (.Compare a [op, op'] [b, c] pos) (tVal (eChain o o' fa fb fc)) := PT_imp (pt_chain ho ho' ha hb hc hm) fun _ _ Q h => by
  obtain h1 := test_val h
  have h2 := chain_rd hs hs' h1
  exact h2
theorem sv_unp {k n : Nat} {is : List Nat} {es : List Expr} {g : TGs} {p2 : Pos} (hc : X.calm = true) (h : Ev ca W X a fa) (hg : PGs X es g) (tk : TgsOk (zw ca X) g is) (hl : n = is.length := by rfl)
    (hn : (assignEach es X.env).length = n := by rfl) (hst : (assignEach es X.env).findIdx? (·.1) = none := by rfl) (hs : swapsWithSole [.Tuple es k p2] a pos.line X.env = pure false := by rfl) (hw : swappedStores [.Tuple es k p2] a X.env = pure none := by rfl)
    (h1 : (assignEach [.Tuple es k p2] X.env).map (·.2) = [assign (.Tuple es k p2) X.env] := by rfl) :
    Sv ca W X (.Assign [.Tuple es k p2] a pos) (sUnp is fa) := PS_imp (ps_asg h (pg_tup hc hg hn hst) hs hw h1) fun _ _ _ => st_unp (tg_tup tk hl rfl)
end
/-! ### in comprehensions nothing is raised -/
theorem takes0 {X : Cx} : Takes X W0 := fun u s' ⟨_, _, _, _, _, _, _, _, _, _, _, _, _, _, _, _, w⟩ => w.elim
section
variable {P : Program} {w : World} {K : PySem.W.Frag} {mg : Str → Option Value} {base : Heap} {ca : Str → Option Addr}
/-- at depth 0 nothing is promised -/
theorem FnT.zero {n : Str} {f : Addr} {fd : FuncData} {ps : List Str} {ms : List Md} {g : String} {tab : String → Option Def} (hf : mg n = some (.ref f)) (hk : PySem.W.keepIn K (.ref f) = true) (hb : Binds K fd ps []) : FnT ca P w K mg base 0 n ms (sem tab 0 g) :=
  ⟨f, fd, ps, ⟨fun vs H Q E ⟨_, _, _, _, _, z⟩ => z.elim, fun A outer s H args us vs Q E _ _ _ _ ⟨_, _, _, _, _, z⟩ => z.elim⟩, hf, hk, hb⟩
theorem FnT.succ {n : Str} {f : Addr} {fd : FuncData} {ps : List Str} {ms : List Md} {k : Nat} {g : String} {T : Def} {tab : String → Option Def} (h : FnOk P w K mg base (L2.CX P w) (2 * (k + 1)) f fd ps (spOf ⟨P, w, K, ca⟩ T.ms (T.run (sem tab k)))) (hf : mg n = some (.ref f)) (hk : PySem.W.keepIn K (.ref f) = true)
    (hb : Binds K fd ps []) (ht : tab g = some T) (hm : T.ms = ms := by rfl) : FnT ca P w K mg base (k + 1) n ms (sem tab (k + 1) g) := by
  refine ⟨f, fd, ps, ?_, hf, hk, hb⟩
  subst hm
  have e : sem tab (k + 1) g = T.run (sem tab k) := by funext ds; simp only [sem, ht]
  rw [e]
  exact h
end

/-! ### the law's end -/
theorem u65 {k : Nat} {A : PySem.Around} (hr : Room k A) : A.units + 65 < PySem.cLine := by have := hr.un; omega
theorem law_end {Z : Wd} {phi : List D → RC} {H : Hp} {a : Addr} {ns : List Int} (hS : SqL Z.K H a (ns.map V.int)) (sol : phi [.scr (ns.map .int)] = .ok false (.bl true) []) : spOf Z [.v] phi [.ref a] H (fun v _ => v = .bl true) fun _ _ _ => False := by
  refine ⟨H, [.scr (ns.map .int)], Same.refl _, .v (.scr hS ?_) .nil, fun i j a m d _ hi => ?_, ?_⟩
  · clear sol hS
    induction ns with
    | nil => exact .nil
    | cons n ns ih => exact .cons (.int n) ih
  · unfold mAt at hi
    cases i with
    | zero => cases hi
    | succ i => cases hi
  · rw [sol]
    intro v F' H' g o r
    unfold ResOk at r
    rw [if_neg Bool.false_ne_true] at r
    exact RdV.bl (H := H') (.inl r)
theorem law_CX {P : Program} (w : World) (H : Hp) (s : Shared) (e : Value) (s' : Shared) (h : L2.CX P w [] H s (fun _ _ _ => False) e s') : False := by
  obtain ⟨_, _, _, _, _, _, _, _, _, _, _, _, z⟩ := h
  exact z
theorem call_strA {X : Cx} : CallR X (.type "str") (fun xs H Q => (∃ a, xs = [V.str a] ∧ Q (.str a) H) ∨ ∃ i, xs = [V.int i] ∧ i.natAbs.log2 < 1920 ∧ Q (.str (toString i)) H) := CallR.or SkE.call_str_str call_str_int
end S3

/-! C4: more of the language: reversed, starred, dicts. -/
namespace S3
open PySem L2
/-! ### terms -/
def seqI : D → Option (List D)
  | .lst xs => some xs
  | .tup xs => some xs
  | _ => none
/-- *f, .. in a display -/
def aStar (f : EV) (g : AV) : AV := fun e => match f e with
  | .ok r e1 => (match (rd r e1).bind seqI with
    | some xs => (match g e1 with
      | .ok rs e2 => .ok (xs.map .fz ++ rs) e2
      | .ex x e2 => .ex x e2
      | .no => .no)
    | none => .no)
  | .ex x e1 => .ex x e1
  | .no => .no
/-- d.get(y, z) -/
def eGet2 (f g h : EV) : EV := eBind f fun r e1 => if ((rd r e1).map isDct).getD false then (eBind g fun q => eBind h fun p e3 => match rd r e3, rd q e3, stl p e3 with
  | some d, some y, some (z, e4) => (match dGet d y with
    | some (some v) => .ok (.fz v) e4
    | some none => .ok (.fz z) e4
    | none => .no)
  | _, _, _ => .no) e1 else .no
def mPutD (d y v : D) : Option D := match d, y with
  | .dk kvs, y => if kvs.length < BIG then (toKey y).map fun k => .dk (dPut kvs k v) else none
  | .dt kvs, .tup ys => if kvs.length < BIG then (toKeys ys).map fun k => .dt (dPut kvs k v) else none
  | _, _ => none
/-- d[g] = f, d at slot i -/
def sPut (i : Nat) (f g : EV) : SV := sE f fun r e => match stl r e with
  | some (v, e1) => if mine isDct (slot e1 i) then (sE g fun q e2 => match rd q e2 with
    | some y => if mine isDct (slot e2 i) then (match (slot e2 i).val with
      | some d => (match mPutD d y v with
        | some d' => .nx (e2.set i (reown (slot e2 i) d'))
        | none => .no)
      | none => .no) else .no
    | none => .no) e1 else .no
  | none => .no
def eNewK : EV := fun e => .ok (.nw (.dk [])) e
def eNewT : EV := fun e => .ok (.nw (.dt [])) e
/-- {k: v} -/
def mkD1 : List D → Option RV
  | [k, v] => (toKey k).map fun k => .nw (.dk [(k, v)])
  | _ => none
def eD1 (f g : EV) : EV := fun e => match aKeep f (aKeep g aNil) (lock e) with
  | .ok rs _ => (match (fzs rs).bind mkD1 with
    | some r => .ok r e
    | none => .no)
  | _ => .no

section
variable {Z : Wd} {F F' H H' : Hp} {N : En} {σ : St} {e e' : Env} {v x y : V} {W : WX} {E : Ends}
theorem rpA_rev : ∀ {xs : List V} {ds : List D}, RpA Z F xs ds → RpA Z F xs.reverse ds.reverse
  | _, _, .nil => .nil
  | _, _, .cons h r => by rw [List.reverse_cons, List.reverse_cons]; exact (rpA_rev r).append (.cons h .nil)
theorem s_rev : Sound1 Z (fun x H Q => ∃ a xs, x = V.ref a ∧ SqL Z.K H a xs ∧ ∀ p, H p = none → Q (.ref p) (upd H p (.lst xs.reverse))) opRev := by
  intro F H x dx rr Q l hx ho q
  cases dx <;> simp only [opRev] at ho <;> cases ho
  obtain ⟨a, xs, rfl, ha, ra⟩ := hx.lst l
  refine ⟨a, xs, rfl, SqL.of ha, fin_lst l q ?_⟩
  exact rpA_rev ra
theorem helds_map : ∀ {xs : List V} {ds : List D}, RpA Z F xs ds → Helds Z F σ xs (ds.map .fz)
  | _, _, .nil => .nil
  | _, _, .cons h r => .cons h (helds_map r)
theorem helds_app : ∀ {xs ys : List V} {rs qs : List RV}, Helds Z F σ xs rs → Helds Z F σ ys qs → Helds Z F σ (xs ++ ys) (rs ++ qs)
  | _, _, _, _, .nil, h => h
  | _, _, _, _, .cons a r, h => .cons a (helds_app r h)
theorem rpA_mono (f : Same F F') {xs : List V} {ds : List D} (h : RpA Z F xs ds) : RpA Z F' xs ds := h.mono f
theorem tAv_star {K : PySem.W.Frag} (hK : Z.K = K) {f : EV} {g : AV} {Q : List V → Hp → Prop} (h : tAv Z W (aStar f g) σ H Q) : StX.tStar K (tEv Z W f) (tAv Z W g) σ H Q := by
  obtain ⟨N, F, e, S, P⟩ := h
  unfold aStar at P
  refine ⟨N, F, e, S, ?_⟩
  cases q : f e with
  | no => rw [q] at P; exact P
  | ex z e1 => rw [q] at P; exact P
  | ok r e1 =>
    rw [q] at P
    dsimp only at P
    intro x F1 H1 f1 S1 R1
    obtain ⟨F2, f2, S2, h2⟩ := RvOk.hold S1 R1
    cases d1 : S3.rd r e1 with
    | none => rw [d1] at P; exact P.elim
    | some dx =>
      rw [d1] at P
      dsimp only [Option.bind] at P
      cases d2 : seqI dx with
      | none => rw [d2] at P; exact P.elim
      | some ds =>
        rw [d2] at P
        dsimp only at P
        have hx := h2.rd S2 d1
        obtain ⟨a, xs, ex, hq, ra⟩ : ∃ a xs, x = V.ref a ∧ (SqT K H1 a xs ∨ SqL K H1 a xs) ∧ RpA Z F2 xs ds := by
          cases dx <;> simp only [seqI] at d2 <;> cases d2
          · obtain ⟨a, xs, rfl, ha, ra⟩ := hx.lst S2.le; exact ⟨a, xs, rfl, .inr (SqL.of ha), ra⟩
          · obtain ⟨a, xs, rfl, ha, ra⟩ := hx.tup S2.le; exact ⟨a, xs, rfl, .inl (SqT.of ha), ra⟩
        refine ⟨a, xs, ex, hq, N, F2, e1, S2, ?_⟩
        cases q3 : g e1 with
        | no => rw [q3] at P; exact P
        | ex z e2 => rw [q3] at P; exact fun cls d F3 H3 f3 S3 x => P cls d F3 H3 ((f1.trans f2).trans f3) S3 x
        | ok rs e2 =>
          rw [q3] at P
          exact fun ys F3 H3 f3 S3 h3 => P (xs ++ ys) F3 H3 ((f1.trans f2).trans f3) S3 (helds_app (helds_map (ra.mono f3)) h3)
theorem isD_rd {d : D} (l : Same F H) (h : RdV Z F H x d) (k : isDct d = true) : ∃ a, x = .ref a ∧ IsD H a := by
  cases d <;> simp only [isDct] at k <;> try (cases k; done)
  · obtain ⟨a, xs, rfl, ha, _⟩ := h.dk l; exact ⟨a, rfl, .inl ⟨xs, ha⟩⟩
  · obtain ⟨a, xs, rfl, ha, _⟩ := h.dt l; exact ⟨a, rfl, .inr ⟨xs, ha⟩⟩
theorem get2_rd {f g h : EV} {Q : VK} (p : tEv Z W (eGet2 f g h) σ H Q) : tDGet2 (tEv Z W f) (tEv Z W g) (tEv Z W h) σ H Q := by
  obtain ⟨N, F, e, S, P⟩ := p
  refine bindL S P fun x F1 H1 e1 ra f1 S1 R1 P1 => ?_
  obtain ⟨F2, f2, S2, h2⟩ := RvOk.hold S1 R1
  have P2 := PostE.shift P1 f2
  cases d1 : S3.rd ra e1 with
  | none => rw [d1] at P2; exact P2.elim
  | some d0 =>
    rw [d1] at P2
    dsimp only [Option.map, Option.getD] at P2
    split at P2
    · rename_i hk
      obtain ⟨a, ex, hd⟩ := isD_rd S2.le (h2.rd S2 d1) hk
      refine ⟨a, ex, hd, ?_⟩
      subst ex
      refine bindL S2 P2 fun y F3 H3 e3 rb f3 T3 R3 P3 => ?_
      obtain ⟨F4, f4, S4, h4⟩ := RvOk.hold T3 R3
      refine bindL S4 (PostE.shift P3 f4) fun z F5 H5 e5 rc f5 S5 R5 P5 => ?_
      have g2 := ((h2.mono f3).mono f4).mono f5
      have g4 := h4.mono f5
      cases c1 : S3.rd ra e5 with
      | none => rw [c1] at P5; exact P5.elim
      | some dx =>
        cases c2 : S3.rd rb e5 with
        | none => rw [c1, c2] at P5; exact P5.elim
        | some dy =>
          cases c3 : S3.stl rc e5 with
          | none => rw [c1, c2, c3] at P5; exact P5.elim
          | some pr =>
            obtain ⟨dz, e6⟩ := pr
            rw [c1, c2, c3] at P5
            dsimp only at P5
            cases c4 : dGet dx dy with
            | none => rw [c4] at P5; exact P5.elim
            | some o =>
              rw [c4] at P5
              obtain ⟨a', r, ea, dg, hs, hv⟩ := dGet_rd S5.le (g2.rd S5 c1) (g4.rd S5 c2) c4
              cases ea
              obtain ⟨F6, f6, S6, r6⟩ := RvOk.stl S5 R5 c3
              refine ⟨r, dg, ?_⟩
              cases o with
              | none =>
                cases r with
                | some v => cases hs
                | none => exact P5 z F6 H5 f6 S6 r6
              | some d =>
                obtain ⟨v, rfl, rv⟩ := hv d rfl
                exact P5 v F6 H5 f6 S6 (rv.mono f6)
    · exact P2.elim
theorem newK_rd {Q : VK} (p : tEv Z W eNewK σ H Q) : tDNewK σ H Q := by
  obtain ⟨N, F, e, S, P⟩ := p
  intro a ha
  exact op_end S P (.ref a) F _ (Gr.lay S.le ha) ⟨a, rfl, ha, none_le S.le ha, (fun x hx => by cases hx), [], upd_same, .nil⟩
theorem newT_rd {Q : VK} (p : tEv Z W eNewT σ H Q) : tDNewT σ H Q := by
  obtain ⟨N, F, e, S, P⟩ := p
  intro a ha
  exact op_end S P (.ref a) F _ (Gr.lay S.le ha) ⟨a, rfl, ha, none_le S.le ha, (fun x hx => by cases hx), [], upd_same, .nil⟩
end
section
variable {Z : Wd} {F F' H H' : Hp} {N : En} {σ : St} {e e' : Env} {v x y : V} {W : WX} {E : Ends}
theorem RpP.put {κ : Type} [DecidableEq κ] (k : κ) {v : V} {d : D} {vs : List (κ × V)} {ds : List (κ × D)} (h : RpP Z F vs ds) (r : Rp Z F v d) : RpP Z F (putK vs k v) (dPut ds k d) := by
  have mp : ∀ {vs : List (κ × V)} {ds : List (κ × D)}, RpP Z F vs ds → RpP Z F (vs.map fun kv => if kv.1 = k then (kv.1, v) else kv) (ds.map fun kv => if kv.1 = k then (kv.1, d) else kv) := by
    intro vs ds h
    induction ds generalizing vs with
    | nil => cases h; exact .nil
    | cons d0 ds ih =>
      cases h with
      | @cons _ j w vs d1 ds h1 h2 =>
        rw [List.map_cons, List.map_cons]
        dsimp only
        by_cases c : j = k
        · rw [if_pos c, if_pos c]; exact .cons r (ih h2)
        · rw [if_neg c, if_neg c]; exact .cons h1 (ih h2)
  have ap : ∀ {vs : List (κ × V)} {ds : List (κ × D)}, RpP Z F vs ds → RpP Z F (vs ++ [(k, v)]) (ds ++ [(k, d)]) := by
    intro vs ds h
    induction ds generalizing vs with
    | nil => cases h; exact .cons r .nil
    | cons d0 ds ih =>
      cases h with
      | cons h1 h2 => exact .cons h1 (ih h2)
  unfold putK dPut
  rw [h.any k]
  by_cases c : (ds.any fun kv => decide (kv.1 = k)) = true
  · rw [if_pos c, if_pos c]; exact mp h
  · rw [if_neg c, if_neg c]; exact ap h
theorem toKey_okR {y : V} {dy : D} {k : Key} (hy : RdV Z F H y dy) (hk : toKey dy = some k) : kOk [k] := by
  intro x hx
  have hx := List.mem_singleton.mp hx
  subst hx
  cases dy <;> simp only [toKey] at hk <;> cases hk
  exact hy.str.2.2
theorem toKeys_okC : ∀ {ds : List D} {vs : List V} {ks : List Key}, RpA Z F vs ds → toKeys ds = some ks → kOk ks
  | [], _, _, .nil, h => by cases h; exact fun x hx => by cases hx
  | d :: ds, _, ks, .cons r ra, h => by
    simp only [toKeys] at h
    cases q1 : toKey d with
    | none => rw [q1] at h; cases h
    | some k =>
      cases q2 : toKeys ds with
      | none => rw [q1, q2] at h; cases h
      | some js =>
        rw [q1, q2] at h
        cases h
        intro x hx
        rcases List.mem_cons.mp hx with z | z
        · exact toKey_okR (H := F) (.inl r) q1 x (List.mem_singleton.mpr z)
        · exact toKeys_okC ra q2 x z
theorem dPut_keys {κ : Type} [DecidableEq κ] (k : κ) (d : D) (ds : List (κ × D)) : ∀ j ∈ (dPut ds k d).map (·.1), j = k ∨ j ∈ ds.map (·.1) := by
  intro j hj
  unfold dPut at hj
  split at hj
  · right
    obtain ⟨p, hp, e⟩ := List.mem_map.mp hj
    obtain ⟨p0, hp0, e0⟩ := List.mem_map.mp hp
    refine List.mem_map.mpr ⟨p0, hp0, ?_⟩
    rw [← e, ← e0]
    split <;> rfl
  · rw [List.map_append, List.mem_append] at hj
    rcases hj with z | z
    · exact .inr z
    · left; simpa using z
theorem kOk_put {ds : List (Key × D)} {k : Key} {d : D} (q : kOk (ds.map (·.1))) (h : kOk [k]) : kOk ((dPut ds k d).map (·.1)) := fun x hx => by
  rcases dPut_keys k d ds _ hx with z | z
  · exact h x (List.mem_singleton.mpr z)
  · exact q x z
theorem kOkT_put {ds : List (List Key × D)} {k : List Key} {d : D} (q : ∀ p ∈ ds, kOk p.1) (h : kOk k) : ∀ p ∈ dPut ds k d, kOk p.1 := fun p hp => by
  rcases dPut_keys k d ds p.1 (List.mem_map.mpr ⟨p, hp, rfl⟩) with z | z
  · rw [z]; exact h
  · obtain ⟨p0, h0, e⟩ := List.mem_map.mp z
    rw [← e]; exact q p0 h0
theorem mput_rd {a : Addr} {d dy dv d' : D} (t : Top Z F H a d) (hy : RdV Z F H y dy) (l : Same F H) (rv : Rp Z F v dv) (fa : F a = none) (h : mPutD d dy dv = some d') : ∃ H4 o, H4 = upd H a o ∧ DPut H a y v H4 ∧ Top Z F (upd H a o) a d' := by
  cases d <;> simp only [mPutD] at h <;> try (cases h; done)
  · rename_i kvs
    split at h
    · rename_i hz
      rw [Option.map_eq_some_iff] at h
      obtain ⟨k, hk, rfl⟩ := h
      obtain ⟨qk, xs, ha, r⟩ := t
      have kk : kOk [k] := toKey_okR hy hk
      rw [toKey_rd hy hk]
      exact ⟨_, _, rfl, DPut.k ha (by rw [sizeLine_eq, r.length]; exact hz), kOk_put qk kk, _, upd_same, r.put k rv⟩
    · cases h
  · rename_i kvs
    cases dy <;> simp only at h <;> try (cases h; done)
    rename_i ys
    split at h
    · rename_i hz
      rw [Option.map_eq_some_iff] at h
      obtain ⟨k, hk, rfl⟩ := h
      obtain ⟨qk, xs, ha, r⟩ := t
      obtain ⟨b, zs, rfl, hb, rb⟩ := hy.tup l
      have kk : kOk k := toKeys_okC rb hk
      rw [toKeys_rd rb hk] at hb
      exact ⟨_, _, rfl, DPut.t ha hb (by rw [sizeLine_eq, r.length]; exact hz), kOkT_put qk kk, _, upd_same, r.put k rv⟩
    · cases h
theorem put_rd {i : Nat} {f g : EV} (p : tSv Z W (sPut i f g) E σ H) : sDPut (tVar i) (tEv Z W g) (tEv Z W f) E σ H := by
  obtain ⟨N, F, e, S, P⟩ := p
  refine bindS S P fun v F1 H1 e1 r f1 S1 R1 P1 => ?_
  cases c1 : S3.stl r e1 with
  | none => rw [c1] at P1; exact P1.elim
  | some pr =>
    obtain ⟨dv, e2⟩ := pr
    rw [c1] at P1
    dsimp only at P1
    obtain ⟨F2, f2, S2, r2⟩ := RvOk.stl S1 R1 c1
    split at P1
    · rename_i hm
      obtain ⟨ho, d0, hd0, hk0⟩ := mine_own hm
      obtain ⟨a, h1, f0, t0, g0⟩ := own_at S2 rfl ho hd0
      refine ⟨.ref a, h1, ?_⟩
      refine bindS S2 (PostS.shift P1 f2) fun y F3 H3 e3 q f3 T3 R3 P3 => ?_
      obtain ⟨F4, f4, S4, h4⟩ := RvOk.hold T3 R3
      have P4 := PostS.shift P3 f4
      cases c2 : S3.rd q e3 with
      | none => rw [c2] at P4; exact P4.elim
      | some dy =>
        rw [c2] at P4
        dsimp only at P4
        split at P4
        · rename_i hm4
          obtain ⟨ho4, d4, hd4, hk4⟩ := mine_own hm4
          obtain ⟨a', h1', f0', t4, g4⟩ := own_at S4 rfl ho4 hd4
          rw [h1] at h1'
          cases h1'
          rw [hd4] at P4
          dsimp only at P4
          cases c3 : mPutD d4 dy dv with
          | none => rw [c3] at P4; exact P4.elim
          | some d' =>
            rw [c3] at P4
            obtain ⟨H4, o, rfl, dp, t'⟩ := mput_rd t4 (h4.rd S4 c2) S4.le (r2.mono (f3.trans f4)) f0' c3
            exact ⟨a, _, rfl, dp, P4 F4 _ σ (Same.refl _) (S4.write g4 ho4 h1 t')⟩
        · exact P4.elim
    · exact P1.elim
/-- a place that is nobody's, while other things are reckoned -/
theorem SOk.newLock (S : SOk Z N F H σ e) {p : Addr} {o : HO} (hp : H p = none) : SOk Z ⟨F, upd H p o, [], fun _ => none⟩ F (upd H p o) σ (lock e) := (S.gr (Gr.lay S.le hp)).lockd
theorem SOk.backNew (S : SOk Z N F H σ e) {p : Addr} {o : HO} (no : NT o) (hp : H p = none) (T : SOk Z ⟨F, upd H p o, [], fun _ => none⟩ F' H' σ e') :
    H' p = some o ∧ F' p = none ∧ ∃ Hm : Hp, SOk Z N F' Hm σ e ∧ Hm p = none ∧ ∀ x, upd H' p x = upd Hm p x := by
  have k1 : H' p = some o := T.h0 p _ upd_same (by simp)
  have k2 : F' p = none := T.nf p _ upd_same no (none_le S.le hp)
  refine ⟨k1, k2, fun b => if b = p then none else H' b, S.grow T.f0 (fun b x hb => ?_) (fun b x hb => ?_) (fun b u hb nt n => ?_), if_pos rfl, fun x => ?_⟩
  · have nb : b ≠ p := ne_of_none hb hp
    rw [if_neg nb]
    exact T.h0 b x (by show upd H p o b = some x; rw [upd_ne nb]; exact hb) (by simp)
  · have nb : b ≠ p := fun z => by subst z; rw [k2] at hb; cases hb
    rw [if_neg nb]
    exact T.le _ _ hb
  · have nb : b ≠ p := ne_of_none hb hp
    exact T.nf b u (by show upd H p o b = some u; rw [upd_ne nb]; exact hb) nt n
  · funext b
    show (if b = p then some x else H' b) = (if b = p then some x else (if b = p then none else H' b))
    by_cases z : b = p
    · rw [if_pos z, if_pos z]
    · rw [if_neg z, if_neg z, if_neg z]
theorem PostE.imp {Q Q' : VK} {r : RE} (h : PostE Z N F σ W Q r) (i : ∀ v H, Q v H → Q' v H) : PostE Z N F σ W Q' r := by
  cases r with
  | no => exact h
  | ok r e => exact fun v F' H' f S R => i _ _ (h v F' H' f S R)
  | ex x e => exact h
theorem tEv_imp {f : EV} {Q Q' : VK} (h : tEv Z W f σ H Q) (i : ∀ v H, Q v H → Q' v H) : tEv Z W f σ H Q' := by
  obtain ⟨N, F, e, S, P⟩ := h
  exact ⟨N, F, e, S, P.imp i⟩
theorem d1_rd {f g : EV} {Q : VK} (h : tEv Z W (eD1 f g) σ H Q) : tDisp [(tEv Z W f, tEv Z W g)] σ H Q := by
  obtain ⟨N, F, e, S, P⟩ := h
  unfold eD1 at P
  intro p hp
  have S0 := S.newLock (o := .dK []) hp
  have key : tAv Z W (aKeep f (aKeep g aNil)) σ (upd H p (.dK [])) fun vs H2 => ∃ x y, vs = [x, y] ∧ H2 p = some (.dK []) ∧ ∃ kvs : List (Key × V), [(x, y)] = kvs.map (fun kv => (kV kv.1, kv.2)) ∧ kvs.length ≤ 15 ∧ Q (.ref p) (upd H2 p (.dK (mergeK [] kvs))) := by
    refine ⟨_, F, lock e, S0, ?_⟩
    cases q : aKeep f (aKeep g aNil) (lock e) with
    | no => rw [q] at P; exact P
    | ex z e1 => rw [q] at P; exact P.elim
    | ok rs e1 =>
      rw [q] at P
      dsimp only at P
      intro vs F1 H1 f1 S1 hl
      cases q1 : fzs rs with
      | none => rw [q1] at P; exact P.elim
      | some ds =>
        rw [q1] at P
        dsimp only [Option.bind] at P
        have ra := fzs_rd hl q1
        cases q2 : mkD1 ds with
        | none => rw [q2] at P; exact P.elim
        | some rr =>
          rw [q2] at P
          match ds, ra, q2 with
          | [dk, dv], .cons rk (.cons rv .nil), q2 =>
            simp only [mkD1, Option.map_eq_some_iff] at q2
            obtain ⟨k, hk, rfl⟩ := q2
            obtain ⟨k1, k2, Hm, S2, k3, k4⟩ := S.backNew (fun _ z => by cases z) hp S1
            refine ⟨_, _, rfl, k1, [(k, _)], by rw [toKey_rd (H := H1) (.inl rk) hk]; rfl, by show 1 ≤ 15; decide, ?_⟩
            rw [k4]
            exact P (.ref p) F1 _ f1 (S2.gr (Gr.lay S2.le k3)) (S2.rvok (Gr.lay S2.le k3) ⟨p, rfl, k3, k2, toKey_okR (H := F1) (.inl rk) hk, _, upd_same, .cons rv .nil⟩)
  refine tEv_imp (tAv_keep key) fun x H1 h1 => ?_
  refine tEv_imp (tAv_keep h1) fun y H2 h2 => ?_
  obtain ⟨x', y', e1, r⟩ := tAv_nil h2
  cases e1
  exact r
end
section
variable {ca : Str → Option Addr} {W : WX} {X : Cx} {a b c : Expr} {fa fb fc : EV} {es : List Expr} {ga : AV} {pos p apos : Pos}
theorem ev_rev {k : Nat} {p1 p2 p3 : Pos} (h : Ev ca W X a fa) : Ev ca W X (.Subscript a (.Slice none none (some (.UnaryOp .USub (.Constant (.int 1) k p1) p2)) p3) pos) (eOp1 opRev fa) := PE_imp (pe_revL h) fun _ _ _ => one s_rev
theorem av_star (h : Ev ca W X a fa) (k : Av ca W X es ga) (hs : starEach (.Starred a p :: es) X.env = (true, eval a X.env) :: starEach es X.env := by rfl) : Av ca W X (.Starred a p :: es) (aStar fa ga) := PA_imp (StX.pa_star h k hs) fun _ _ _ => tAv_star rfl
theorem ev_get2 (hu : X.A.units + 1 < cLine) (ha : Ev ca W X a fa) (hb : Ev ca W X b fb) (hc : Ev ca W X c fc) (m1 : attributeBase a "get" X.env (eval a X.env) = eval a X.env := by rfl) (m2 : (apos.endLine == pos.line) = true := by rfl)
    (m3 : ((backTo pos (starEach [b, c] X.env)).all (fun x => !x.1) && (backToKw pos (keywordEach [] X.env)).all (fun x => x.1.isSome) && decide (([b, c] : List Expr).length + ([] : List Keyword).length + (if ([] : List Keyword).isEmpty then 0 else 1) < 30)) = true := by rfl)
    (m4 : backTo pos (starEach [b, c] X.env) = [(false, eval b X.env), (false, eval c X.env)] := by rfl) : Ev ca W X (.Call (.Attribute a "get" apos) [b, c] [] pos) (eGet2 fa fb fc) :=
  PE_imp (pe_dget2 hu ha hb hc ⟨m1, m3, m2, m4⟩) fun _ _ _ => get2_rd
theorem sv_put {i : Nat} {xx : Str} {px p2 : Pos} (hu : X.A.units + 1 < cLine) (hx : PE X (.Name xx px) (tVar i)) (ha : Ev ca W X a fa) (hb : Ev ca W X b fb) (hs : swapsWith a (some (.Subscript (.Name xx px) b p2)) pos.line X.env = pure false := by rfl) :
    Sv ca W X (.Assign [.Subscript (.Name xx px) b p2] a pos) (sPut i fa fb) := PS_imp (ps_dput hu hx hb ha hs) fun _ _ _ => put_rd
theorem ev_d1 (ha : Ev ca W X a fa) (hb : Ev ca W X b fb) : Ev ca W X (.Dict [some a] [b] pos) (eD1 fa fb) := PE_imp (pe_disp (pps_cons ha hb pps_nil) rfl rfl (by simp) (by show 1 ≤ 15; decide)) fun _ _ _ => d1_rd
theorem ev_newK : Ev ca W X (.Dict [] [] pos) eNewK := PE_imp pe_dnewK fun _ _ _ => newK_rd
theorem ev_newT : Ev ca W X (.Dict [] [] pos) eNewT := PE_imp pe_dnewT fun _ _ _ => newT_rd
end
end S3

/-! C5: sets: {x}, set(xs), add, discard; sorted. -/
namespace S3
open PySem L2
/-! ### terms -/
def strsOf : List D → Option (List Str)
  | [] => some []
  | .str x :: r => (strsOf r).map (x :: ·)
  | _ :: _ => none
def unKeys : List Key → Option (List Str)
  | [] => some []
  | .inr x :: r => (unKeys r).map (x :: ·)
  | _ :: _ => none
def opSorted : D → Option RV
  | .lst xs => (match strsOf xs with
    | some ss => if ss.length ≤ BIG then some (.nw (.lst ((sortS ss).map .str))) else none
    | none => none)
  | .st ks => (unKeys ks).map fun ss => .nw (.lst ((sortS ss).map .str))
  | _ => none
def setOf (xs : List D) : Option RV := match toKeys xs with
  | some ks => if ks.length < 4000 then some (.nw (.st (dedKey ks))) else none
  | none => none
def opSet : D → Option RV
  | .lst xs => setOf xs
  | .tup xs => setOf xs
  | _ => none
def mAdd : D → List D → Option (D × RV)
  | .st ks, [d] => (match toKey d with
    | some k => if ks.length < 4000 then some (.st (addKey ks k), .fz .non) else none
    | none => none)
  | _, _ => none
def mDiscard : D → List D → Option (D × RV)
  | .st ks, [d] => (toKey d).map fun k => (.st (delKey ks k), .fz .non)
  | _, _ => none
def mkS1 : List D → Option RV
  | [d] => (toKey d).map fun k => .nw (.st [k])
  | _ => none
/-- {f} -/
def eS1 (f : EV) : EV := fun e => match aKeep f aNil (lock e) with
  | .ok rs _ => (match (fzs rs).bind mkS1 with
    | some r => .ok r e
    | none => .no)
  | _ => .no
section
variable {Z : Wd} {F F' H H' : Hp} {N : En} {σ : St} {e e' : Env} {v x y : V} {W : WX} {E : Ends}
theorem strsOf_rd : ∀ {ds : List D} {vs : List V} {ss : List Str}, RpA Z F vs ds → strsOf ds = some ss → vs = ss.map V.str ∧ ∀ x ∈ ss, sOk x = true
  | [], _, _, .nil, e => by simp only [strsOf] at e; cases e; exact ⟨rfl, fun x h => by cases h⟩
  | d :: ds, _, _, .cons h r, e => by
    cases d <;> simp only [strsOf] at e <;> try (cases e; done)
    rw [Option.map_eq_some_iff] at e
    obtain ⟨ss, h1, rfl⟩ := e
    obtain ⟨h2, h3⟩ := strsOf_rd r h1
    have hs := RdV.str (H := fun _ => none) (.inl h)
    refine ⟨by rw [hs.1, h2]; rfl, fun x hx => ?_⟩
    rcases List.mem_cons.mp hx with e | e
    · rw [e]; exact hs.2.2
    · exact h3 x e
theorem unKeys_is : ∀ {ks : List Key} {ss : List Str}, unKeys ks = some ss → ks = ss.map Sum.inr
  | [], _, e => by simp only [unKeys] at e; cases e; rfl
  | k :: ks, _, e => by
    cases k <;> simp only [unKeys] at e <;> try (cases e; done)
    rw [Option.map_eq_some_iff] at e
    obtain ⟨ss, h1, rfl⟩ := e
    rw [unKeys_is h1]
    rfl
theorem rpA_strs : ∀ {ss : List Str}, (∀ x ∈ ss, sOk x = true) → RpA Z F (ss.map V.str) (ss.map D.str)
  | [], _ => .nil
  | x :: ss, h => .cons (.str x (h x List.mem_cons_self)) (rpA_strs fun y hy => h y (List.mem_cons_of_mem _ hy))
theorem s_sorted : Sound1 Z (fun x => rSortG Z.K Z.P Z.w [x]) opSorted := by
  intro F H x dx rr Q l hx ho q
  cases dx <;> simp only [opSorted] at ho <;> try (cases ho; done)
  · rename_i xs
    cases h1 : strsOf xs with
    | none => rw [h1] at ho; cases ho
    | some ss =>
      rw [h1] at ho
      dsimp only at ho
      split at ho
      · rename_i hz
        cases ho
        obtain ⟨a, vs, rfl, ha, ra⟩ := hx.lst l
        obtain ⟨h2, h3⟩ := strsOf_rd ra h1
        subst h2
        exact ⟨a, ss, rfl, .inl ⟨SqL.of ha, by rw [sizeLine_eq]; exact hz⟩, fin_lst l q (rpA_strs fun y hy => h3 y ((sortS_perm ss).mem_iff.mp hy))⟩
      · cases ho
  · rw [Option.map_eq_some_iff] at ho
    obtain ⟨ss, h1, rfl⟩ := ho
    obtain ⟨a, rfl, ha, hk⟩ := hx.st l
    have e := unKeys_is h1
    subst e
    exact ⟨a, ss, rfl, .inr ha, fin_lst l q (rpA_strs fun y hy => hk y (List.mem_map.mpr ⟨y, (sortS_perm ss).mem_iff.mp hy, rfl⟩))⟩
theorem fin_st {ks : List Key} {Q : VK} (l : Same F H) (q : ∀ v F' H', Gr F H F' H' → NwOk Z H F' H' v (.nw (.st ks)) → Q v H') (r : kOk ks) : ∀ p, H p = none → Q (.ref p) (upd H p (SetGO Z.P Z.w p ks)) := fun p hp =>
  q (.ref p) F _ (Gr.lay l hp) ⟨p, rfl, hp, none_le l hp, upd_same, r⟩
theorem toKeys_ok : ∀ {ds : List D} {vs : List V} {ks : List Key}, RpA Z F vs ds → toKeys ds = some ks → kOk ks
  | [], _, _, .nil, e => by simp only [toKeys] at e; cases e; intro x h; cases h
  | d :: ds, _, _, .cons h r, e => by
    simp only [toKeys] at e
    cases q1 : toKey d with
    | none => rw [q1] at e; cases e
    | some k =>
      cases q2 : toKeys ds with
      | none => rw [q1, q2] at e; cases e
      | some ks =>
        rw [q1, q2] at e
        cases e
        intro x hx
        rcases List.mem_cons.mp hx with z | z
        · cases d <;> simp only [toKey] at q1 <;> cases q1
          · cases z
          · cases z; exact (RdV.str (H := fun _ => none) (.inl h)).2.2
        · exact toKeys_ok r q2 x z
theorem kOk_add {ks : List Key} {k : Key} (h : kOk ks) (h2 : kOk [k]) : kOk (addKey ks k) := by
  intro x hx
  unfold addKey at hx
  split at hx
  · exact h x hx
  · rcases List.mem_append.mp hx with z | z
    · exact h x z
    · exact h2 x z
theorem kOk_ded {ks : List Key} (h : kOk ks) : kOk (dedKey ks) := by
  have : ∀ (ks acc : List Key), kOk acc → kOk ks → kOk (ks.foldl addKey acc) := by
    intro ks
    induction ks with
    | nil => intro acc h _; exact h
    | cons k ks ih =>
      intro acc h1 h2
      exact ih _ (kOk_add h1 fun x hx => h2 x (by rw [List.mem_singleton] at hx; rw [hx]; exact List.mem_cons_self)) fun x hx => h2 x (List.mem_cons_of_mem _ hx)
  exact this ks [] (fun x hx => by cases hx) h
theorem s_set : Sound1 Z (fun x => rSetG Z.K Z.P Z.w [x]) opSet := by
  intro F H x dx rr Q l hx ho q
  have key : ∀ (xs : List D) (a : Addr) (vs : List V), RpA Z F vs xs → setOf xs = some rr → x = .ref a → (∀ ks : List Key, vs = ks.map kV → SqL Z.K H a (ks.map kV) ∨ SqT Z.K H a (ks.map kV)) → rSetG Z.K Z.P Z.w [x] H Q := fun xs a vs ra ho ex hs => by
    unfold setOf at ho
    cases h1 : toKeys xs with
    | none => rw [h1] at ho; cases ho
    | some ks =>
      rw [h1] at ho
      dsimp only at ho
      split at ho
      · rename_i hz
        cases ho
        have e := toKeys_rd ra h1
        exact ⟨a, ks, by rw [ex], hs ks e, by unfold PySem.scanBound; omega, fin_st l q (kOk_ded (toKeys_ok ra h1))⟩
      · cases ho
  cases dx <;> simp only [opSet] at ho <;> try (cases ho; done)
  · obtain ⟨a, vs, rfl, ha, ra⟩ := hx.lst l
    exact key _ a vs ra ho rfl fun ks e => .inl (by rw [← e]; exact SqL.of ha)
  · obtain ⟨a, vs, rfl, ha, ra⟩ := hx.tup l
    exact key _ a vs ra ho rfl fun ks e => .inr (by rw [← e]; exact SqT.of ha)
theorem m_add : SoundM Z (rSAddG Z.P Z.w) isSet mAdd := by
  intro F H a vs d ds d' rr Q l fa t r hk ho q
  cases d <;> simp only [isSet] at hk <;> try (cases hk; done)
  rename_i ks
  obtain ⟨ha, hok⟩ := t
  cases r with
  | nil => simp only [mAdd] at ho; cases ho
  | @cons v0 vs0 d0 ds0 h1 h2 =>
    cases h2 with
    | cons _ _ => simp only [mAdd] at ho; cases ho
    | nil =>
      simp only [mAdd] at ho
      cases h3 : toKey d0 with
      | none => rw [h3] at ho; cases ho
      | some k =>
        rw [h3] at ho
        dsimp only at ho
        split at ho
        · rename_i hz
          cases ho
          have k1 : kOk [k] := toKeys_ok (ds := [d0]) (.cons h1 .nil) (by simp only [toKeys, h3])
          refine ⟨a, k, ks, rfl, by rw [toKey_rd (H := H) (.inl h1) h3], ha, by unfold PySem.scanBound; omega, ?_⟩
          exact q .non F _ (Same.refl _) l (fun _ _ _ h => h) ⟨upd_same, kOk_add hok k1⟩ ⟨_, rfl, .non⟩
        · cases ho
theorem m_discard : SoundM Z (rSDelG Z.P Z.w) isSet mDiscard := by
  intro F H a vs d ds d' rr Q l fa t r hk ho q
  cases d <;> simp only [isSet] at hk <;> try (cases hk; done)
  rename_i ks
  obtain ⟨ha, hok⟩ := t
  cases r with
  | nil => simp only [mDiscard] at ho; cases ho
  | @cons v0 vs0 d0 ds0 h1 h2 =>
    cases h2 with
    | cons _ _ => simp only [mDiscard] at ho; cases ho
    | nil =>
      simp only [mDiscard, Option.map_eq_some_iff] at ho
      obtain ⟨k, h3, e⟩ := ho
      cases e
      refine ⟨a, k, ks, rfl, by rw [toKey_rd (H := H) (.inl h1) h3], ha, ?_⟩
      exact q .non F _ (Same.refl _) l (fun _ _ _ h => h) ⟨upd_same, fun x hx => hok x (List.mem_filter.mp hx).1⟩ ⟨_, rfl, .non⟩
theorem ty_set : ∀ F H p d, Top Z F H p d → isSet d = true → isSetV Z.P Z.w (.ref p) H := by
  intro F H p d t k
  cases d <;> simp only [isSet] at k <;> try (cases k; done)
  exact ⟨p, _, rfl, t.1⟩
theorem s1_rd {f : EV} {Q : VK} (h : tEv Z W (eS1 f) σ H Q) : tSet1 Z.P Z.w (tEv Z W f) σ H Q := by
  obtain ⟨N, F, e, S, P⟩ := h
  unfold eS1 at P
  intro p hp
  have S0 := S.newLock (o := SetGO Z.P Z.w p []) hp
  have key : tAv Z W (aKeep f aNil) σ (upd H p (SetGO Z.P Z.w p [])) fun vs H2 => ∃ y k, vs = [y] ∧ y = kV k ∧ H2 p = some (SetGO Z.P Z.w p []) ∧ Q (.ref p) (upd H2 p (SetGO Z.P Z.w p [k])) := by
    refine ⟨_, F, lock e, S0, ?_⟩
    cases q : aKeep f aNil (lock e) with
    | no => rw [q] at P; exact P
    | ex z e1 => rw [q] at P; exact P.elim
    | ok rs e1 =>
      rw [q] at P
      dsimp only at P
      intro vs F1 H1 f1 S1 hl
      cases q1 : fzs rs with
      | none => rw [q1] at P; exact P.elim
      | some ds =>
        rw [q1] at P
        dsimp only [Option.bind] at P
        have ra := fzs_rd hl q1
        cases q2 : mkS1 ds with
        | none => rw [q2] at P; exact P.elim
        | some rr =>
          rw [q2] at P
          match ds, ra, q2 with
          | [dk], .cons rk .nil, q2 =>
            simp only [mkS1, Option.map_eq_some_iff] at q2
            obtain ⟨k, hk, rfl⟩ := q2
            obtain ⟨k1, k2, Hm, S2, k3, k4⟩ := S.backNew (fun _ z => by cases z) hp S1
            refine ⟨_, k, rfl, toKey_rd (H := H1) (.inl rk) hk, k1, ?_⟩
            rw [k4]
            have kk : kOk [k] := toKeys_ok (ds := [dk]) (.cons rk .nil) (by simp only [toKeys, hk])
            exact P (.ref p) F1 _ f1 (S2.gr (Gr.lay S2.le k3)) (S2.rvok (Gr.lay S2.le k3) ⟨p, rfl, k3, k2, upd_same, kk⟩)
  refine tEv_imp (tAv_keep key) fun x H1 h1 => ?_
  obtain ⟨y, k, e1, r⟩ := tAv_nil h1
  cases e1
  exact ⟨k, r⟩
end
section
variable {ca : Str → Option Addr} {W : WX} {X : Cx} {a b c : Expr} {fa fb fc : EV} {es : List Expr} {ga : AV} {pos p apos : Pos}
theorem ev_s1 (ha : Ev ca W X a fa) (hcd : PySem.W.kdsCode X.K X.env.code = true) (hp : PySem.W.kdsPlain a = true := by rfl) : Ev ca W X (.Set [a] 0 pos) (eS1 fa) := PE_imp (pe_set1 ha hcd hp) fun _ _ _ => s1_rd
theorem ev_add {i : Nat} {x : Str} {px apos : Pos} (hx : PE X (.Name x px) (tVar i)) (ha : Av ca W X [a] ga)
    (hbase : attributeBase (.Name x px) "add" X.env (eval (.Name x px) X.env) = eval (.Name x px) X.env := by rfl)
    (hline : (apos.endLine == pos.line) = true := by rfl) (hs : starEach [a] X.env = (false, eval a X.env) :: starEach [] X.env := by rfl) : Ev ca W X (.Call (.Attribute (.Name x px) "add" apos) [a] [] pos) (eMut i isSet mAdd ga) :=
  PE_imp (pe_setM PySem.F.plainAttrs_set PySem.F.slot_set_add PySem.F.type_set_add mt_saddG hx ha hbase (by rw [hs]; rfl) hline hs (by rfl)) fun _ _ _ => tEv_mut m_add ty_set
theorem ev_discard {i : Nat} {x : Str} {px apos : Pos} (hx : PE X (.Name x px) (tVar i)) (ha : Av ca W X [a] ga)
    (hbase : attributeBase (.Name x px) "discard" X.env (eval (.Name x px) X.env) = eval (.Name x px) X.env := by rfl)
    (hline : (apos.endLine == pos.line) = true := by rfl) (hs : starEach [a] X.env = (false, eval a X.env) :: starEach [] X.env := by rfl) : Ev ca W X (.Call (.Attribute (.Name x px) "discard" apos) [a] [] pos) (eMut i isSet mDiscard ga) :=
  PE_imp (pe_setM PySem.F.plainAttrs_set PySem.F.slot_set_discard PySem.F.type_set_discard mt_sdelG hx ha hbase (by rw [hs]; rfl) hline hs (by rfl)) fun _ _ _ => tEv_mut m_discard ty_set
end
end S3

/-! C6: enumerate, name += n, xs[i] = v, while (x := f) is None. -/
namespace S3
open PySem L2
/-! ### terms -/
def enumD (xs : List D) : List D := xs.zipIdx.map fun p => .tup [.int (p.2 : Nat), p.1]
def wEnum (f : EV) : WV := wE f fun r e => match walk r e with
  | some (.lst xs, e1) => .ok (enumD xs) e1
  | _ => .no
def sAug (i : Nat) (g : Int → Int → Int) (f : EV) : SV := fun e => match slot e i with
  | .fz (.int a) => (sE f fun r e1 => match rd r e1 with
    | some (.int b) => .nx (e1.set i (.fz (.int (g a b))))
    | _ => .no) e
  | _ => .no
def mPutL : D → D → D → Option D
  | .lst xs, .int k, v => (L2.ixN xs.length k).map fun j => .lst (xs.set j v)
  | _, _, _ => none
/-- xs[g] = f, xs at slot i -/
def sPutL (i : Nat) (f g : EV) : SV := sE f fun r e => match stl r e with
  | some (v, e1) => if mine isLst (slot e1 i) then (sE g fun q e2 => match rd q e2 with
    | some y => if mine isLst (slot e2 i) then (match (slot e2 i).val with
      | some d => (match mPutL d y v with
        | some d' => .nx (e2.set i (reown (slot e2 i) d'))
        | none => .no)
      | none => .no) else .no
    | none => .no) e1 else .no
  | none => .no
/-- while (name := f) is None -/
def whN (tmp : List Nat) (i : Nat) (f : EV) (b : SV) : Nat → SV
  | 0, _ => .no
  | n + 1, e => (sE f fun r e1 => match setS i r e1 with
    | some e2 => (match slot e2 i with
      | .fz .non => (match b e2 with
        | .nx e3 => whN tmp i f b n (wipeE e3 tmp)
        | .ct e3 => whN tmp i f b n (wipeE e3 tmp)
        | .bk e3 => .nx (wipeE e3 tmp)
        | .rt r e3 => .rt r e3
        | .ex x e3 => .ex x e3
        | .no => .no)
      | .no => .no
      | _ => .nx e2)
    | none => .no) e
section
variable {Z : Wd} {F F' H H' : Hp} {N : En} {σ : St} {e e' : Env} {v x y : V} {W : WX} {E : Ends}
theorem enumD_get {xs : List D} {i : Nat} : (enumD xs)[i]? = (xs[i]?).map fun d => .tup [.int (i : Nat), d] := by
  unfold enumD
  rw [List.getElem?_map, List.getElem?_zipIdx]
  cases xs[i]? <;> simp
theorem enumD_len (xs : List D) : (enumD xs).length = xs.length := by unfold enumD; rw [List.length_map, List.length_zipIdx]
theorem walk_enum {K : PySem.W.Frag} (hK : Z.K = K) {ds : List D} (S : SOk Z N F H σ e) (h : Rp Z F v (.lst ds) ∨ ∃ a, v = .ref a ∧ (∃ u, N.H a = some u) ∧ a ∉ N.M ∧ Top Z F H a (.lst ds)) :
    ∃ a, v = .ref a ∧ (∃ xs, SqL K H a xs) ∧ WalkOk Z N F (Ite K a) (enumD ds) := by
  obtain ⟨a, xs, rfl, ha, ra, st⟩ : ∃ a xs, v = .ref a ∧ H a = some (.lst xs) ∧ RpA Z F xs ds ∧ ∀ F' H' σ e, SOk Z N F' H' σ e → Same F F' → H' a = some (.lst xs) := by
    rcases h with h | ⟨a, rfl, ⟨u, hu⟩, m, xs, ha, ra⟩
    · cases h with
      | lst k r => exact ⟨_, _, rfl, S.le _ _ k, r, fun F' H' σ e S' f => S'.le _ _ (f _ _ k)⟩
    · have e1 := S.h0 a u hu m
      rw [ha] at e1
      cases e1
      exact ⟨a, xs, rfl, ha, ra, fun F' H' σ e S' f => S'.h0 a _ hu m⟩
  refine ⟨a, rfl, ⟨xs, SqL.of ha⟩, fun F' H' σ' e' S' f i => ⟨fun d hd => ?_, fun hl => ⟨xs, SqL.of (st _ _ _ _ S' f), by rw [ra.length]; rw [enumD_len] at hl; exact hl⟩⟩⟩
  have hx := st _ _ _ _ S' f
  rw [enumD_get, Option.map_eq_some_iff] at hd
  obtain ⟨d0, hd0, rfl⟩ := hd
  obtain ⟨w, hw, rw'⟩ := ra.get hd0
  refine ⟨⟨xs, w, SqL.of hx, hw⟩, fun x H2 ⟨T, w2, e1, hT, e2, y⟩ => ?_⟩
  subst e1 e2
  have := y xs (SqL.of hx)
  rw [hw] at this
  cases this
  have fT := none_le S'.le hT
  exact ⟨upd F' T (.tup [.int (i : Nat), w]), Gr.layF S'.le hT, .tup upd_same (.cons (.int _) (.cons ((rw'.mono f).mono (same_upd fT)) .nil))⟩
theorem wv_enum_rd {K : PySem.W.Frag} (hK : Z.K = K) {f : EV} {R : It → Hp → Prop} (h : tWv Z W (wEnum f) σ H R) : iEnum K (tCons (tEv Z W f) tNil) σ H R := by
  obtain ⟨N, F, e, S, P⟩ := h
  unfold wEnum wE at P
  refine ⟨N, F, e, S, ?_⟩
  cases q : f e with
  | no => rw [q] at P; exact P
  | ex z e1 => rw [q] at P; exact fun cls d F1 H1 f1 S1 x => P cls d F1 H1 f1 S1 x
  | ok r e0 =>
    rw [q] at P
    dsimp only at P
    intro v F1 H1 f1 S1 R1
    cases q1 : walk r e0 with
    | none => rw [q1] at P; exact P.elim
    | some pr =>
      obtain ⟨d, e1⟩ := pr
      rw [q1] at P
      cases d <;> try exact P.elim
      rename_i xs
      have h : ∀ J F2 H2, Same F F2 → SOk Z N F2 H2 σ e1 → WalkOk Z N F2 J (enumD xs) → R J H2 := P
      obtain ⟨F2, f2, S2, h2⟩ := walk_ok S1 R1 q1
      obtain ⟨a, ev, ⟨ys, h3⟩, w⟩ := walk_enum hK S2 h2
      exact ⟨a, ys, by rw [ev], h3, h _ F2 H1 (f1.trans f2) S2 w⟩
theorem st_aug {i : Nat} {g : Int → Int → Int} {f : EV} (h : tSv Z W (sAug i g f) E σ H) : tAug i (tEv Z W f) (ipI g) E σ H := by
  obtain ⟨N, F, e, S, P⟩ := h
  unfold sAug at P
  cases q : S3.slot e i with
  | fz d =>
    rw [q] at P
    cases d <;> try exact P.elim
    rename_i a
    obtain ⟨o, h1, v, rfl, r⟩ := S.slot i _ (slot_get q (by intro z; cases z))
    have ev := RdV.int (H := H) (.inl r)
    subst ev
    refine ⟨_, h1, ?_⟩
    refine bindS S P fun y F1 H1 e1 r1 f1 S1 R1 P1 => ?_
    cases q1 : S3.rd r1 e1 with
    | none => rw [q1] at P1; exact P1.elim
    | some d =>
      rw [q1] at P1
      cases d <;> try exact P1.elim
      rename_i b
      have ey := (RvOk.rd S1 R1 q1).int
      subst ey
      exact ⟨a, b, rfl, rfl, P1 F1 H1 _ (Same.refl _) (S1.set (.int _))⟩
  | _ => rw [q] at P; exact P.elim
theorem mputL_rd {a : Addr} {d dy dv d' : D} (t : Top Z F H a d) (hy : RdV Z F H y dy) (rv : Rp Z F v dv) (h : mPutL d dy dv = some d') : ∃ (xs : List V) (k : Int) (j : Nat), y = .int k ∧ H a = some (.lst xs) ∧ ixN xs.length k = some j ∧ Top Z F (upd H a (.lst (xs.set j v))) a d' := by
  cases d <;> simp only [mPutL] at h <;> try (cases h; done)
  rename_i ds
  cases dy <;> simp only at h <;> try (cases h; done)
  rename_i k
  rw [Option.map_eq_some_iff] at h
  obtain ⟨j, hj, rfl⟩ := h
  obtain ⟨xs, ha, r⟩ := t
  exact ⟨xs, k, j, hy.int, ha, by rw [r.length]; exact hj, _, upd_same, r.set j rv⟩
theorem putL_rd {i : Nat} {f g : EV} (p : tSv Z W (sPutL i f g) E σ H) : tAsg (tEv Z W f) (gSub (tVar i) (tEv Z W g) rSetL) E σ H := by
  obtain ⟨N, F, e, S, P⟩ := p
  refine bindS S P fun v F1 H1 e1 r f1 S1 R1 P1 => ?_
  cases c1 : S3.stl r e1 with
  | none => rw [c1] at P1; exact P1.elim
  | some pr =>
    obtain ⟨dv, e2⟩ := pr
    rw [c1] at P1
    dsimp only at P1
    obtain ⟨F2, f2, S2, r2⟩ := RvOk.stl S1 R1 c1
    split at P1
    · rename_i hm
      obtain ⟨ho, d0, hd0, hk0⟩ := mine_own hm
      obtain ⟨a, h1, f0, t0, g0⟩ := own_at S2 rfl ho hd0
      refine ⟨.ref a, h1, ?_⟩
      refine bindS S2 (PostS.shift P1 f2) fun y F3 H3 e3 q f3 T3 R3 P3 => ?_
      obtain ⟨F4, f4, S4, h4⟩ := RvOk.hold T3 R3
      have P4 := PostS.shift P3 f4
      cases c2 : S3.rd q e3 with
      | none => rw [c2] at P4; exact P4.elim
      | some dy =>
        rw [c2] at P4
        dsimp only at P4
        split at P4
        · rename_i hm4
          obtain ⟨ho4, d4, hd4, hk4⟩ := mine_own hm4
          obtain ⟨a', h1', f0', t4, g4⟩ := own_at S4 rfl ho4 hd4
          rw [h1] at h1'
          cases h1'
          rw [hd4] at P4
          dsimp only at P4
          cases c3 : mPutL d4 dy dv with
          | none => rw [c3] at P4; exact P4.elim
          | some d' =>
            rw [c3] at P4
            obtain ⟨xs, k, j, ey, ha, hj, t'⟩ := mputL_rd t4 (h4.rd S4 c2) (r2.mono (f3.trans f4)) c3
            exact ⟨a, xs, k, j, rfl, ey, ha, hj, P4 F4 _ σ (Same.refl _) (S4.write g4 ho4 h1 t')⟩
        · exact P4.elim
    · exact P1.elim
theorem st_whN {tmp : List Nat} {i n : Nat} {f : EV} {b : SV} (h : tSv Z W (whN tmp i f b n) E σ H) : tWhileW (wCmp rIsA (wNm (L2.wE (tEv Z W f)) i) (tC .non)) (tSv Z W b) tNext E σ H := by
  obtain ⟨N, F, e, S, P⟩ := h
  refine ⟨fun m σ H => ∃ F' e', SOk Z N F' H σ e' ∧ PostS Z N F' W E (whN tmp i f b m e'), ⟨n, F, e, S, P⟩, ?_⟩
  rintro m σ H ⟨F1, e1, S1, P1⟩
  cases m with
  | zero => exact P1.elim
  | succ m =>
    unfold whN at P1
    refine bindS S1 P1 fun x F2 H2 e2 r f2 S2 R2 P2 => ?_
    cases c1 : setS i r e2 with
    | none => rw [c1] at P2; exact P2.elim
    | some e3 =>
      rw [c1] at P2
      dsimp only at P2
      obtain ⟨F3, f3, S3'⟩ := set_ok S2 R2 c1
      have P3 := PostS.shift P2 f3
      have val : ∀ s, S3.slot e3 i = s → s ≠ .no → SlOk Z N F3 H2 (some x) s := fun s hs hn => by
        obtain ⟨o, h1, h2⟩ := S3'.slot i s (slot_get hs hn)
        have hl := (List.getElem?_eq_some_iff.mp h1).1
        rw [List.length_set] at hl
        rw [List.getElem?_set_self hl] at h1
        cases h1
        exact h2
      have out : x ≠ .non → PostS Z N F3 W E (.nx e3) → ∃ k, V.bl (decide (x = .non)) = .bl k ∧ (if k = true then ∃ Nx : St → Hp → Prop, (∀ σ' H', Nx σ' H' → ∃ m', m' < m + 1 ∧ ∃ F' e', SOk Z N F' H' σ' e' ∧ PostS Z N F' W E (whN tmp i f b m' e')) ∧ tSv Z W b { E with nx := Nx, ct := Nx, bk := E.nx } (σ.set i (some x)) H2 else tNext E (σ.set i (some x)) H2) := fun hx q =>
        ⟨false, by rw [decide_eq_false hx], iteF (q F3 H2 _ (Same.refl _) S3')⟩
      refine .inl ⟨rfl, ?_⟩
      cases c2 : S3.slot e3 i with
      | no => rw [c2] at P3; exact P3.elim
      | ow d =>
        rw [c2] at P3
        obtain ⟨a, ea, _⟩ := val _ c2 (by intro z; cases z)
        cases ea
        exact out (by intro z; cases z) P3
      | bo d =>
        rw [c2] at P3
        exfalso
        have g := slot_get c2 (by intro z; cases z)
        cases r with
        | fz d' => simp only [setS] at c1; cases c1; rcases get_set g with ⟨_, z, _⟩ | ⟨z, _⟩ <;> first | cases z | exact z rfl
        | nw d' => simp only [setS] at c1; cases c1; rcases get_set g with ⟨_, z, _⟩ | ⟨z, _⟩ <;> first | cases z | exact z rfl
        | «at» j =>
          simp only [setS, Option.map_eq_some_iff] at c1
          obtain ⟨p, _, rfl⟩ := c1
          rcases get_set g with ⟨_, z, _⟩ | ⟨z, _⟩ <;> first | cases z | exact z rfl
      | mu d =>
        rw [c2] at P3
        obtain ⟨a, ea, _⟩ := val _ c2 (by intro z; cases z)
        cases ea
        exact out (by intro z; cases z) P3
      | fz d =>
        rw [c2] at P3
        obtain ⟨w, ew, rw'⟩ := val _ c2 (by intro z; cases z)
        cases ew
        by_cases hd : d = .non
        · subst hd
          have ex := RdV.non (H := H2) (.inl rw')
          refine ⟨true, by rw [decide_eq_true ex], iteT ⟨fun σ' H' => ∃ F' e', SOk Z N F' H' σ' e' ∧ PostS Z N F' W E (whN tmp i f b m e'), fun σ' H' h => ⟨m, Nat.lt_succ_self m, h⟩, N, F3, e3, S3', ?_⟩⟩
          dsimp only at P3
          cases q2 : b e3 with
          | no => rw [q2] at P3; exact P3
          | nx e4 => rw [q2] at P3; exact fun F4 H4 σ4 f4 S4 => ⟨F4, _, S4.wipe tmp, PostS.shift P3 f4⟩
          | ct e4 => rw [q2] at P3; exact fun F4 H4 σ4 f4 S4 => ⟨F4, _, S4.wipe tmp, PostS.shift P3 f4⟩
          | bk e4 => rw [q2] at P3; exact fun F4 H4 σ4 f4 S4 => P3 F4 H4 σ4 f4 (S4.wipe tmp)
          | rt r e4 => rw [q2] at P3; exact P3
          | ex x e4 => rw [q2] at P3; exact P3
        · have P4 : PostS Z N F3 W E (.nx e3) := by
            cases d <;> first | exact (hd rfl).elim | exact P3
          exact out (RdV.notNon (H := H2) (.inl rw') hd) P4
end
section
variable {ca : Str → Option Addr} {W : WX} {X : Cx} {a b c : Expr} {fa fb fc : EV} {es : List Expr} {s1 : List Stmt} {ga : AV} {f : SV} {pos p p2 apos : Pos}
theorem wv_enum {elts : List Expr} {kk : Nat} {tpos : Pos} (hm : X.mg "enumerate" = none) (h : Ev ca W X a fa) (hg : Gl X "enumerate" := by rfl) (hs : starEach [a] X.env = (false, eval a X.env) :: starEach [] X.env := by rfl) : Wv ca W X (.Tuple elts kk tpos) (.Call (.Name "enumerate" p) [a] [] pos) (wEnum fa) :=
  PI_imp (pi_enum hg hm (pa_cons h pa_nil hs) (by rw [hs]; rfl)) fun _ _ _ => wv_enum_rd rfl
theorem sv_augA (i : Nat) {x : Str} (hN : X.N.Nodup) (h : Ev ca W X a fa) (hi : X.N[i]? = some x := by rfl) (hx : Loc X.env.scope x := by first | exact Or.inl rfl | exact Or.inr rfl)
    (hf : X.fn x = true ∨ X.env.scope.names.lookup x = some .local := by first | exact .inl rfl | exact .inr rfl | assumption) : Sv ca W X (.AugAssign (.Name x p) .Add a pos) (sAug i (fun i j => i + j) fa) := PS_imp (ps_aug hN hi hx h ip_add hf) fun _ _ _ => st_aug
theorem sv_putL {i : Nat} {xx : Str} {px p2 : Pos} (hx : PE X (.Name xx px) (tVar i)) (ha : Ev ca W X a fa) (hb : Ev ca W X b fb) (hs : swapsWithSole [.Subscript (.Name xx px) b p2] a pos.line X.env = pure false := by rfl) (hw : swappedStores [.Subscript (.Name xx px) b p2] a X.env = pure none := by rfl)
    (h1 : (assignEach [.Subscript (.Name xx px) b p2] X.env).map (·.2) = [assign (.Subscript (.Name xx px) b p2) X.env] := by rfl)
    (hq : ∀ v, assign (.Subscript (.Name xx px) b p2) X.env v = (do
      let ov ← holding [v] (eval (.Name xx px) X.env)
      let iv ← holding [v, ov] (eval b X.env)
      standAt p2
      holding [v, ov, iv] (setItem ov iv v)
      release [v, ov, iv] []) := by intro _; rfl) :
    Sv ca W X (.Assign [.Subscript (.Name xx px) b p2] a pos) (sPutL i fa fb) := PS_imp (ps_asg ha (pg_sub hx hb set_list hq) hs hw h1) fun _ _ _ => putL_rd
theorem sv_whN {i : Nat} {x : Str} {tmp : List Nat} {q1 q2 q3 q4 : Pos} {j : Nat} (n : Nat) (hN : X.N.Nodup) (hp : PassesOwn (model X.prog X.w) X.A X.env X.xe) (h : Ev ca W X a fa) (hb : Bv ca W X s1 f) (hi : X.N[i]? = some x := by rfl) (hx : Loc X.env.scope x := by first | exact Or.inl rfl | exact Or.inr rfl)
    (hf : X.fn x = true ∨ X.env.scope.names.lookup x = some .local := by first | exact .inl rfl | exact .inr rfl | assumption) :
    Sv ca W X (.While (.Compare (.NamedExpr (.Name x q1) a q2) [.Is] [.Constant .none j q3] q4) s1 [] pos) (whN tmp i fa f n) :=
  PS_imp (ps_whileW hp (ptw_cmp op_isA (pew_named hN hi hx (pew_of h) hf) pe_non rfl) hb pss_nil) fun _ _ _ => st_whN
end
end S3

/-! C7: comprehensions of two clauses: lists, sets. -/
namespace S3
open PySem L2
/-! ### terms -/
/-- what the second clause walks: frozen -/
def wFz (f : EV) : WV := wE f fun r e => match stl r e with
  | some (d, e1) => (match items d with
    | some xs => .ok xs e1
    | none => .no)
  | none => .no
section
variable {β : Type}
def cpL (t : Tg) (c : TV) (f : EV) (add : β → D → Option β) : List D → Env → β → Option β
  | [], _, acc => some acc
  | d :: ds, e, acc => (match tgt t d e with
    | some e1 => (match c e1 with
      | .ok true e2 => (match f e2 with
        | .ok r e3 => (match stl r e3 with
          | some (x, _) => (match add acc x with
            | some acc' => cpL t c f add ds e acc'
            | none => none)
          | none => none)
        | _ => none)
      | .ok false _ => cpL t c f add ds e acc
      | _ => none)
    | none => none)
def cp2 (t : Tg) (c : TV) (f1 : EV) (own1 : List Nat) (t1 : Tg) (c1 : TV) (f : EV) (add : β → D → Option β) : List D → Env → β → Option β
  | [], _, acc => some acc
  | d :: ds, e, acc => (match tgt t d e with
    | some e1 => (match c e1 with
      | .ok true e2 => (match wFz f1 e2 with
        | .ok xs _ => (match cpL t1 c1 f add xs (wipeE (lock e1) own1) acc with
          | some acc' => cp2 t c f1 own1 t1 c1 f add ds e acc'
          | none => none)
        | _ => none)
      | .ok false _ => cp2 t c f1 own1 t1 c1 f add ds e acc
      | _ => none)
    | none => none)
end
def addL (acc : List D) (x : D) : Option (List D) := if acc.length < BIG then some (acc ++ [x]) else none
def addS (ks : List Key) (x : D) : Option (List Key) := match toKey x with
  | some k => if ks.length < 4000 then some (addKey ks k) else none
  | none => none
/-- [f for t in w if c for t1 in f1 if c1] -/
def eLc2 (own : List Nat) (own1 : List Nat) (t : Tg) (w : WV) (c : TV) (t1 : Tg) (f1 : EV) (c1 : TV) (f : EV) : EV := fun e => match w e with
  | .ok xs e1 => (match cp2 t c f1 own1 t1 c1 f addL xs (wipeE (lock e1) own) [] with
    | some ys => .ok (.nw (.lst ys)) e1
    | none => .no)
  | .ex x e1 => .ex x e1
  | .no => .no
def eSc2 (own : List Nat) (own1 : List Nat) (t : Tg) (w : WV) (c : TV) (t1 : Tg) (f1 : EV) (c1 : TV) (f : EV) : EV := fun e => match w e with
  | .ok xs e1 => (match cp2 t c f1 own1 t1 c1 f addS xs (wipeE (lock e1) own) [] with
    | some ys => .ok (.nw (.st ys)) e1
    | none => .no)
  | .ex x e1 => .ex x e1
  | .no => .no
section
variable {Z : Wd} {F F' H H' : Hp} {N : En} {σ : St} {e e' : Env} {v x y : V} {W : WX} {E : Ends}
/-- the walker J gives the items ds, all frozen -/
def WalkFz (Z : Wd) (F : Hp) (J : It) (ds : List D) : Prop := ∀ F' H', Same F F' → Same F' H' → ∀ i,
  (∀ d, ds[i]? = some d → J.go i H' ∧ ∀ x H2, J.yld i H' x H2 → ∃ F2, Gr F' H' F2 H2 ∧ Rp Z F2 x d) ∧ (ds.length ≤ i → J.stop i H')
theorem wfz_seq {K : PySem.W.Frag} {a : Addr} {xs : List V} {ds : List D} (k : F a = some (.lst xs)) (ra : RpA Z F xs ds) : WalkFz Z F (Itl K a) ds := fun F' H' f l i => by
  have hx : H' a = some (.lst xs) := l _ _ (f _ _ k)
  refine ⟨fun d hd => ?_, fun hl => ⟨xs, SqL.of hx, by rw [ra.length]; exact hl⟩⟩
  obtain ⟨w, hw, rw'⟩ := ra.get hd
  refine ⟨⟨xs, w, SqL.of hx, hw⟩, fun x H2 ⟨e2, y⟩ => ?_⟩
  subst e2
  have := y xs (SqL.of hx)
  rw [hw] at this
  cases this
  exact ⟨F', Gr.refl l, rw'.mono f⟩
theorem wfz_tup {K : PySem.W.Frag} {a : Addr} {xs : List V} {ds : List D} (k : F a = some (.tup xs)) (ra : RpA Z F xs ds) : WalkFz Z F (Itt K a) ds := fun F' H' f l i => by
  have hx : H' a = some (.tup xs) := l _ _ (f _ _ k)
  refine ⟨fun d hd => ?_, fun hl => ⟨xs, SqT.of hx, by rw [ra.length]; exact hl⟩⟩
  obtain ⟨w, hw, rw'⟩ := ra.get hd
  refine ⟨⟨xs, w, SqT.of hx, hw⟩, fun x H2 ⟨e2, y⟩ => ?_⟩
  subst e2
  have := y xs (SqT.of hx)
  rw [hw] at this
  cases this
  exact ⟨F', Gr.refl l, rw'.mono f⟩
theorem wfz_str {x : Str} (hx : sOk x = true) : WalkFz Z F (Its x) (x.cps.toList.map fun c => .str ⟨#[c]⟩) := fun F' H' f l i => by
  refine ⟨fun d hd => ?_, fun hl => ?_⟩
  · rw [List.getElem?_map, Option.map_eq_some_iff] at hd
    obtain ⟨c, hc, rfl⟩ := hd
    have hc' : x.cps[i]? = some c := by rw [← hc, Array.getElem?_toList]
    refine ⟨(Array.getElem?_eq_some_iff.mp hc').1, fun v H2 ⟨e2, c2, hc2, ev⟩ => ?_⟩
    subst e2 ev
    rw [hc'] at hc2
    cases hc2
    refine ⟨F', Gr.refl l, .str _ (sOk_of (by show 1 ≤ LIM; decide) ?_)⟩
    have h3 := Array.all_eq_true_iff_forall_mem.mp (sOk_cps hx) c (Array.mem_of_getElem? hc')
    simpa using h3
  · rw [List.length_map, Array.length_toList] at hl
    exact hl
def PostF (Z : Wd) (N : En) (F : Hp) (σ : St) (W : WX) (R : It → Hp → Prop) : RW → Prop
  | .no => False
  | .ok xs e => ∀ J F' H', Same F F' → SOk Z N F' H' σ e → WalkFz Z F' J xs → R J H'
  | .ex x e => ∀ cls d F' H', Same F F' → SOk Z N F' H' σ e → ExOk Z F' H' x cls d → W cls d σ H'
def tWf (Z : Wd) (W : WX) (f : EV) : TI := fun σ H R => ∃ N F e, SOk Z N F H σ e ∧ PostF Z N F σ W R (wFz f e)
theorem wf_rd {K : PySem.W.Frag} (hK : Z.K = K) {f : EV} {R : It → Hp → Prop} (h : tWf Z W f σ H R) : iAny K (tEv Z W f) σ H R := by
  obtain ⟨N, F, e, S, P⟩ := h
  unfold wFz wE at P
  cases q : f e with
  | no => rw [q] at P; exact P.elim
  | ex z e1 =>
    rw [q] at P
    refine .inl ⟨N, F, e, S, ?_⟩
    rw [q]
    exact fun cls d F1 H1 f1 S1 x => P cls d F1 H1 f1 S1 x
  | ok r e0 =>
    rw [q] at P
    dsimp only at P
    cases q1 : stl r e0 with
    | none => rw [q1] at P; exact P.elim
    | some pr =>
      obtain ⟨d, e1⟩ := pr
      rw [q1] at P
      dsimp only at P
      cases q2 : items d with
      | none => rw [q2] at P; exact P.elim
      | some xs =>
        rw [q2] at P
        dsimp only at P
        have h : ∀ J F2 H2, Same F F2 → SOk Z N F2 H2 σ e1 → WalkFz Z F2 J xs → R J H2 := P
        cases d <;> simp only [items] at q2 <;> cases q2
        · refine .inr (.inr ⟨N, F, e, S, ?_⟩)
          rw [q]
          intro v F1 H1 f1 S1 R1
          obtain ⟨F2, f2, S2, h2⟩ := RvOk.stl S1 R1 q1
          have hs := RdV.str (H := H1) (.inl h2)
          exact ⟨_, hs.1, h _ F2 H1 (f1.trans f2) S2 (wfz_str hs.2.2)⟩
        · refine .inl ⟨N, F, e, S, ?_⟩
          rw [q]
          intro v F1 H1 f1 S1 R1
          obtain ⟨F2, f2, S2, h2⟩ := RvOk.stl S1 R1 q1
          cases h2 with
          | lst k ra => exact ⟨_, rfl, ⟨_, SqL.of (S2.le _ _ k)⟩, h _ F2 H1 (f1.trans f2) S2 (wfz_seq k ra)⟩
        · refine .inr (.inl ⟨N, F, e, S, ?_⟩)
          rw [q]
          intro v F1 H1 f1 S1 R1
          obtain ⟨F2, f2, S2, h2⟩ := RvOk.stl S1 R1 q1
          cases h2 with
          | tup k ra => exact ⟨_, rfl, ⟨_, SqT.of (S2.le _ _ k)⟩, h _ F2 H1 (f1.trans f2) S2 (wfz_tup k ra)⟩
        · refine .inl ⟨N, F, e, S, ?_⟩
          rw [q]
          intro v F1 H1 f1 S1 R1
          obtain ⟨F2, f2, S2, h2⟩ := RvOk.stl S1 R1 q1
          obtain ⟨a, e2, h3, w⟩ := walk_scr (N := ⟨F2, H1, [], fun _ => none⟩) (F := F2) (H := H1) hK S2.lockd h2
          subst hK
          cases h2 with
          | @scr a' xs' _ k ra =>
            refine ⟨_, rfl, ⟨_, Same.seq S2.le k⟩, h _ F2 H1 (f1.trans f2) S2 fun F' H' f l i => ?_⟩
            have hx := Same.seq l (Same.seq f k)
            refine ⟨fun d hd => ?_, fun hl => ⟨xs', hx, by rw [ra.length]; exact hl⟩⟩
            obtain ⟨w, hw, rw'⟩ := ra.get hd
            refine ⟨⟨xs', w, hx, hw⟩, fun x H2 ⟨e2, y⟩ => ?_⟩
            subst e2
            have := y xs' hx
            rw [hw] at this
            cases this
            exact ⟨F', Gr.refl l, rw'.mono f⟩
/-! ### a heap without one place -/
def cutA (H : Hp) (A : Addr) : Hp := fun b => if b = A then none else H b
theorem cutA_self {H : Hp} {A : Addr} : cutA H A A = none := if_pos rfl
theorem cutA_upd {H : Hp} {A : Addr} (x : HO) : upd H A x = upd (cutA H A) A x := by
  funext b
  show (if b = A then some x else H b) = (if b = A then some x else (if b = A then none else H b))
  by_cases z : b = A
  · rw [if_pos z, if_pos z]
  · rw [if_neg z, if_neg z, if_neg z]
theorem cutA_in {H : Hp} {A : Addr} {o : HO} (h : H A = some o) : H = upd (cutA H A) A o := by
  rw [← cutA_upd]
  funext b
  by_cases z : b = A
  · subst z; rw [upd_same, h]
  · rw [upd_ne z]
theorem back_all {A : Addr} {o : HO} {F1 Hm F2 H2 F3 H3 : Hp} {σ3 : St} {e3 : Env} (no : NT o) (nA : Hm A = none) (l1 : Same F1 Hm) (g : Gr F1 (upd Hm A o) F2 H2) (T : SOk Z ⟨F2, H2, [], fun _ => none⟩ F3 H3 σ3 e3) :
    H3 A = some o ∧ F3 A = none ∧ Same F1 F3 ∧ ∀ {N : En} {σ : St} {e : Env}, SOk Z N F1 Hm σ e → SOk Z N F3 (cutA H3 A) σ e := by
  have A2 : H2 A = some o := g.h _ _ upd_same
  have FA : F2 A = none := g.nf A _ upd_same no (none_le l1 nA)
  have k1 : H3 A = some o := T.h0 A _ A2 (by simp)
  have k2 : F3 A = none := T.nf A _ A2 no FA
  refine ⟨k1, k2, g.f.trans T.f0, fun S1 => S1.grow (g.f.trans T.f0) (fun b o' hb => ?_) (fun b o' hb => ?_) (fun b u hb nt n => ?_)⟩
  · have nb : b ≠ A := ne_of_none hb nA
    show (if b = A then none else H3 b) = some o'
    rw [if_neg nb]
    exact T.h0 b o' (g.h _ _ (by rw [upd_ne nb]; exact hb)) (by simp)
  · have nb : b ≠ A := fun z => by subst z; rw [k2] at hb; cases hb
    show (if b = A then none else H3 b) = some o'
    rw [if_neg nb]
    exact T.le _ _ hb
  · have nb : b ≠ A := ne_of_none hb nA
    have hb' : upd Hm A o b = some u := by rw [upd_ne nb]; exact hb
    exact T.nf b u (g.h _ _ hb') nt (g.nf b u hb' nt n)
/-! ### the block's slots behind a target -/
theorem setAll_get : ∀ {is : List Nat} {ds : List D} {e e1 : Env}, setAll is ds e = some e1 → e1.length = e.length ∧ ∀ j, (j ∉ is → e1[j]? = e[j]?) ∧ (j ∈ is → j < e.length → ∃ d, e1[j]? = some (.fz d))
  | [], [], e, e1, h => by cases h; exact ⟨rfl, fun j => ⟨fun _ => rfl, fun h => by cases h⟩⟩
  | [], _ :: _, _, _, h => by cases h
  | _ :: _, [], _, _, h => by cases h
  | i :: is, d :: ds, e, e1, h => by
    obtain ⟨h1, h2⟩ := setAll_get (is := is) (ds := ds) h
    rw [List.length_set] at h1
    refine ⟨h1, fun j => ⟨fun hj => ?_, fun hj hl => ?_⟩⟩
    · rw [List.mem_cons, not_or] at hj
      rw [(h2 j).1 hj.2, List.getElem?_set_ne (Ne.symm hj.1)]
    · by_cases m : j ∈ is
      · exact (h2 j).2 m (by rw [List.length_set]; exact hl)
      · have e : j = i := (List.mem_cons.mp hj).resolve_right m
        subst e
        exact ⟨d, by rw [(h2 j).1 m, List.getElem?_set_self hl]⟩
theorem tgt_get {t : Tg} {d : D} {e e1 : Env} (h : tgt t d e = some e1) : e1.length = e.length ∧ ∀ j, (j ∉ tgIx t → e1[j]? = e[j]?) ∧ (j ∈ tgIx t → j < e.length → ∃ d, e1[j]? = some (.fz d)) := by
  cases t with
  | one i => exact setAll_get (is := [i]) (ds := [d]) h
  | tup is => cases d <;> simp only [tgt] at h <;> first | exact setAll_get h | cases h
theorem SOk.tgtB {N2 : En} {F Hc H2 : Hp} {NB : En} {σ σ2 : St} {e0 e2 : Env} {t : Tg} {d : D} (own : List Nat) (SB : SOk Z NB F Hc σ (wipeE (lock e0) own)) (S4 : SOk Z N2 F H2 σ2 e2) (off : Off (tgIx t) σ σ2) (h : tgt t d (wipeE (lock e0) own) = some e2) (hM : NB.M = []) : SOk Z NB F Hc σ2 e2 := by
  obtain ⟨h1, h2⟩ := tgt_get h
  have nown : ∀ (j : Nat) (s : Sl), e2[j]? = some s → s.own = false := fun j s hj => by
    by_cases m : j ∈ tgIx t
    · obtain ⟨d', hd⟩ := (h2 j).2 m (by rw [← h1]; exact (List.getElem?_eq_some_iff.mp hj).1)
      rw [hd] at hj; cases hj; rfl
    · rw [(h2 j).1 m, wipeE_get] at hj
      split at hj
      · cases hj; rfl
      · obtain ⟨u, _, rfl⟩ := get_lock hj
        cases u <;> rfl
  refine ⟨SB.le, SB.f0, SB.h0, SB.nf, by rw [off.1, SB.len, h1], fun j s hj => ?_, fun i j s t' a g1 g2 ne o => ?_, fun a ha => ?_, fun j d' hj => ?_⟩
  · by_cases m : j ∈ tgIx t
    · obtain ⟨d', hd⟩ := (h2 j).2 m (by rw [← h1]; exact (List.getElem?_eq_some_iff.mp hj).1)
      have hj2 := hj
      rw [hd] at hj
      cases hj
      obtain ⟨o, q1, q2⟩ := S4.slot j _ hj2
      exact ⟨o, q1, q2⟩
    · rw [(h2 j).1 m] at hj
      rw [off.2 j m]
      exact SB.slot j s hj
  · rw [nown i s g1] at o; cases o
  · rw [hM] at ha; cases ha
  · have := nown j _ hj
    cases this
/-- two clauses: the core -/
theorem cp2_sound {β : Type} {Acc : Hp → β → HO → Prop} {K : V → Hp → (Hp → Prop) → Prop} {add : β → D → Option β} {A : Addr} {acc0 ys : β} {o0 : HO} {g g1 : TG} {t t1 : Tg} {own own1 : List Nat} {c c1 : TV} {f1 f : EV} {J : It} {ds : List D} {Q : VK}
    (mono : ∀ F F' acc o, Same F F' → Acc F acc o → Acc F' acc o) (hNT : ∀ F acc o, Acc F acc o → NT o) (hK : ∀ F acc acc' x o H7 y Nx, Acc F acc o → add acc x = some acc' → Rp Z F y x → H7 A = some o → (∀ o', Acc F acc' o' → Nx (upd H7 A o')) → K y H7 Nx)
    (tk : TgOk Z g t) (sub : ∀ i ∈ tgIx t, i ∈ own) (tk1 : TgOk Z g1 t1) (sub1 : ∀ i ∈ tgIx t1, i ∈ own1) (S : SOk Z N F H σ e) (wk : WalkOk Z N F J ds)
    (hl : cp2 t c f1 own1 t1 c1 f add ds (wipeE (lock e) own) acc0 = some ys) (h0 : Acc F acc0 o0) (hA : H A = none) (P : ∀ F' Hm o, Same F F' → SOk Z N F' Hm σ e → Hm A = none → Acc F' ys o → Q (.ref A) (upd Hm A o)) :
    ∃ Wm : Nat → Nat → Hp → Prop, (∃ m, Wm 0 m (upd H A o0)) ∧ ∀ i m H, Wm i m H → (J.stop i H ∧ Q (.ref A) H) ∨ (J.go i H ∧ ∃ Nx : Hp → Prop, (∀ H', Nx H' → ∃ m', m' < m ∧ Wm (i + 1) m' H') ∧
      ∀ x H', J.yld i H x H' → g x (wipe σ own) H' fun σ2 H2 => wipe σ2 own = wipe σ own ∧ tTv Z W0 c σ2 H2 fun b H3 =>
        if b = true then tWf Z W0 f1 σ2 H3 fun J1 H4 => ∃ W1 : Nat → Nat → Hp → Prop, (∃ m, W1 0 m H4) ∧ ∀ j k H, W1 j k H →
          (J1.stop j H ∧ Nx H) ∨ (J1.go j H ∧ ∃ Nx1 : Hp → Prop, (∀ H', Nx1 H' → ∃ k', k' < k ∧ W1 (j + 1) k' H') ∧ ∀ x H', J1.yld j H x H' → g1 x (wipe σ2 own1) H' fun σ3 H5 => wipe σ3 own1 = wipe σ2 own1 ∧ tTv Z W0 c1 σ3 H5 fun b H6 =>
            if b = true then tEv Z W0 f σ3 H6 fun y H7 => K y H7 Nx1 else Nx1 H6)
        else Nx H3) := by
  refine ⟨fun i m Hx => m = ds.length - i ∧ i ≤ ds.length ∧ ∃ F' Hm acc o, Same F F' ∧ SOk Z N F' Hm σ e ∧ Hm A = none ∧ Hx = upd Hm A o ∧ Acc F' acc o ∧ cp2 t c f1 own1 t1 c1 f add (ds.drop i) (wipeE (lock e) own) acc = some ys,
    ⟨ds.length, rfl, Nat.zero_le _, F, H, acc0, o0, Same.refl _, S, hA, rfl, h0, hl⟩, ?_⟩
  rintro i m _ ⟨rfl, hi, F1, Hm, acc, o, f1', S1, nA, rfl, ra, hl1⟩
  have SH : SOk Z N F1 (upd Hm A o) σ e := S1.gr (Gr.lay S1.le nA)
  obtain ⟨w1, w2⟩ := wk F1 _ σ e SH f1' i
  by_cases hlt : i < ds.length
  · have ed : ds.drop i = ds[i] :: ds.drop (i + 1) := List.drop_eq_getElem_cons hlt
    have ei : ds[i]? = some ds[i] := List.getElem?_eq_getElem hlt
    rw [ed] at hl1
    generalize ds[i] = d at hl1 ei
    obtain ⟨go, yl⟩ := w1 d ei
    refine .inr ⟨go, fun Hx => ∃ F' Hm acc o, Same F F' ∧ SOk Z N F' Hm σ e ∧ Hm A = none ∧ Hx = upd Hm A o ∧ Acc F' acc o ∧ cp2 t c f1 own1 t1 c1 f add (ds.drop (i + 1)) (wipeE (lock e) own) acc = some ys,
      fun H' h => ⟨ds.length - (i + 1), by omega, rfl, hlt, h⟩, fun x H2 hy => ?_⟩
    obtain ⟨F2, g2, r2⟩ := yl x H2 hy
    have S2 := SH.gr g2
    have S3' := S2.lockd.wipe2 own
    unfold cp2 at hl1
    cases q : tgt t d (wipeE (lock e) own) with
    | none => rw [q] at hl1; cases hl1
    | some e2 =>
      rw [q] at hl1
      dsimp only at hl1
      refine tk ⟨F2, H2, [], fun _ => none⟩ F2 H2 (wipe σ own) (wipeE (lock e) own) x d e2 _ S3' r2 q fun σ2 S4 off => ⟨by rw [wipe_off off sub, wipe_wipe], ⟨F2, H2, [], fun _ => none⟩, F2, e2, S4, ?_⟩
      -- the block's slots over the heap without the new object
      have SB : SOk Z ⟨F1, Hm, [], fun _ => none⟩ F2 (cutA H2 A) σ2 e2 := by
        have S0 := S1.lockd.wipe2 own
        obtain ⟨_, _, _, bk⟩ := back_all (hNT _ _ _ ra) nA S1.le g2 S4
        exact SOk.tgtB own (bk S0) S4 off q rfl
      cases q2 : c e2 with
      | no => rw [q2] at hl1; cases hl1
      | ex z e3 => rw [q2] at hl1; cases hl1
      | ok b e3 =>
        rw [q2] at hl1
        intro F3 H3 f3 T3
        cases b with
        | false =>
          refine iteF ?_
          obtain ⟨k1, k2, k3, bk⟩ := back_all (hNT _ _ _ ra) nA S1.le g2 T3
          exact ⟨F3, cutA H3 A, acc, o, f1'.trans k3, bk S1, cutA_self, cutA_in k1, mono _ _ _ _ k3 ra, hl1⟩
        | true =>
          dsimp only at hl1
          refine iteT ⟨⟨F2, H2, [], fun _ => none⟩, F3, e3, T3, ?_⟩
          cases q3 : wFz f1 e3 with
          | no => rw [q3] at hl1; cases hl1
          | ex z e4 => rw [q3] at hl1; cases hl1
          | ok xs e4 =>
            rw [q3] at hl1
            dsimp only at hl1
            cases q4 : cpL t1 c1 f add xs (wipeE (lock e2) own1) acc with
            | none => rw [q4] at hl1; cases hl1
            | some acc1 =>
              rw [q4] at hl1
              dsimp only at hl1
              intro J1 F4 H4 f4 T4 wk1
              obtain ⟨k1, k2, k3, bk⟩ := back_all (hNT _ _ _ ra) nA S1.le g2 T4
              have SB4 : SOk Z ⟨F1, Hm, [], fun _ => none⟩ F4 (cutA H4 A) σ2 e2 := by
                refine SB.grow (f3.trans f4) (fun b o' hb => ?_) (bk S1).le (fun b u hb nt n => ?_)
                · have nb : b ≠ A := fun z => by subst z; rw [cutA_self] at hb; cases hb
                  have hb' : H2 b = some o' := by have hb : (if b = A then none else H2 b) = some o' := hb; rwa [if_neg nb] at hb
                  show (if b = A then none else H4 b) = some o'
                  rw [if_neg nb]
                  exact T4.h0 b o' hb' (by simp)
                · have nb : b ≠ A := fun z => by subst z; rw [cutA_self] at hb; cases hb
                  have hb' : H2 b = some u := by have hb : (if b = A then none else H2 b) = some u := hb; rwa [if_neg nb] at hb
                  exact T4.nf b u hb' nt n
              refine ⟨fun j k Hx => k = xs.length - j ∧ j ≤ xs.length ∧ ∃ F' Hm' acc o, Same F4 F' ∧ SOk Z N F' Hm' σ e ∧ SOk Z ⟨F1, Hm, [], fun _ => none⟩ F' Hm' σ2 e2 ∧ Hm' A = none ∧ Hx = upd Hm' A o ∧ Acc F' acc o ∧ cpL t1 c1 f add (xs.drop j) (wipeE (lock e2) own1) acc = some acc1,
                ⟨xs.length, rfl, Nat.zero_le _, F4, cutA H4 A, acc, o, Same.refl _, bk S1, SB4, cutA_self, cutA_in k1, mono _ _ _ _ k3 ra, q4⟩, ?_⟩
              rintro j k _ ⟨rfl, hj, F5, Hm5, acc5, o5, f5, S5, SB5, nA5, rfl, ra5, hl5⟩
              have SBH := SB5.gr (Gr.lay (o := o5) SB5.le nA5)
              obtain ⟨v1, v2⟩ := wk1 F5 (upd Hm5 A o5) f5 SBH.le j
              by_cases hlt5 : j < xs.length
              · have ed5 : xs.drop j = xs[j] :: xs.drop (j + 1) := List.drop_eq_getElem_cons hlt5
                have ei5 : xs[j]? = some xs[j] := List.getElem?_eq_getElem hlt5
                rw [ed5] at hl5
                generalize xs[j] = d5 at hl5 ei5
                obtain ⟨go5, yl5⟩ := v1 d5 ei5
                refine .inr ⟨go5, fun Hx => ∃ F' Hm' acc o, Same F4 F' ∧ SOk Z N F' Hm' σ e ∧ SOk Z ⟨F1, Hm, [], fun _ => none⟩ F' Hm' σ2 e2 ∧ Hm' A = none ∧ Hx = upd Hm' A o ∧ Acc F' acc o ∧ cpL t1 c1 f add (xs.drop (j + 1)) (wipeE (lock e2) own1) acc = some acc1,
                  fun H' h => ⟨xs.length - (j + 1), by omega, rfl, hlt5, h⟩, fun x5 H6 hy5 => ?_⟩
                obtain ⟨F6, g6, r6⟩ := yl5 x5 H6 hy5
                have S6 := (SBH.gr g6).lockd.wipe2 own1
                unfold cpL at hl5
                cases p1 : tgt t1 d5 (wipeE (lock e2) own1) with
                | none => rw [p1] at hl5; cases hl5
                | some e6 =>
                  rw [p1] at hl5
                  dsimp only at hl5
                  refine tk1 ⟨F6, H6, [], fun _ => none⟩ F6 H6 (wipe σ2 own1) (wipeE (lock e2) own1) x5 d5 e6 _ S6 r6 p1 fun σ3 S7 off3 => ⟨by rw [wipe_off off3 sub1, wipe_wipe], ⟨F6, H6, [], fun _ => none⟩, F6, e6, S7, ?_⟩
                  cases p2 : c1 e6 with
                  | no => rw [p2] at hl5; cases hl5
                  | ex z e7 => rw [p2] at hl5; cases hl5
                  | ok b e7 =>
                    rw [p2] at hl5
                    intro F7 H7 f7 T7
                    cases b with
                    | false =>
                      refine iteF ?_
                      obtain ⟨l1, l2, l3, bk7⟩ := back_all (hNT _ _ _ ra5) nA5 SB5.le g6 T7
                      exact ⟨F7, cutA H7 A, acc5, o5, f5.trans l3, bk7 S5, bk7 SB5, cutA_self, cutA_in l1, mono _ _ _ _ l3 ra5, hl5⟩
                    | true =>
                      dsimp only at hl5
                      refine iteT ⟨⟨F6, H6, [], fun _ => none⟩, F7, e7, T7, ?_⟩
                      cases p3 : f e7 with
                      | no => rw [p3] at hl5; cases hl5
                      | ex z e8 => rw [p3] at hl5; cases hl5
                      | ok r e8 =>
                        rw [p3] at hl5
                        dsimp only at hl5
                        cases p4 : stl r e8 with
                        | none => rw [p4] at hl5; cases hl5
                        | some pr =>
                          obtain ⟨x', e9⟩ := pr
                          rw [p4] at hl5
                          dsimp only at hl5
                          cases p5 : add acc5 x' with
                          | none => rw [p5] at hl5; cases hl5
                          | some acc6 =>
                            rw [p5] at hl5
                            dsimp only at hl5
                            intro v F8 H8 f8 T8 R8
                            obtain ⟨F9, f9, T9, r9⟩ := RvOk.stl T8 R8 p4
                            obtain ⟨l1, l2, l3, bk9⟩ := back_all (hNT _ _ _ ra5) nA5 SB5.le g6 T9
                            exact hK F9 _ acc6 x' o5 H8 v _ (mono _ _ _ _ l3 ra5) p5 r9 l1 fun o' ho' => ⟨F9, cutA H8 A, acc6, o', f5.trans l3, bk9 S5, bk9 SB5, cutA_self, cutA_upd _, ho', hl5⟩
              · have e0 : xs.drop j = [] := List.drop_eq_nil_of_le (Nat.le_of_not_lt hlt5)
                rw [e0] at hl5
                unfold cpL at hl5
                have e5 := Option.some.inj hl5
                rw [← e5] at hl1
                exact .inl ⟨v2 (Nat.le_of_not_lt hlt5), F5, Hm5, acc5, o5, (f1'.trans k3).trans f5, S5, nA5, rfl, ra5, hl1⟩
  · have e0 : ds.drop i = [] := List.drop_eq_nil_of_le (Nat.le_of_not_lt hlt)
    rw [e0] at hl1
    unfold cp2 at hl1
    cases hl1
    exact .inl ⟨w2 (Nat.le_of_not_lt hlt), P F1 Hm o f1' S1 nA ra⟩
theorem lc2_rd {g g1 : TG} {t t1 : Tg} {own own1 : List Nat} {w : WV} {c c1 : TV} {f1 f : EV} {Q : VK} (tk : TgOk Z g t) (sub : ∀ i ∈ tgIx t, i ∈ own) (tk1 : TgOk Z g1 t1) (sub1 : ∀ i ∈ tgIx t1, i ∈ own1) (h : tEv Z W (eLc2 own own1 t w c t1 f1 c1 f) σ H Q) :
    tLc2 (tWv Z W w) g (tTv Z W0 c) (tWf Z W0 f1) g1 (tTv Z W0 c1) (tEv Z W0 f) own own1 σ H Q := by
  obtain ⟨N, F, e, S, P⟩ := h
  unfold eLc2 at P
  refine ⟨N, F, e, S, ?_⟩
  cases q : w e with
  | no => rw [q] at P; exact P
  | ex z e1 => rw [q] at P; exact P
  | ok xs e1 =>
    rw [q] at P
    dsimp only at P
    cases q1 : cp2 t c f1 own1 t1 c1 f addL xs (wipeE (lock e1) own) [] with
    | none => rw [q1] at P; exact P.elim
    | some ys =>
      rw [q1] at P
      dsimp only at P
      intro J F1 H1 fs S1 wk A hA
      refine cp2_sound (Acc := fun F acc o => ∃ vs, o = .lst vs ∧ RpA Z F vs acc) (K := fun y H7 Nx => ∃ acc, H7 A = some (.lst acc) ∧ acc.length < sizeLine ∧ Nx (upd H7 A (.lst (acc ++ [y])))) (add := addL) (acc0 := []) (o0 := .lst []) ?_ ?_ ?_ tk sub tk1 sub1 S1 wk q1 ⟨[], rfl, .nil⟩ hA ?_
      · rintro F F' acc o f ⟨vs, rfl, r⟩
        exact ⟨vs, rfl, r.mono f⟩
      · rintro F acc o ⟨vs, rfl, r⟩ _ z; cases z
      · rintro F acc acc' x o H7 y Nx ⟨vs, rfl, r⟩ ha ry h7 hn
        unfold addL at ha
        split at ha
        · rename_i hz
          cases ha
          exact ⟨vs, h7, by rw [r.length, sizeLine_eq]; exact hz, hn _ ⟨_, rfl, r.append (.cons ry .nil)⟩⟩
        · cases ha
      · rintro F' Hm o f' S' nA ⟨vs, rfl, r⟩
        exact P (.ref A) F' _ (fs.trans f') (S'.gr (Gr.lay S'.le nA)) (S'.rvok (Gr.lay S'.le nA) ⟨A, rfl, nA, none_le S'.le nA, vs, upd_same, r⟩)
theorem sc2_rd {g g1 : TG} {t t1 : Tg} {own own1 : List Nat} {w : WV} {c c1 : TV} {f1 f : EV} {Q : VK} (tk : TgOk Z g t) (sub : ∀ i ∈ tgIx t, i ∈ own) (tk1 : TgOk Z g1 t1) (sub1 : ∀ i ∈ tgIx t1, i ∈ own1) (h : tEv Z W (eSc2 own own1 t w c t1 f1 c1 f) σ H Q) :
    SX.tSc2G Z.P Z.w (tWv Z W w) g (tTv Z W0 c) (tWf Z W0 f1) g1 (tTv Z W0 c1) (tEv Z W0 f) own own1 σ H Q := by
  obtain ⟨N, F, e, S, P⟩ := h
  unfold eSc2 at P
  refine ⟨N, F, e, S, ?_⟩
  cases q : w e with
  | no => rw [q] at P; exact P
  | ex z e1 => rw [q] at P; exact P
  | ok xs e1 =>
    rw [q] at P
    dsimp only at P
    cases q1 : cp2 t c f1 own1 t1 c1 f addS xs (wipeE (lock e1) own) [] with
    | none => rw [q1] at P; exact P.elim
    | some ys =>
      rw [q1] at P
      dsimp only at P
      intro J F1 H1 fs S1 wk A hA
      refine cp2_sound (Acc := fun F ks o => o = SetGO Z.P Z.w A ks ∧ kOk ks) (K := fun y H7 Nx => ∃ k ks, y = kV k ∧ H7 A = some (SetGO Z.P Z.w A ks) ∧ ks.length + 1 < PySem.scanBound ∧ Nx (upd H7 A (SetGO Z.P Z.w A (addKey ks k)))) (add := addS) (acc0 := []) (o0 := SetGO Z.P Z.w A []) ?_ ?_ ?_ tk sub tk1 sub1 S1 wk q1 ⟨rfl, fun x hx => by cases hx⟩ hA ?_
      · rintro F F' acc o f r
        exact r
      · rintro F acc o ⟨rfl, r⟩ _ z; cases z
      · rintro F ks ks' x o H7 y Nx ⟨rfl, r⟩ ha ry h7 hn
        unfold addS at ha
        cases hk : toKey x with
        | none => rw [hk] at ha; cases ha
        | some k =>
          rw [hk] at ha
          dsimp only at ha
          split at ha
          · rename_i hz
            cases ha
            have kk : kOk [k] := toKeys_ok (ds := [x]) (.cons ry .nil) (by simp only [toKeys, hk])
            exact ⟨k, ks, toKey_rd (H := H7) (.inl ry) hk, h7, by unfold PySem.scanBound; omega, hn _ ⟨rfl, kOk_add r kk⟩⟩
          · cases ha
      · rintro F' Hm o f' S' nA ⟨rfl, r⟩
        exact P (.ref A) F' _ (fs.trans f') (S'.gr (Gr.lay S'.le nA)) (S'.rvok (Gr.lay S'.le nA) ⟨A, rfl, nA, none_le S'.le nA, upd_same, r⟩)
end
section
variable {ca : Str → Option Addr} {W : WX} {X : Cx} {fe f1 : EV} {w : WV} {c c1 : TV} {elt tg iter tg1 iter1 : Expr} {ifs ifs1 : List Expr} {scope : Scope} {own : List (Str × Nat)} {own1 : List Nat} {pos : Pos} {g g1 : TG} {t t1 : Tg}
theorem wf_any {X : Cx} {tg iter : Expr} {f1 : EV} (h : Ev ca W0 X iter f1) : PI X tg iter (tWf (zw ca X) W0 f1) := PI_imp (pi_any h) fun _ _ _ => wf_rd rfl
theorem ev_lc2 (hc : X.calm = true) (hN : X.N.Nodup) (hi : Wv ca W X tg iter w) (ok : BlkOk X.N X.env.scope scope own) (hv : ∀ i ∈ own1, i ∈ own.map (·.2)) (tk : TgOk (zw ca X) g t) (sub : ∀ i ∈ tgIx t, i ∈ own.map (·.2)) (tk1 : TgOk (zw ca X) g1 t1) (sub1 : ∀ i ∈ tgIx t1, i ∈ own1)
    (hg : ∀ (s : Shared) (H : Hp) (C : Addr) (cl : List (Str × Addr)) (fp : List Addr), PG (X.blk s H scope (compEnvC scope cl C X.env) fp) tg g)
    (ht : ∀ (s : Shared) (H : Hp) (C : Addr) (cl : List (Str × Addr)) (fp : List Addr), PTs (X.blk s H scope (compEnvC scope cl C X.env) fp) ifs (tTv (zw ca X) W0 c))
    (hi1 : ∀ (s : Shared) (H : Hp) (C : Addr) (cl : List (Str × Addr)) (fp : List Addr), Ev ca W0 (X.blk s H scope (compEnvC scope cl C X.env) fp) iter1 f1)
    (hg1 : ∀ (s : Shared) (H : Hp) (C : Addr) (cl : List (Str × Addr)) (fp : List Addr), PG (X.blk s H scope (compEnvC scope cl C X.env) fp) tg1 g1)
    (ht1 : ∀ (s : Shared) (H : Hp) (C : Addr) (cl : List (Str × Addr)) (fp : List Addr), PTs (X.blk s H scope (compEnvC scope cl C X.env) fp) ifs1 (tTv (zw ca X) W0 c1))
    (he : ∀ (s : Shared) (H : Hp) (C : Addr) (cl : List (Str × Addr)) (fp : List Addr), Ev ca W0 (X.blk s H scope (compEnvC scope cl C X.env) fp) elt fe) (hs : ∀ x, foldedSetIterable iter X.env x = pure x := by intro _; rfl) (hs1 : ∀ env x, foldedSetIterable iter1 env x = pure x := by intro _ _; rfl) :
    Ev ca W X (.ListComp elt [⟨tg, iter, ifs, 0⟩, ⟨tg1, iter1, ifs1, 0⟩] scope pos) (eLc2 (own.map (·.2)) own1 t w c t1 f1 c1 fe) :=
  PE_imp (pe_lc2 hc hN hi ok hv hg ht (fun s H C cl fp => wf_any (hi1 s H C cl fp)) hg1 ht1 he hs hs1) fun _ _ _ => lc2_rd tk sub tk1 sub1
theorem ev_sc2 (hc : X.calm = true) (hN : X.N.Nodup) (hi : Wv ca W X tg iter w) (ok : BlkOk X.N X.env.scope scope own) (hv : ∀ i ∈ own1, i ∈ own.map (·.2)) (tk : TgOk (zw ca X) g t) (sub : ∀ i ∈ tgIx t, i ∈ own.map (·.2)) (tk1 : TgOk (zw ca X) g1 t1) (sub1 : ∀ i ∈ tgIx t1, i ∈ own1)
    (hg : ∀ (s : Shared) (H : Hp) (C : Addr) (cl : List (Str × Addr)) (fp : List Addr), PG (X.blk s H scope (compEnvC scope cl C X.env) fp) tg g)
    (ht : ∀ (s : Shared) (H : Hp) (C : Addr) (cl : List (Str × Addr)) (fp : List Addr), PTs (X.blk s H scope (compEnvC scope cl C X.env) fp) ifs (tTv (zw ca X) W0 c))
    (hi1 : ∀ (s : Shared) (H : Hp) (C : Addr) (cl : List (Str × Addr)) (fp : List Addr), Ev ca W0 (X.blk s H scope (compEnvC scope cl C X.env) fp) iter1 f1)
    (hg1 : ∀ (s : Shared) (H : Hp) (C : Addr) (cl : List (Str × Addr)) (fp : List Addr), PG (X.blk s H scope (compEnvC scope cl C X.env) fp) tg1 g1)
    (ht1 : ∀ (s : Shared) (H : Hp) (C : Addr) (cl : List (Str × Addr)) (fp : List Addr), PTs (X.blk s H scope (compEnvC scope cl C X.env) fp) ifs1 (tTv (zw ca X) W0 c1))
    (he : ∀ (s : Shared) (H : Hp) (C : Addr) (cl : List (Str × Addr)) (fp : List Addr), Ev ca W0 (X.blk s H scope (compEnvC scope cl C X.env) fp) elt fe) (hs : ∀ x, foldedSetIterable iter X.env x = pure x := by intro _; rfl) (hs1 : ∀ env x, foldedSetIterable iter1 env x = pure x := by intro _ _; rfl) :
    Ev ca W X (.SetComp elt [⟨tg, iter, ifs, 0⟩, ⟨tg1, iter1, ifs1, 0⟩] scope pos) (eSc2 (own.map (·.2)) own1 t w c t1 f1 c1 fe) :=
  PE_imp (SX.pe_sc2G hc hN hi ok hv hg ht (fun s H C cl fp => wf_any (hi1 s H C cl fp)) hg1 ht1 he hs hs1) fun _ _ _ => sc2_rd tk sub tk1 sub1
end
end S3

/-! E1: an exception of an own class over ValueError whose __init__ says super().__init__('..') and keeps its arguments in fields of their names: what its making leaves. -/
namespace PySem
namespace S3X
open PySem.W PySem.Calls PyProof.Rows PySem.HandSPX

/-- the assignments self.f = f -/
def IsAsg : List Str → List Stmt → Prop
  | [], [] => True
  | f :: fs, s :: r => (∃ q1 q2 q3 q4, s = .Assign [.Attribute (.Name "self" q1) f q2] (.Name f q3) q4) ∧ IsAsg fs r
  | _, _ => False
/-- the text of such an __init__ -/
structure InitTxt (ps : Arguments) (sc : Scope) (body : List Stmt) (fs : List Str) : Prop where
  head : ∃ ar, (ps.posonlyargs ++ ps.args).head? = some ar ∧ ar.arg = "self"
  body : ∃ (txt : Str) (j : Nat) (p0 p1 p2 p3 p4 p5 : Pos) (asg : List Stmt), body = .Expr (.Call (.Attribute (.Call (.Name "super" p0) [] [] p1) "__init__" p2) [.Constant (.str txt) j p3] [] p4) p5 :: asg ∧ (p2.endLine == p4.line) = true ∧ IsAsg fs asg
  su : sc.names.lookup ("super" : Str) = some .globalImplicit
  cl : sc.names.lookup ("__class__" : Str) = some .free
  se : sc.names.lookup ("self" : Str) = some .local
  fl : ∀ f ∈ fs, sc.names.lookup f = some .local
  nd : (("self" : Str) :: fs).Nodup
  db : ∀ f ∈ fs, (f == ("__debug__" : Str)) = false
  nc : ∀ x ∈ sc.names, x.2 ≠ .cell
  co : sc.isCoroutine = false
  gn : sc.isGenerator = false
  kd : sc.kind = .function
/-- what the written part says of the class at C -/
structure ExT (prog : Program) (K : Frag) (C fI cc cda : Addr) (fd : FuncData) (fs : List Str) : Prop where
  cls : ∃ nm q N bs bm sn sub ab col dd k0 k1 k2 k3 k5, K.lookup C = some (excClassObj nm q C N bs bm true sn sub ab col dd k0 k1 k2 k3 k5 "ValueError.__new__") ∧ refsVE bm = true
  sa : findIn K (.ref C) "__setattr__" = some (some (.builtin "object.__setattr__"))
  exC : subIn K (.ref C) (.type "BaseException") = some true
  tyC : typeIn K (.ref C) = some (.type "type")
  kC : keepIn K (.ref C) = true
  noN : ∀ f ∈ fs, findIn K (.ref C) f = some none
  iC : findIn K (.ref C) "__init__" = some (some (.ref fI))
  tI : typeIn K (.ref fI) = some (.type "function")
  sup : ks_superIn K C C "__init__" = some (some (.builtin "ValueError.__init__"))
  vB : subIn K (.ref C) (.type "ValueError") = some true
  mC : mroIn K C (.ref C) = some true
  opq : nsIn K cStatics "thirdparty.any" = some none
  fn : ∃ oc od osl, K.lookup fI = some ⟨oc, od, .func fd, osl⟩
  fe : ∃ name qual params body scope dV kV doc pm an ct, fd = ksFn name qual params body scope dV kV doc pm an (.ref cda) ct cc ∧ InitTxt params scope body fs
  cd : codeIn K (.ref cda) fd.qualname = true
  code : ∃ ccl cdd vs ccs file tf, K.lookup cda = some ⟨ccl, cdd, .fields vs, ccs⟩ ∧ vs[2]? = some (.str file tf) ∧ ((prog.main.file : Str) == file) = true
  cell : ∃ cl cld csl, K.lookup cc = some ⟨cl, cld, .cell (some (.ref C)), csl⟩
  bd : ∀ (s : Shared) (e : Addr) (us : List Value), us.length = fs.length → BindsTo s fd ⟨.ref e :: us, []⟩ (("self", .ref e) :: fs.zip us)
  top : (prog.main.scope.names.lookup ("super" : Str)).isSome = false
abbrev exO (C : Addr) (d : Option Addr) (t : Addr) : Obj := { cls := .ref C, dict := d, data := .fields #[.ref t, .none, .none, .none, .bool false, .none] }
/-- fields put one after the other -/
def putAll : List (Str × Value) → (Str → Option Value) → Str → Option Value
  | [], m => m
  | (f, v) :: r, m => putAll r fun y => if y = f then some v else m y
section
variable {prog : Program} {w : World} {A : Around} {E : Value → Shared → Prop} {R : Result → Shared → Prop} {K : Frag} {C fI cc cda : Addr} {fd : FuncData} {fs : List Str}
theorem ldN {M : Model} {s : Shared} {env : Env} {m : Str → Option Value} {x : Str} {pos : Pos} {v : Value} {Q : Value → Shared → Prop} (hn : s.heap.Ns env.locals m) (hv : m x = some v) (h : Q v s)
    (hk : env.scope.kind = .function) (hl : env.kindOf x = some .local) (hd : (x == ("__debug__" : Str)) = false) : wpAny M A (eval (.Name x pos) env) Q E s := wpAny_Name (wpAny_loadName_local hk hl hn hv h) hd
theorem clsIn_of (T : ExT prog K C fI cc cda fd fs) : ∃ cd, clsIn K C = some cd ∧ refsVE cd.mro = true ∧ cd.hasDict = true := by
  obtain ⟨nm, q, N, bs, bm, sn, sub, ab, col, dd, k0, k1, k2, k3, k5, hC, hbm⟩ := T.cls
  refine ⟨{ name := nm, bases := bs, mro := .ref C :: bm, ns := N, qualname := q, hasDict := true, slotNames := sn, subclasses := sub, abstract := ab, collection := col, hasDel := false }, ?_, hbm, rfl⟩
  unfold clsIn; rw [hC] <;> rfl
/-- the further fields -/
theorem asgs_old (T : ExT prog K C fI cc cda fd fs) {env : Env} {m : Str → Option Value} {e : Addr} (hk : env.scope.kind = .function) (se : env.kindOf "self" = some .local) (ms : m "self" = some (.ref e)) :
    ∀ {l : List (Str × Value)} {body : List Stmt} {s : Shared} {dx t1 : Addr} {m0 : Str → Option Value} {nl : List Str} {Q : Flow → Shared → Prop}, IsAsg (l.map (·.1)) body → (∀ p ∈ l, m p.1 = some p.2 ∧ env.kindOf p.1 = some .local ∧ (p.1 == ("__debug__" : Str)) = false ∧ p.1 ∈ fs) →
      K.In s.heap → s.heap.Ns env.locals m → env.locals ≠ dx → env.locals ≠ e → dx ≠ e → (∀ o, K.lookup dx ≠ some o) → s.heap.get? e = some (exO C (some dx) t1) → s.heap.Ns1 dx m0 → Within m0 nl → nl.length + l.length ≤ 900 →
      (∀ h' tk, (∀ b o, b ≠ dx → s.heap.get? b = some o → h'.get? b = some o) → h'.Ns1 dx (putAll l m0) → Q .next { s with heap := h', toks := tk }) → wpAny (model prog w) A (execs body env) Q E s := by
  obtain ⟨cd, hcl, hmr, hdi⟩ := clsIn_of T
  intro l
  induction l with
  | nil =>
    intro body s dx t1 m0 nl Q hb _ _ _ _ _ _ _ _ hns _ _ hq
    cases body with
    | cons _ _ => exact hb.elim
    | nil => exact wpAny_execs_nil (hq s.heap s.toks (fun _ _ _ h => h) hns)
  | cons p l ih =>
    intro body s dx t1 m0 nl Q hb hp X hn nL ne nd nK he hns hw hz hq
    obtain ⟨f, v⟩ := p
    cases body with
    | nil => exact hb.elim
    | cons st body =>
      obtain ⟨⟨q1, q2, q3, q4, rfl⟩, hb⟩ := hb
      obtain ⟨mv, kf, df, hf⟩ := hp (f, v) List.mem_cons_self
      refine wpAny_execs_cons (plainObj_wpAny_Assign_Attribute ?_)
      refine ldN hn mv (ldN hn ms ?_ hk se (by decide)) hk kf df
      obtain ⟨hp', g, d, t, os⟩ := s
      obtain ⟨oD, esD, epD, hoD, hdD, _⟩ := hns.count hw
      refine set_plain X (ox := exO C (some dx) t1) (od := some oD) ⟨he, rfl, rfl, hoD⟩ T.sa ?_
      refine PySem.OEX.osa_old X he hns hw (by rw [List.length_cons] at hz; omega) hcl hmr hdi (T.noN f hf) (fun h' tk' k hn' => ?_)
      have X' : K.In h' := fun a o q => k a o (fun z => nK o (by rw [← z]; exact q)) (X a o q)
      refine ih hb (fun p hp' => hp p (List.mem_cons_of_mem _ hp')) X' (hn.at fun o q => k _ _ nL q) nL ne nd nK (k _ _ (Ne.symm nd) he) hn' (Within.cons f v hw) (by rw [List.length_cons] at hz ⊢; omega) fun h2 tk2 k2 hn2 => ?_
      exact hq h2 tk2 (fun b o hb ho => k2 b o hb (k b o hb ho)) hn2
end
end S3X
end PySem

/-! E2: the __init__ run, the exception made. -/
namespace PySem
namespace S3X
open PySem.W PySem.Calls PyProof.Rows PySem.HandSPX
section
variable {prog : Program} {w : World} {A : Around} {E : Value → Shared → Prop} {R : Result → Shared → Prop} {K : Frag} {C fI cc cda : Addr} {fd : FuncData} {fs : List Str}
theorem quiet_of {env : Env} (h : env.scope.kind = .function) : interactive env = false := by
  unfold interactive
  first
    | (rw [h]; rfl)
    | simp [Env.blockKind, h]
theorem not_in {h : Heap} {b : Addr} (X : K.In h) (n : h.get? b = none) : ∀ o, K.lookup b ≠ some o := fun o q => by
  have := X _ _ q
  rw [n] at this; cases this
theorem call_line {o : Expr} {name : Str} {apos pos : Pos} {args : List Expr} {env : Env} (hf : methodCallForm (args.length + 0) (backTo pos (starEach args env)) [] = true) (hl : (apos.endLine == pos.line) = true) :
    eval (.Call (.Attribute o name apos) args [] pos) env = (do
      let ov ← attributeBase o name env (eval o env)
      standAt apos.atName
      let (f, first) ← holding [ov] (getMethod ov name (do return (← importBound o env).getD true))
      callWith pos f first (backTo pos (starEach args env)) []) := by
  have e : backToKw pos (keywordEach [] env) = [] := rfl
  have hp : methodCallPos true o env apos pos = pure pos := by unfold methodCallPos; simp [hl]
  have hc : ∀ ov, calleeOf true o env ov name = getMethod ov name (do return (← importBound o env).getD true) := fun _ => rfl
  rw [arm_eval_Call]
  unfold methodCall
  simp only [List.length_nil, e, hf, hp, hc, pure_bind]
/-- super().__init__('..') -/
theorem sup_run (T : ExT prog K C fI cc cda fd fs) {name qual : Str} {params : Arguments} {scope : Scope} {body : List Stmt} {dV kV doc pm ct : Value} {an : Option Addr} (hfd : fd = ksFn name qual params body scope dV kV doc pm an (.ref cda) ct cc) (I : InitTxt params scope body fs)
    {L e t0 : Addr} {h : Heap} {g : Array GenState} {d : Drawn} {t : Nat} {os : OsState} {m mg mb : Str → Option Value} {txt : Str} {j : Nat} {p0 p1 p2 p3 p4 p5 : Pos} {Q : Flow → Shared → Prop} (hl : (p2.endLine == p4.line) = true) (X : K.In h) (hn : h.Ns L m) (ms : m "self" = some (.ref e)) (G : h.Ns mainGlobals mg) (hms : mg "super" = none) (B : h.Ns builtinsNs mb) (hbs : mb "super" = some (.type "super"))
    (hx : h.get? e = some (exO C none t0)) (hnx : ∀ o, K.lookup e ≠ some o)
    (hq : ∀ h' t1 tk, (∀ b o, b ≠ e → h.get? b = some o → h'.get? b = some o) → h'.get? e = some (exO C none t1) → Q .next ⟨h', g, d, tk, os⟩) :
    _root_.PySem.wpAt (model prog w) A (.func body (ksEnv qual scope L fI (.ref cda) cc)) (exec (.Expr (.Call (.Attribute (.Call (.Name "super" p0) [] [] p1) "__init__" p2) [.Constant (.str txt) j p3] [] p4) p5) (ksEnv qual scope L fI (.ref cda) cc)) Q E ⟨h, g, d, t, os⟩ := by
  obtain ⟨cdC, hcl, hmr, hdi⟩ := clsIn_of T
  obtain ⟨nm, q, N, bs, bm, sn, sub, ab, col, dd, k0, k1, k2, k3, k5, hC, hbm⟩ := T.cls
  obtain ⟨oc, od, osl, hf⟩ := T.fn
  obtain ⟨ar, har, hself⟩ := I.head
  obtain ⟨ccl, cdd, vs, ccs, file, tf, hcode, hvs, hfile⟩ := T.code
  obtain ⟨cl, cld, csl, hcell⟩ := T.cell
  refine ks_wpAt_Expr_any (ks_wpAt_MethodCall (pl := do return (← importBound (.Call (.Name "super" p0) [] [] p1) (ksEnv qual scope L fI (.ref cda) cc)).getD true) ?_ (call_line (by rfl) hl)) (hi := quiet_of I.kd)
  refine ks_wpAt_super_base (of := ⟨oc, od, .func fd, osl⟩) (fd := fd) I.su I.cl (by decide) rfl (X _ _ hf) rfl (by rw [hfd]; exact har) rfl (X _ _ hcode) rfl hvs hfile T.top ?_
  refine ks_loadName_global I.kd I.su (loadGlobal_builtin G hms B hbs ⟨rfl, ?_⟩)
  refine wpAny_loadName_free I.kd I.cl rfl ⟨_, X _ _ hcell, rfl⟩ ?_
  refine wpAny_loadName_local I.kd (by rw [hself]; exact I.se) hn (by rw [hself]; exact ms) ?_
  refine ks_wpAny_isType_cls (X _ _ hC) rfl ⟨rfl, ?_⟩
  refine ks_wpAny_call_super (X _ _ hC) rfl hx rfl (fun c z => by cases z) (looks_mroIn X T.mC) (fun h1 e1 kk1 => ?_)
  have hx1 := kk1 _ _ hx
  have X1 : K.In h1 := X.keeps kk1
  have J1 : InstAt h1 e (exO C none t0) C none := ⟨hx1, rfl, rfl, trivial⟩
  have hI : Looks (model prog w) h1 (isInstance (.ref e) (.type "ValueError")) true := J1.type.andThen (looks_subIn X1 T.vB)
  have sp := T.sup
  unfold ks_superIn at sp
  rw [hcl] at sp
  refine kxs_getMethod kxs_ValueError e1 (looks_opaque X1 T.opq) (l₀ := cdC.mro) ?_ rfl X1 sp hI (fun z => hnx _ (by rw [z]; exact hC)) (by decide) ?_
  · exact fun A Q E s k q => wpAny_bind ((looks_clsIn X1 hcl) A _ E s k (wpAny_pure q))
  have k2 : ∀ b o, h1.get? b = some o → (h1.push (kxs_mw "ValueError.__init__" e)).get? b = some o := fun b o z => Heap.get?_push_of_some _ z
  have hu : (h1.push (kxs_mw "ValueError.__init__" e)).get? h1.objs.size = some (kxs_mw "ValueError.__init__" e) := Heap.get?_push_at rfl rfl
  refine kxs_callWith (i := "ValueError.__init__") (x := e) (by rfl) (evalArgs_plain (spliced_cons (Constant_str (k := j) (pos := p3) (spliced_nil ⟨hu, ?_⟩))))
  have hC2 := (X1.keeps k2) _ _ hC
  have he2 := k2 _ _ hx1
  refine wpAny_call (codeAny_of_tree ?_)
  show wpAny _ A.in1 (callAny (.ref _) ⟨_, []⟩) _ _ _
  simp only [callAny]
  refine wpAny_bind (wpAny_load hu ?_)
  simp only [kxs_mw, show (Value.type "method-wrapper" == Value.type "method" || Value.type "method-wrapper" == Value.type "builtin_function_or_method" || Value.type "method-wrapper" == Value.type "method-wrapper") = true by decide, if_true]
  refine KFB.if_so (by decide) ?_
  refine wpAny_bind (check_bound_init F.excBase_ValueError.toExcCallFacts hC2 he2 rfl ?_)
  refine wpAny_bind (wpAny_pure (wpAny_pure ?_))
  refine ⟨plainId_quiet F.excBase_ValueError.init.plain _, codeAny_builtin F.excBase_ValueError.initEntry ?_⟩
  refine exc_init_tree (cls := .ref C) (t0 := t0) (dv := none) (c2 := .none) (c3 := .none) (b4 := .bool false) he2 (by rw [sizeLine_eq]; simp) (fun h3 kk3 e3 _ => ?_)
  exact hq h3 _ _ (fun b o hb ho => kk3 b o hb (k2 b o (kk1 b o ho))) e3
end
end S3X
end PySem

/-! E3: an exception made by its class's call; the rule for raise. -/
namespace PySem
namespace S3X
open PySem.W PySem.Calls PyProof.Rows PySem.HandSPX
theorem lookup_rev : ∀ {l : List (Str × Value)} {f : Str} {v : Value}, (l.map (·.1)).Nodup → (f, v) ∈ l → l.reverse.lookup f = some v
  | [], _, _, _, h => by cases h
  | (g, u) :: l, f, v, nd, h => by
    rw [List.map_cons, List.nodup_cons] at nd
    rw [List.reverse_cons, List.lookup_append]
    rcases List.mem_cons.mp h with e | e
    · obtain ⟨e1, e2⟩ := Prod.mk.inj e
      rw [e1, e2]
      have : l.reverse.lookup g = none := by
        rw [List.lookup_eq_none_iff]
        intro p hp
        have hp' := List.mem_reverse.mp hp
        have : p.1 ≠ g := fun z => nd.1 (by rw [← z]; exact List.mem_map.mpr ⟨p, hp', rfl⟩)
        simpa using Ne.symm this
      rw [this]
      simp [List.lookup]
    · rw [lookup_rev nd.2 e]
      rfl
theorem keys_zip : ∀ {fs : List Str} {us : List Value}, us.length = fs.length → (fs.zip us).map (·.1) = fs
  | [], _, _ => rfl
  | f :: fs, [], h => by cases h
  | f :: fs, u :: us, h => by rw [List.zip_cons_cons, List.map_cons, keys_zip (Nat.succ.inj h)]
section
variable {prog : Program} {w : World} {A : Around} {E : Value → Shared → Prop} {R : Result → Shared → Prop} {K : Frag} {C fI cc cda : Addr} {fd : FuncData} {fs : List Str}
theorem init_run (T : ExT prog K C fI cc cda fd fs) {s : Shared} {e t0 : Addr} {us : List Value} {mg mb : Str → Option Value} (hfs : fs ≠ []) (hz : fs.length ≤ 800) (hl : us.length = fs.length) (X : K.In s.heap) (hlim : s.heap.NoLimit) (G : s.heap.Ns mainGlobals mg) (hms : mg "super" = none) (B : s.heap.Ns builtinsNs mb) (hbs : mb "super" = some (.type "super"))
    (hx : s.heap.get? e = some (exO C none t0)) (hnx : ∀ o, K.lookup e ≠ some o) (hroom : A.depth < recursionLimit)
    (hq : ∀ h' tk dx t1, (∀ b o, b ≠ e → s.heap.get? b = some o → h'.get? b = some o) → h'.get? e = some (exO C (some dx) t1) → s.heap.objs.size ≤ dx → dx ≠ e → h'.Ns1 dx (putAll (fs.zip us) fun _ => none) → R (.ok (.ret .none)) { s with heap := h', toks := tk }) :
    codeAny (model prog w) A (.call (.ref fI) ⟨.ref e :: us, []⟩) R s := by
  obtain ⟨oc, od, osl, hf⟩ := T.fn
  obtain ⟨name, qual, params, body, scope, dV, kV, doc, pm, an, ct, hfd, I⟩ := T.fe
  obtain ⟨cdC, hcl, hmr, hdi⟩ := clsIn_of T
  have hkeys : ((("self" : Str), Value.ref e) :: fs.zip us).map (·.1) = ("self" : Str) :: fs := by rw [List.map_cons, keys_zip hl]
  have hnd : (((("self" : Str), Value.ref e) :: fs.zip us).map (·.1)).Nodup := by rw [hkeys]; exact I.nd
  have lk : ∀ {f v}, (f, v) ∈ (("self" : Str), Value.ref e) :: fs.zip us → ((("self" : Str), Value.ref e) :: fs.zip us).reverse.lookup f = some v := fun h => lookup_rev hnd h
  have hT := T
  have hbd := T.bd s e us hl
  have hcd := T.cd
  subst hfd
  refine ks_codeAny_call_defAt (body := body) (binds := ("self", .ref e) :: fs.zip us) hroom (X _ _ hf) rfl hlim (codeRec_of X hcd) rfl hbd I.nc (fun x hx => ?_) (fun h1 hns k1 => ?_) I.co I.gn I.kd
  · rcases List.mem_cons.mp hx with q | q
    · rw [q]; exact I.se
    · exact I.fl _ (by rw [← keys_zip hl]; exact List.mem_map.mpr ⟨x, q, rfl⟩)
  obtain ⟨hp, g, d, t, os⟩ := s
  have X1 : K.In h1 := X.keeps k1
  have hL : ∀ {b : Addr} {o : Obj}, hp.get? b = some o → hp.objs.size ≠ b := fun z => Nat.ne_of_gt (Heap.lt_size z)
  obtain ⟨txt, j, p0, p1, p2, p3, p4, p5, asg, hb, hl2, ha⟩ := I.body
  show _root_.PySem.wpAt (model prog w) (A.deeper (ksEnv qual scope hp.objs.size fI (.ref cda) cc)) (.func body (ksEnv qual scope hp.objs.size fI (.ref cda) cc)) (execs body (ksEnv qual scope hp.objs.size fI (.ref cda) cc)) _ _ _
  have hex : execs body (ksEnv qual scope hp.objs.size fI (.ref cda) cc) = execs (.Expr (.Call (.Attribute (.Call (.Name "super" p0) [] [] p1) "__init__" p2) [.Constant (.str txt) j p3] [] p4) p5 :: asg) (ksEnv qual scope hp.objs.size fI (.ref cda) cc) := by rw [← hb]
  rw [hex]
  refine ks_wpAt_execs_cons (sup_run hT rfl I hl2 X1 hns (lk List.mem_cons_self) (G.keeps k1) hms (B.keeps k1) hbs (k1 _ _ hx) hnx (fun h2 t2 tk2 k2 e2 => ?_))
  show _root_.PySem.wpAt _ _ _ (execs asg _) _ _ _
  refine wpAt_of_wpAny ?_
  cases hfs' : fs with
  | nil => exact (hfs hfs').elim
  | cons f fs' =>
    cases hus' : us with
    | nil => rw [hus', hfs'] at hl; cases hl
    | cons v us' =>
      rw [hfs'] at ha
      cases asg with
      | nil => exact ha.elim
      | cons st asg =>
        obtain ⟨⟨q1, q2, q3, q4, rfl⟩, ha⟩ := ha
        have hff : f ∈ fs := by rw [hfs']; exact List.mem_cons_self
        have hzip : fs.zip us = (f, v) :: fs'.zip us' := by rw [hfs', hus', List.zip_cons_cons]
        have X2 : K.In h2 := fun a o q => k2 a o (fun z => hnx o (by rw [← z]; exact q)) (X1 a o q)
        have n2 := hns.at fun o q => k2 _ _ (hL hx) q
        refine wpAny_execs_cons (plainObj_wpAny_Assign_Attribute ?_)
        refine ldN n2 (lk (List.mem_cons_of_mem _ (by rw [hzip]; exact List.mem_cons_self))) (ldN n2 (lk List.mem_cons_self) ?_ I.kd I.se (by decide)) I.kd (I.fl f hff) (I.db f hff)
        refine set_plain X2 (ox := exO C none t2) (od := none) ⟨e2, rfl, rfl, trivial⟩ T.sa ?_
        refine exc_osa X2 e2 hcl hmr hdi (T.noN f hff) (fun h3 tk3 dx k3 dn dne e3 n3 => ?_)
        have X3 : K.In h3 := fun a o q => k3 a o (fun z => hnx o (by rw [← z]; exact q)) (X2 a o q)
        have h2L : ∀ {b : Addr} {o : Obj}, h2.get? b = some o → b ≠ dx := fun z => Nat.ne_of_lt (Nat.lt_of_lt_of_le (Heap.lt_size z) dn)
        have dxn : h2.get? dx = none := by
          cases q : h2.get? dx with
          | none => rfl
          | some o => exact absurd rfl (h2L q)
        obtain ⟨oL, _, _, hoL, _⟩ := id n2
        have old : ∀ {b : Addr} {o : Obj}, b ≠ e → hp.get? b = some o → h2.get? b = some o := fun hb z => k2 _ _ hb (k1 _ _ z)
        have hlen : us'.length = fs'.length := by rw [hfs', hus'] at hl; exact Nat.succ.inj hl
        have szz : hp.objs.size ≤ dx := Nat.le_of_lt (Nat.lt_of_lt_of_le (Heap.lt_size hoL) dn)
        refine asgs_old hT (env := ksEnv qual scope hp.objs.size fI (.ref cda) cc) (m := fun x => ((("self" : Str), Value.ref e) :: fs.zip us).reverse.lookup x) (e := e) I.kd I.se (lk List.mem_cons_self) (l := fs'.zip us') (dx := dx) (t1 := t2) (nl := [f]) (by rw [keys_zip hlen]; exact ha) (fun p hp' => ?_) X3 (n2.at fun o q => k3 _ _ (hL hx) q) (h2L hoL) (hL hx) dne (not_in X2 dxn) e3 n3
          (Within.cons f v (fun y hy => absurd rfl hy)) (by rw [List.length_zip, hlen, Nat.min_self]; rw [hfs', List.length_cons] at hz; show 1 + fs'.length ≤ 900; omega) (fun h4 tk4 k4 n4 => ?_)
        · have hm : p.1 ∈ fs := by rw [hfs', ← keys_zip hlen]; exact List.mem_cons_of_mem _ (List.mem_map.mpr ⟨p, hp', rfl⟩)
          exact ⟨lk (List.mem_cons_of_mem _ (by rw [hzip]; exact List.mem_cons_of_mem _ hp')), I.fl _ hm, I.db _ hm, hm⟩
        · refine hq h4 tk4 dx t2 (fun b o hb z => ?_) ?_ szz dne (by rw [hzip]; exact n4)
          · have z2 := old hb z
            exact k4 b o (h2L z2) (k3 b o hb z2)
          · exact k4 _ _ (Ne.symm dne) e3
end
end S3X
end PySem

/-! E4: C(..), C such a class; raise C(..). -/
namespace PySem
namespace S3X
open PySem.W PySem.Calls PyProof.Rows PySem.HandSPX
section
variable {prog : Program} {w : World} {A : Around} {E : Value → Shared → Prop} {R : Result → Shared → Prop} {K : Frag} {C fI cc cda : Addr} {fd : FuncData} {fs : List Str}
theorem made (T : ExT prog K C fI cc cda fd fs) {s : Shared} {us : List Value} {mg mb : Str → Option Value} (hfs : fs ≠ []) (hz : fs.length ≤ 800) (hl : us.length = fs.length) (X : K.In s.heap) (hlim : s.heap.NoLimit) (G : s.heap.Ns mainGlobals mg) (hms : mg "super" = none) (B : s.heap.Ns builtinsNs mb) (hbs : mb "super" = some (.type "super"))
    (hroom : A.depth + 1 < recursionLimit)
    (hq : ∀ h' tk e d t1, (∀ b o, s.heap.get? b = some o → h'.get? b = some o) → s.heap.objs.size ≤ e → h'.get? e = some (exO C (some d) t1) → s.heap.objs.size ≤ d → d ≠ e → h'.Ns1 d (putAll (fs.zip us) fun _ => none) → R (.ok (.ret (.ref e))) { s with heap := h', toks := tk }) :
    codeAny (model prog w) A (.call (.ref C) ⟨us, []⟩) R s := by
  obtain ⟨nm, q, N, bs, bm, sn, sub, ab, col, dd, k0, k1, k2, k3, k5, hC, hbm⟩ := T.cls
  obtain ⟨hp, g, dr, tk, os⟩ := s
  have k : ∀ b o, hp.get? b = some o → ((hp.push (kdv_tup us)).push (excO C hp.objs.size)).get? b = some o := fun b o e => Heap.get?_push_of_some _ (Heap.get?_push_of_some _ e)
  have hget : ((hp.push (kdv_tup us)).push (excO C hp.objs.size)).get? (hp.objs.size + 1) = some (excO C hp.objs.size) := by heap_get
  have hnx : ∀ o, K.lookup (hp.objs.size + 1) ≠ some o := fun o z => by
    have y : hp.get? (hp.objs.size + 1) = some o := X _ _ z
    exact absurd (Nat.lt_of_succ_lt (Heap.lt_size y)) (Nat.lt_irrefl _)
  refine call_own F.excBase_ValueError (fun X => refsVE_contains X bm hbm) (X _ _ hC) (looks_findIn X T.iC) (fun self => bind_fn X self T.tI) (by rw [sizeLine_eq]; omega) ?_
  refine init_run (s := ⟨(hp.push (kdv_tup us)).push (excO C hp.objs.size), g, dr, tk, os⟩) T hfs hz hl (X.keeps k) (hlim.keeps k) (G.keeps k) hms (B.keeps k) hbs hget hnx ?_ fun h' tk' dx t1 k' hx dn dne hns => ?_
  · show A.depth + 1 < recursionLimit
    exact hroom
  · have old : ∀ b o, hp.get? b = some o → h'.get? b = some o := fun b o e => k' b o (Nat.ne_of_lt (Nat.lt_succ_of_lt (Heap.lt_size e))) (k b o e)
    have z : hp.objs.size + 1 + 1 ≤ dx := by
      first
        | (simpa only [Heap.size_push] using dn)
        | exact dn
        | (have q := dn; rw [Heap.size_push, Heap.size_push] at q; exact q)
    exact ⟨rfl, hq h' tk' (hp.objs.size + 1) dx t1 old (Nat.le_succ _) hx (Nat.le_trans (Nat.le_trans (Nat.le_succ _) (Nat.le_succ _)) z) dne hns⟩
end
end S3X
end PySem
namespace L2
open PySem PySem.Spec PyProof.Rows PySem.S3X
theorem zip_lookup_none : ∀ {fs : List Str} {vs : List V} {f : Str}, f ∉ fs → (fs.zip vs).lookup f = none
  | [], _, _, _ => rfl
  | _ :: _, [], _, _ => rfl
  | g :: fs, v :: vs, f, h => by
    rw [List.zip_cons_cons, lookup_put, if_neg (fun e => h (by rw [e]; exact List.mem_cons_self))]
    exact zip_lookup_none fun z => h (List.mem_cons_of_mem _ z)
theorem relO_zip : ∀ {fs : List Str} {vs : List V} {us : List Value} {m0 : Str → Option Value}, fs.Nodup → Vals vs us → us.length = fs.length → ∀ f, (f ∉ fs → RelO none (m0 f)) → RelO ((fs.zip vs).lookup f) (putAll (fs.zip us) m0 f)
  | [], _, _, _, _, _, _, f, h => h (by simp)
  | g :: fs, _, _, _, _, .nil, hl, _, _ => by cases hl
  | g :: fs, v :: vs, u :: us, m0, nd, .cons r rr, hl, f, h => by
    rw [List.nodup_cons] at nd
    rw [List.zip_cons_cons, lookup_put, List.zip_cons_cons]
    show RelO _ (putAll (fs.zip us) (fun y => if y = g then some u else m0 y) f)
    by_cases e : f = g
    · subst e
      rw [if_pos rfl]
      have : ∀ {l : List (Str × Value)} {m : Str → Option Value}, f ∉ l.map (·.1) → putAll l m f = m f := fun {l} => by
        induction l with
        | nil => intro m _; rfl
        | cons p l ih =>
          intro m hn
          obtain ⟨a, b⟩ := p
          show putAll l _ f = _
          rw [ih fun z => hn (List.mem_cons_of_mem _ z), if_neg fun e => hn (by rw [e]; exact List.mem_cons_self)]
      rw [this (by rw [keys_zip (Nat.succ.inj hl)]; exact nd.1), if_pos rfl]
      exact r
    · rw [if_neg e]
      refine relO_zip nd.2 rr (Nat.succ.inj hl) f fun hn => ?_
      rw [if_neg e]
      exact h fun z => (List.mem_cons.mp z).elim e hn
section
variable {X : Cx} {C fI cc cda : Addr} {fd : FuncData} {fs : List Str} {e : Expr} {es : List Expr} {ta : TA} {p pos : Pos} {x : Str}
/-- C(e, ..) -/
def tMkX (C : Addr) (fs : List Str) (ta : TA) : St → Hp → XK → Prop := fun σ H Q => ta σ H fun vs H1 => vs.length = fs.length ∧ ∀ d, H1 d = none → Q (.ref C) (some d) (upd H1 d (.xd (fs.zip vs)))
theorem pmk_x {k : Nat} (T : ExT X.prog X.K C fI cc cda fd fs) (hfs : fs ≠ []) (hz : fs.length ≤ 800) (hnd : fs.Nodup) (hms : X.mg "super" = none) (hr : Room k X.A) (ha : PA X (e :: es) ta) (hg : Gl X x) (hm : X.mg x = some (.ref C))
    (hdb : (x == ("__debug__" : Str)) = false := by decide) (he : starEach (e :: es) X.env = (false, eval e X.env) :: starEach es X.env := by rfl) (hpl : (backTo pos (starEach es X.env)).any (·.1) = false := by rfl) :
    PMk X (.Call (.Name x p) (e :: es) [] pos) (tMkX C fs ta) := by
  intro pins s σ H Q I h
  refine wpAny_Call_Name_kw (ld_glob I hg hm ?_ hdb)
  refine PySem.W.callWith_K (h₀ := X.base) I.ok.mod.kin T.kC (thn (ha.run pos pins s σ H _ I h) fun us s1 hh => ?_) he hpl
  obtain ⟨vs, H1, I1, r1, hl, q1⟩ := hh
  refine ⟨I1.kIn, ?_⟩
  show wpAny _ _ (call (.ref C) us) _ _ _
  have hlim := I1.nolimit
  have hlu : us.length = fs.length := by rw [← r1.length]; exact hl
  obtain ⟨mb, h1, h2⟩ := I1.mod.blt
  have G := I1.mod.glob.keeps I1.bk
  have B := h1.keeps I1.bk
  obtain ⟨hp, g, dr, tk, os⟩ := s1
  refine wpAny_call (made T hfs hz hlu I1.kIn hlim G hms B ((h2 _ (by decide)).trans rfl) (by have := hr.dp; omega) fun h' tk' e d t1 kk hne hoe hnd' dne hns => ?_)
  show MkP X pins σ Q (.ref e) ⟨h', g, dr, tk', os⟩
  obtain ⟨G', g1, g2⟩ := restrict h' fun b => decide (b ≠ e)
  have gk : ∀ b, b ≠ e → G'.get? b = h'.get? b := fun b hb => g1 b (decide_eq_true hb)
  have ge : G'.get? e = none := g2 e (by simp)
  have old : ∀ b o, hp.get? b = some o → G'.get? b = some o := fun b o q => (gk b (Nat.ne_of_lt (Nat.lt_of_lt_of_le (Heap.lt_size q) hne))).trans (kk b o q)
  have ob : ObjOk X.prog X.w (upd H1 d (.xd (fs.zip vs))) G' d (.xd (fs.zip vs)) :=
    ⟨_, hns.at (fun o q => (gk d dne).trans q), fun f => relO_zip hnd r1 hlu f fun _ => True.intro⟩
  have J : Inv X pins σ (upd H1 d (.xd (fs.zip vs))) ⟨G', g, dr, tk', os⟩ := I1.laid (t' := tk') old hnd' ob
  refine ⟨e, exO C (some d) t1, _, ⟨G', g, dr, tk', os⟩, _, .ref C, some d, rfl, J, fun b o q => ?_, ge, hoe, ⟨rfl, rfl⟩, rfl, rfl, ?_, rfl, I1.bare, raises_own T.exC T.tyC, q1 d (I1.hok.fresh hnd')⟩
  · by_cases hb : b = e
    · have q' : G'.get? b = some o := q
      rw [hb, ge] at q'; cases q'
    · exact (gk b hb).symm.trans q
  · rw [upd_ne (Ne.symm dne)]
    exact I1.hok.fresh hne
end
end L2

/-! E5: raise C(..), try: .. except D as n: .. -/
namespace S3
open PySem PySem.Spec L2
/-- raise C(..): the class's name, its fields -/
def sRaise (c : Str) (fs : List Str) (a : AV) : SV := fun e => match a e with
  | .ok rs e1 => (match fzs rs with
    | some ds => if ds.length = fs.length then .ex ⟨c, fs.zip ds⟩ e1 else .no
    | none => .no)
  | .ex x e1 => .ex x e1
  | .no => .no
/-- an exception class's name (other own classes' keys begin with @) -/
def xnm (c : Str) : Bool := match c.cps.toList with | 64 :: _ => false | _ => true
def nokeyB (c : Str) : Bool := decide (c ≠ "") && decide (c ≠ " ") && decide (c ≠ "  ")
/-- no exception in it -/
def xfree : Nat → D → Bool
  | _, .non => true | _, .bl _ => true | _, .int _ => true | _, .str _ => true | _, .st _ => true
  | n + 1, .lst xs => xs.all (xfree n)
  | n + 1, .tup xs => xs.all (xfree n)
  | n + 1, .scr xs => xs.all (xfree n)
  | n + 1, .kt xs => xs.all (xfree n)
  | n + 1, .dk xs => xs.all fun p => xfree n p.2
  | n + 1, .dt xs => xs.all fun p => xfree n p.2
  | n + 1, .obj c xs => nokeyB c && xs.all fun p => xfree n p.2
  | _, _ => false
/-- the slots without exceptions -/
def keepS (s : Sl) : Sl := match s.val with
  | some d => if xfree 12 d then s else .no
  | none => s
def keepX (e : Env) : Env := e.map keepS
/-- try: b except C as (slot i): h; behind the suite what holds an exception is not known -/
def sTry (sub : Str → Bool) (i : Nat) (b h : SV) : SV := fun e => match b e with
  | .ex x e1 => if xnm x.c then (if sub x.c then (match h (e1.set i (.fz (.xn x.c x.fs))) with
      | .nx e2 => .nx ((keepX e2).set i .no)
      | .bk e2 => .bk ((keepX e2).set i .no)
      | .ct e2 => .ct ((keepX e2).set i .no)
      | .rt (.fz d) e2 => if xfree 12 d then .rt (.fz d) (keepX e2) else .no
      | .rt (.nw d) e2 => if xfree 12 d then .rt (.nw d) (keepX e2) else .no
      | _ => .no) else .ex x e1) else .no
  | r => r
/-- n.f, isinstance(n, C) of a caught exception -/
def opXf (f : Str) : D → Option RV
  | .xn c fs => if xnm c then (fs.lookup f).map .fz else none
  | _ => none
def opXis (sub : Str → Bool) : D → Option RV
  | .xn c _ => if xnm c then some (.fz (.bl (sub c))) else none
  | _ => none
def nokey (c : Str) : Prop := c ≠ "" ∧ c ≠ " " ∧ c ≠ "  "
/-- the classes' places with the exception's own -/
def caX (ca : Str → Option Addr) (a : Addr) (cls : Value) (d : Option Addr) : Str → Option Addr := fun s =>
  if s = "" then some a else if s = " " then d else if s = "  " then (match cls with | .ref C => some C | _ => none) else ca s
theorem caX_up {ca : Str → Option Addr} {a : Addr} {cls : Value} {d : Option Addr} (k : ca "" = none ∧ ca " " = none ∧ ca "  " = none) {c : Str} {C : Addr} (h : ca c = some C) : caX ca a cls d c = some C ∧ nokey c := by
  have h1 : c ≠ "" := fun z => by rw [z, k.1] at h; cases h
  have h2 : c ≠ " " := fun z => by rw [z, k.2.1] at h; cases h
  have h3 : c ≠ "  " := fun z => by rw [z, k.2.2] at h; cases h
  unfold caX
  rw [if_neg h1, if_neg h2, if_neg h3]
  exact ⟨h, h1, h2, h3⟩
theorem caX_a {ca : Str → Option Addr} {a : Addr} {cls : Value} {d : Option Addr} : caX ca a cls d "" = some a := by unfold caX; exact if_pos rfl
theorem caX_d {ca : Str → Option Addr} {a : Addr} {cls : Value} {d : Option Addr} : caX ca a cls d " " = d := by unfold caX; rw [if_neg (by decide)]; exact if_pos rfl
theorem caX_c {ca : Str → Option Addr} {a : Addr} {cls : Value} {d : Option Addr} : caX ca a cls d "  " = (match cls with | .ref C => some C | _ => none) := by unfold caX; rw [if_neg (by decide), if_neg (by decide)]; exact if_pos rfl
theorem caX_r {ca : Str → Option Addr} {a C : Addr} {d : Option Addr} : caX ca a (.ref C) d "  " = some C := caX_c
theorem caX_of {ca : Str → Option Addr} {a : Addr} {cls : Value} {d : Option Addr} {c : Str} {C : Addr} (n : nokey c) (h : caX ca a cls d c = some C) : ca c = some C := by
  unfold caX at h
  rwa [if_neg n.1, if_neg n.2.1, if_neg n.2.2] at h
section
variable {P : Program} {w : World} {K : PySem.W.Frag} {ca ca' : Str → Option Addr} {F H : Hp}
mutual
theorem Rp.up (k : ca "" = none) (u : ∀ c C, ca c = some C → ca' c = some C) : ∀ {v : V} {d : D}, Rp ⟨P, w, K, ca⟩ F v d → Rp ⟨P, w, K, ca'⟩ F v d
  | _, _, .non => .non
  | _, _, .bl b => .bl b
  | _, _, .int i => .int i
  | _, _, .str x h => .str x h
  | _, _, .lst h r => .lst h (RpA.up k u r)
  | _, _, .scr h r => .scr h (RpA.up k u r)
  | _, _, .tup h r => .tup h (RpA.up k u r)
  | _, _, .kt h r => .kt h (RpA.up k u r)
  | _, _, .dk h q r => .dk h q (RpP.up k u r)
  | _, _, .dt h q r => .dt h q (RpP.up k u r)
  | _, _, .st h n => .st h n
  | _, _, .obj c h r => .obj (u _ _ c) h (RpP.up k u r)
  | _, _, .xn a b c n h r => by
    have z : ca "" = some _ := a
    rw [k] at z
    cases z
theorem RpA.up (k : ca "" = none) (u : ∀ c C, ca c = some C → ca' c = some C) : ∀ {v : List V} {d : List D}, RpA ⟨P, w, K, ca⟩ F v d → RpA ⟨P, w, K, ca'⟩ F v d
  | _, _, .nil => .nil
  | _, _, .cons h r => .cons (Rp.up k u h) (RpA.up k u r)
theorem RpP.up (k : ca "" = none) (u : ∀ c C, ca c = some C → ca' c = some C) : ∀ {κ : Type} {v : List (κ × V)} {d : List (κ × D)}, RpP ⟨P, w, K, ca⟩ F v d → RpP ⟨P, w, K, ca'⟩ F v d
  | _, _, _, .nil => .nil
  | _, _, _, .cons h r => .cons (Rp.up k u h) (RpP.up k u r)
end
theorem nokey_of {c : Str} (h : nokeyB c = true) : nokey c := by
  unfold nokeyB at h
  rw [Bool.and_eq_true, Bool.and_eq_true] at h
  exact ⟨of_decide_eq_true h.1.1, of_decide_eq_true h.1.2, of_decide_eq_true h.2⟩
theorem Rp.down (hd : ∀ c C, nokey c → ca c = some C → ca' c = some C) : ∀ {n : Nat} {v : V} {d : D}, xfree n d = true → Rp ⟨P, w, K, ca⟩ F v d → Rp ⟨P, w, K, ca'⟩ F v d := by
  intro n
  induction n with
  | zero =>
    intro v d h r
    cases d <;> first | (cases h; done) | skip
    · cases r; exact .non
    · cases r; exact .bl _
    · cases r; exact .int _
    · cases r with | str _ z => exact .str _ z
    · cases r with | st k z => exact .st k z
  | succ n ih =>
    intro v d h r
    have all : ∀ {vs : List V} {ds : List D}, ds.all (xfree n) = true → RpA ⟨P, w, K, ca⟩ F vs ds → RpA ⟨P, w, K, ca'⟩ F vs ds := fun {vs ds} => by
      induction ds generalizing vs with
      | nil => intro _ z; cases z; exact .nil
      | cons d ds ih2 =>
        intro hd z
        rw [List.all_cons, Bool.and_eq_true] at hd
        cases z with
        | cons z1 z2 => exact .cons (ih hd.1 z1) (ih2 hd.2 z2)
    have allP : ∀ {κ : Type} {vs : List (κ × V)} {ds : List (κ × D)}, (ds.all fun p => xfree n p.2) = true → RpP ⟨P, w, K, ca⟩ F vs ds → RpP ⟨P, w, K, ca'⟩ F vs ds := fun {κ vs ds} => by
      induction ds generalizing vs with
      | nil => intro _ z; cases z; exact .nil
      | cons d ds ih2 =>
        intro hd z
        rw [List.all_cons, Bool.and_eq_true] at hd
        cases z with
        | cons z1 z2 => exact .cons (ih hd.1 z1) (ih2 hd.2 z2)
    cases d <;> first | (cases h; done) | skip
    · cases r; exact .non
    · cases r; exact .bl _
    · cases r; exact .int _
    · cases r with | str _ z => exact .str _ z
    · cases r with | lst k z => exact .lst k (all h z)
    · cases r with | tup k z => exact .tup k (all h z)
    · cases r with | dk k q z => exact .dk k q (allP h z)
    · cases r with | dt k q z => exact .dt k q (allP h z)
    · cases r with | st k z => exact .st k z
    · simp only [xfree, Bool.and_eq_true] at h
      cases r with | obj c k z => exact .obj (hd _ _ (nokey_of h.1) c) k (allP h.2 z)
    · cases r with | scr k z => exact .scr k (all h z)
    · cases r with | kt k z => exact .kt k (all h z)
theorem RpA.down (hd : ∀ c C, nokey c → ca c = some C → ca' c = some C) {n : Nat} : ∀ {vs : List V} {ds : List D}, ds.all (xfree n) = true → RpA ⟨P, w, K, ca⟩ F vs ds → RpA ⟨P, w, K, ca'⟩ F vs ds
  | _, _, _, .nil => .nil
  | _, _, h, .cons a r => by
    rw [List.all_cons, Bool.and_eq_true] at h
    exact .cons (Rp.down hd h.1 a) (RpA.down hd h.2 r)
theorem RpP.down (hd : ∀ c C, nokey c → ca c = some C → ca' c = some C) {n : Nat} : ∀ {κ : Type} {vs : List (κ × V)} {ds : List (κ × D)}, (ds.all fun p => xfree n p.2) = true → RpP ⟨P, w, K, ca⟩ F vs ds → RpP ⟨P, w, K, ca'⟩ F vs ds
  | _, _, _, _, .nil => .nil
  | _, _, _, h, .cons a r => by
    rw [List.all_cons, Bool.and_eq_true] at h
    exact .cons (Rp.down hd h.1 a) (RpP.down hd h.2 r)
theorem Top.down (hd : ∀ c C, nokey c → ca c = some C → ca' c = some C) {n : Nat} {a : Addr} {d : D} (x : xfree n d = true) (h : Top ⟨P, w, K, ca⟩ F H a d) : Top ⟨P, w, K, ca'⟩ F H a d := by
  cases n with
  | zero => cases d <;> first | (cases x; done) | exact h
  | succ n =>
    cases d <;> simp only [Top] at h ⊢
    case lst => obtain ⟨_, h, r⟩ := h; exact ⟨_, h, r.down hd x⟩
    case dk => obtain ⟨q, _, h, r⟩ := h; exact ⟨q, _, h, r.down hd x⟩
    case dt => obtain ⟨q, _, h, r⟩ := h; exact ⟨q, _, h, r.down hd x⟩
    case st => exact h
    case obj =>
      simp only [xfree, Bool.and_eq_true] at x
      obtain ⟨_, _, _, c, h, r⟩ := h
      exact ⟨_, _, _, hd _ _ (nokey_of x.1) c, h, r.down hd x.2⟩
theorem Top.up (k : ca "" = none) (u : ∀ c C, ca c = some C → ca' c = some C) {a : Addr} {d : D} (h : Top ⟨P, w, K, ca⟩ F H a d) : Top ⟨P, w, K, ca'⟩ F H a d := by
  cases d <;> simp only [Top] at h ⊢
  case lst => obtain ⟨_, h, r⟩ := h; exact ⟨_, h, r.up k u⟩
  case dk => obtain ⟨q, _, h, r⟩ := h; exact ⟨q, _, h, r.up k u⟩
  case dt => obtain ⟨q, _, h, r⟩ := h; exact ⟨q, _, h, r.up k u⟩
  case st => exact h
  case obj => obtain ⟨_, _, _, c, h, r⟩ := h; exact ⟨_, _, _, u _ _ c, h, r.up k u⟩
theorem SOk.up {N : En} {σ : St} {e : Env} (k : ca "" = none) (u : ∀ c C, ca c = some C → ca' c = some C) (S : SOk ⟨P, w, K, ca⟩ N F H σ e) : SOk ⟨P, w, K, ca'⟩ N F H σ e where
  le := S.le
  f0 := S.f0
  h0 := S.h0
  nf := S.nf
  len := S.len
  slot := fun i s hs => by
    obtain ⟨o, h1, h2⟩ := S.slot i s hs
    refine ⟨o, h1, ?_⟩
    cases s with
    | no => trivial
    | fz d => obtain ⟨v, e, r⟩ := h2; exact ⟨v, e, r.up k u⟩
    | ow d => obtain ⟨b, e, x, y, t⟩ := h2; exact ⟨b, e, x, y, t.up k u⟩
    | bo d =>
      obtain ⟨v, e, r⟩ := h2
      rcases r with r | ⟨b, e2, x, y, z, t⟩
      · exact ⟨v, e, .inl (r.up k u)⟩
      · exact ⟨v, e, .inr ⟨b, e2, x, y, z, t.up k u⟩⟩
    | mu d => obtain ⟨b, e, x, y, t⟩ := h2; exact ⟨b, e, x, y, t.up k u⟩
  sep := fun i j s t b h1 h2 ne o l1 l2 => by
    have lv : ∀ {o : Option V} {s : Sl}, Live ⟨P, w, K, ca'⟩ F o s b → Live ⟨P, w, K, ca⟩ F o s b := fun {o s} l => by
      cases s <;> simp only [Live] at l ⊢
      all_goals first | exact l | exact ⟨l.1, fun r => l.2 (r.up k u)⟩ | exact l.elim
    exact S.sep i j s t b h1 h2 ne o (lv l1) (lv l2)
  mh := S.mh
  mus := S.mus
theorem keepS_val {s t : Sl} (h : keepS s = t) (nt : t ≠ .no) : s = t ∧ ∀ d, t.val = some d → xfree 12 d = true := by
  unfold keepS at h
  cases q : s.val with
  | none =>
    rw [q] at h
    refine ⟨h, fun d hd => ?_⟩
    rw [← h] at hd
    have hd : s.val = some d := hd
    rw [q] at hd; cases hd
  | some d =>
    rw [q] at h
    dsimp only at h
    split at h
    · rename_i z
      refine ⟨h, fun d' hd => ?_⟩
      rw [← h, q] at hd
      cases hd
      exact z
    · exact (nt h.symm).elim
theorem SOk.down (hd : ∀ c C, nokey c → ca c = some C → ca' c = some C) {N : En} {σ : St} {e : Env} (S : SOk ⟨P, w, K, ca⟩ N F H σ e) : SOk ⟨P, w, K, ca'⟩ N F H σ (keepX e) where
  le := S.le
  f0 := S.f0
  h0 := S.h0
  nf := S.nf
  len := by unfold keepX; rw [List.length_map, S.len]
  slot := fun i s hs => by
    unfold keepX at hs
    rw [List.getElem?_map, Option.map_eq_some_iff] at hs
    obtain ⟨s0, h1, h2⟩ := hs
    obtain ⟨o, g1, g2⟩ := S.slot i s0 h1
    refine ⟨o, g1, ?_⟩
    by_cases n : s = .no
    · subst n; trivial
    · obtain ⟨rfl, x⟩ := keepS_val h2 n
      cases s0 with
      | no => trivial
      | fz d => obtain ⟨v, e, r⟩ := g2; exact ⟨v, e, r.down hd (x d rfl)⟩
      | ow d => obtain ⟨b, e, f, n, t⟩ := g2; exact ⟨b, e, f, n, t.down hd (x d rfl)⟩
      | bo d =>
        obtain ⟨v, e, r⟩ := g2
        rcases r with r | ⟨b, e2, f, y, z, t⟩
        · exact ⟨v, e, .inl (r.down hd (x d rfl))⟩
        · exact ⟨v, e, .inr ⟨b, e2, f, y, z, t.down hd (x d rfl)⟩⟩
      | mu d => obtain ⟨b, e, f, n, t⟩ := g2; exact ⟨b, e, f, n, t.down hd (x d rfl)⟩
  sep := fun i j s t b h1 h2 ne o l1 l2 => by
    unfold keepX at h1 h2
    rw [List.getElem?_map, Option.map_eq_some_iff] at h1 h2
    obtain ⟨s0, h1, g1⟩ := h1
    obtain ⟨t0, h2, g2⟩ := h2
    have ns : s ≠ .no := fun z => by rw [z] at o; cases o
    have nt : t ≠ .no := fun z => by rw [z] at l2; exact l2
    obtain ⟨rfl, _⟩ := keepS_val g1 ns
    obtain ⟨rfl, x⟩ := keepS_val g2 nt
    have k1 : Live ⟨P, w, K, ca⟩ F ((σ[i]?).join) s0 b := by cases s0 <;> first | exact l1 | cases o
    have k2 : Live ⟨P, w, K, ca⟩ F ((σ[j]?).join) t0 b := by
      cases t0 with
      | bo d => exact ⟨l2.1, fun r => l2.2 (r.down hd (x d rfl))⟩
      | no => exact l2
      | fz d => exact l2
      | ow d => exact l2
      | mu d => exact l2
    exact S.sep i j s0 t0 b h1 h2 ne o k1 k2
  mh := S.mh
  mus := fun i d h => by
    unfold keepX at h
    rw [List.getElem?_map, Option.map_eq_some_iff] at h
    obtain ⟨s0, h1, g1⟩ := h
    obtain ⟨rfl, _⟩ := keepS_val g1 (by intro z; cases z)
    exact S.mus i d h1
end
end S3

/-! E6: the rules for raise, try, and for what a suite reads of the exception. -/
namespace S3
open PySem PySem.Spec L2
section
variable {ca : Str → Option Addr} {W : WX} {X : Cx} {e : Expr} {es : List Expr} {fa : AV} {p pos pos2 : Pos} {x : Str}
/-- what is known of a class that is raised -/
structure ClsT (ca : Str → Option Addr) (P : Program) (K : PySem.W.Frag) (mg : Str → Option Value) (c : Str) (fs : List Str) : Prop where
  ex : ∃ C fI cc cda fd, ca c = some C ∧ PySem.S3X.ExT P K C fI cc cda fd fs ∧ mg c = some (.ref C)
theorem rpp_zip : ∀ {Z : Wd} {F : Hp} {fs : List Str} {vs : List V} {ds : List D}, RpA Z F vs ds → RpP Z F (fs.zip vs) (fs.zip ds)
  | _, _, [], _, _, _ => by rw [List.zip_nil_left, List.zip_nil_left]; exact .nil
  | _, _, _ :: _, _, _, .nil => .nil
  | _, _, _ :: _, _, _, .cons h r => .cons h (rpp_zip r)
theorem sv_raise {k : Nat} {fs : List Str} (T : ClsT ca X.prog X.K X.mg x fs) (hms : X.mg "super" = none) (hr : Room k X.A) (tk : Takes X W) (ha : Av ca W X (e :: es) fa) (hfs : fs ≠ [] := by decide) (hz : fs.length ≤ 800 := by decide) (hnd : fs.Nodup := by decide) (hc : X.calm = true := by rfl)
    (hg : Gl X x := by rfl) (hdb : (x == ("__debug__" : Str)) = false := by decide) (he : starEach (e :: es) X.env = (false, eval e X.env) :: starEach es X.env := by rfl) (hpl : (backTo pos (starEach es X.env)).any (·.1) = false := by rfl) :
    Sv ca W X (.Raise (some (.Call (.Name x p) (e :: es) [] pos)) none pos2) (sRaise x fs fa) := by
  obtain ⟨C, fI, cc, cda, fd, hC, T, hm⟩ := T.ex
  refine PS_imp (ps_raise hc tk (pmk_x T hfs hz hnd hms hr ha hg hm hdb he hpl)) fun D σ H h => ?_
  obtain ⟨N, F, e1, S, P⟩ := h
  refine ⟨N, F, e1, S, ?_⟩
  unfold sRaise at P
  cases q : fa e1 with
  | no => rw [q] at P; exact P.elim
  | ex y e2 => rw [q] at P; exact fun cls d F' H' s S' E' => P cls d F' H' σ s S' E'
  | ok rs e2 =>
    rw [q] at P
    dsimp only at P
    intro vs F' H1 s S1 hh
    cases q2 : fzs rs with
    | none => rw [q2] at P; exact P.elim
    | some ds =>
      rw [q2] at P
      dsimp only at P
      by_cases hl : ds.length = fs.length
      · rw [if_pos hl] at P
        have ra := fzs_rd hh q2
        refine ⟨by rw [ra.length]; exact hl, fun d hd => ?_⟩
        have g := Gr.layF (o := .xd (fs.zip vs)) S1.le hd
        refine P (.ref C) (some d) (upd F' d (.xd (fs.zip vs))) _ σ (s.trans g.f) (S1.gr g) ⟨C, hC, rfl, fun z => ?_, fun _ => ⟨d, fs.zip vs, rfl, upd_same, rpp_zip (ra.mono g.f)⟩⟩
        exfalso
        cases fs with
        | nil => exact hfs rfl
        | cons f fs =>
          cases ds with
          | nil => cases hl
          | cons d ds => cases z
      · rw [if_neg hl] at P; exact P.elim
end
section
variable {ca : Str → Option Addr} {W : WX} {X : Cx} {x n : Str} {c : Value} {i : Nat} {body suite : List Stmt} {b₀ : Stmt} {np pos pos' : Pos} {b h : SV}
theorem try_end {N : En} {F F' H' : Hp} {σ' : L2.St} {e2 : Env} {D : Ends} {y : Exn} {sub : Str → Bool} {cls : Value} {d : Option Addr} (k0 : ca "" = none ∧ ca " " = none ∧ ca "  " = none) (hsub : ∀ m C, ca m = some C → xnm m = true → PySem.W.exmOne X.K (.ref C) c = some (sub m)) (nm : xnm y.c = true)
    (P : PostS (zw ca X) N F W D (if sub y.c then (match h (e2.set i (.fz (.xn y.c y.fs))) with
      | .nx e2 => .nx ((keepX e2).set i .no)
      | .bk e2 => .bk ((keepX e2).set i .no)
      | .ct e2 => .ct ((keepX e2).set i .no)
      | .rt (.fz d) e2 => if xfree 12 d then .rt (.fz d) (keepX e2) else .no
      | .rt (.nw d) e2 => if xfree 12 d then .rt (.nw d) (keepX e2) else .no
      | _ => .no) else .ex y e2)) (s : Same F F') (S1 : SOk (zw ca X) N F' H' σ' e2) (E1 : ExOk (zw ca X) F' H' y cls d) :
    wAs X.K c i (fun a cls d => tSv (zw (caX ca a cls d) X) (fun _ _ _ _ => False) h) W D cls d σ' H' := by
  obtain ⟨C, hC, rfl, hd0, hd1⟩ := id E1
  refine ⟨sub y.c, hsub _ _ hC nm, fun hb1 a na => ?_, fun hb1 => ?_⟩
  · rw [if_pos hb1] at P
    obtain ⟨u, nk⟩ := caX_up (a := a) (cls := .ref C) (d := d) k0 hC
    have up : ∀ m C', ca m = some C' → caX ca a (.ref C) d m = some C' := fun m C' z => (caX_up k0 z).1
    have dn : ∀ m C', nokey m → caX ca a (.ref C) d m = some C' → ca m = some C' := fun m C' n z => caX_of n z
    have S2 : SOk (zw (caX ca a (.ref C) d) X) N F' H' σ' e2 := S1.up k0.1 up
    have rx : Rp (zw (caX ca a (.ref C) d) X) F' (.ref a) (.xn y.c y.fs) := by
      by_cases z : y.fs = []
      · rw [z]
        exact .xn (xs := []) (caX_a (ca := ca) (a := a) (cls := .ref C) (d := d)) (caX_r (ca := ca) (a := a) (d := d)) u nk (.inl ⟨rfl, (caX_d (ca := ca) (a := a) (cls := .ref C) (d := d)).trans (hd0 z)⟩) .nil
      · obtain ⟨dd, vs, z1, z2, z3⟩ := hd1 z
        exact .xn (caX_a (ca := ca) (a := a) (cls := .ref C) (d := d)) (caX_r (ca := ca) (a := a) (d := d)) u nk (.inr ⟨dd, (caX_d (ca := ca) (a := a) (cls := .ref C) (d := d)).trans z1, z2⟩) (z3.up k0.1 up)
    refine ⟨N, F', _, S2.set (i := i) rx, ?_⟩
    have W2 : ∀ {F2 H2 : Hp} {σ2 : L2.St} {e3 : Env}, SOk (zw (caX ca a (.ref C) d) X) N F2 H2 σ2 e3 → SOk (zw ca X) N F2 H2 (σ2.set i none) ((keepX e3).set i .no) := fun S3' => (S3'.down dn).wipe2 [i]
    cases q2 : h (e2.set i (.fz (.xn y.c y.fs))) with
    | no => rw [q2] at P; exact P.elim
    | ex _ _ => rw [q2] at P; exact P.elim
    | bk e3 =>
      rw [q2] at P
      exact fun F2 H2 σ2 s2 S3' => P F2 H2 (σ2.set i none) (s.trans s2) (W2 S3')
    | ct e3 =>
      rw [q2] at P
      exact fun F2 H2 σ2 s2 S3' => P F2 H2 (σ2.set i none) (s.trans s2) (W2 S3')
    | nx e3 =>
      rw [q2] at P
      exact fun F2 H2 σ2 s2 S3' => P F2 H2 (σ2.set i none) (s.trans s2) (W2 S3')
    | rt r e3 =>
      rw [q2] at P
      cases r with
      | «at» _ => exact P.elim
      | nw dv =>
        dsimp only at P
        by_cases z : xfree 12 dv = true
        · rw [if_pos z] at P
          intro v F2 H2 σ2 s2 S3' R
          have S4 := S3'.down dn
          obtain ⟨b, e1, f1, n1, t1, l1⟩ := R
          refine P v F2 H2 σ2 (s.trans s2) S4 ⟨b, e1, f1, n1, t1.down dn z, fun j sj hj lj => ?_⟩
          unfold keepX at hj
          rw [List.getElem?_map, Option.map_eq_some_iff] at hj
          obtain ⟨s0, g1, g2⟩ := hj
          have ns : sj ≠ .no := fun z => by rw [z] at lj; exact lj
          obtain ⟨rfl, x⟩ := keepS_val g2 ns
          refine l1 j s0 g1 ?_
          cases s0 with
          | bo d => exact ⟨lj.1, fun r => lj.2 (r.down dn (x d rfl))⟩
          | no => exact lj
          | fz d => exact lj
          | ow d => exact lj
          | mu d => exact lj
        · rw [if_neg z] at P; exact P.elim
      | fz dv =>
        dsimp only at P
        by_cases z : xfree 12 dv = true
        · rw [if_pos z] at P
          exact fun v F2 H2 σ2 s2 S3' R => P v F2 H2 σ2 (s.trans s2) (S3'.down dn) (Rp.down dn z R)
        · rw [if_neg z] at P; exact P.elim
  · have hb1' : ¬ sub y.c = true := by rw [hb1]; decide
    rw [if_neg hb1'] at P
    exact P (.ref C) d F' H' σ' s S1 E1
theorem sv_try {sub : Str → Bool} (i : Nat) (hs : X.stack = X.env :: X.outer) (hf : X.env.frame = some X.env.locals) (hN : X.N.Nodup) (k0 : ca "" = none ∧ ca " " = none ∧ ca "  " = none) (hsub : ∀ m C, ca m = some C → xnm m = true → PySem.W.exmOne X.K (.ref C) c = some (sub m)) (hc : Names X x c) (tk : Takes X W)
    (hb : ∀ (W : WX) (pn : List (Addr × Obj)) (xe : Value → Shared → Prop), Takes (X.tr pn xe) W → PassesOwn (model X.prog X.w) X.A X.env xe → Bv ca W (X.tr pn xe) body b)
    (hsu : ∀ (a : Addr) (oe : Obj) (cls : Value) (d : Option Addr) (pn : List (Addr × Obj)), Zc cls d oe → (∃ vs, oe.data = .fields vs) → Bv (caX ca a cls d) (fun _ _ _ _ => False) (X.suite a ((a, oe) :: pn)) (b₀ :: suite) h)
    (hi : X.N[i]? = some n := by rfl) (hln : X.env.kindOf n = some .local := by rfl) :
    Sv ca W X (.Try body [.ExceptHandler (some (.Name x np)) (some n) (b₀ :: suite) pos'] [] [] pos) (sTry sub i b h) := by
  refine PS_imp (ps_try_as (tb := fun W => tSv (zw ca X) W b) (ts := fun a cls d => tSv (zw (caX ca a cls d) X) (fun _ _ _ _ => False) h) hs hf hN hi hln hc tk hb hsu) fun D σ H hh => ?_
  obtain ⟨N, F, e1, S, P⟩ := hh
  refine ⟨N, F, e1, S, ?_⟩
  unfold sTry at P
  cases q : b e1 with
  | no => rw [q] at P; exact P
  | nx e2 => rw [q] at P; exact P
  | rt r e2 => rw [q] at P; exact P
  | bk e2 => rw [q] at P; exact P
  | ct e2 => rw [q] at P; exact P
  | ex y e2 =>
    rw [q] at P
    dsimp only at P
    intro cls d F' H' σ' s S1 E1
    by_cases nm : xnm y.c = true
    · rw [if_pos nm] at P
      exact try_end k0 hsub nm P s S1 E1
    · rw [if_neg nm] at P; exact P.elim
end
end S3

/-! E7: in an except suite: isinstance(n, C), n.f. -/
namespace S3
open PySem PySem.Spec L2
/-- what is asked of an exception's class -/
structure XcK (K : PySem.W.Frag) (C : Addr) (fs : List Str) : Prop where
  cl : (PySem.W.clsIn K C).isSome = true
  ga : PySem.W.findIn K (.ref C) "__getattribute__" = some (some (.builtin "BaseException.__getattribute__"))
  gt : PySem.W.findIn K (.ref C) "__getattr__" = some none
  sb : PySem.W.subIn K (.ref C) (.type "BaseException") = some true
  ha : PySem.W.findIn K (.ref C) "__class__" = some (some (.builtin "object.__class__"))
  hn : PySem.W.specialIn K (.builtin "object.__class__") "__get__" = some (some (.builtin "getset_descriptor.__get__"))
  ht : PySem.W.takesIn K (.builtin "object.__class__") = some true
  hm : PySem.W.mroIn K C (.type "object") = some true
  hd : PySem.W.hasDictIn K C = true
  no : ∀ f ∈ fs, PySem.W.findIn K (.ref C) f = some none
section
variable {X : Cx} {a : Addr} {oe : Obj} {cls : Value} {d : Option Addr} {pn : List (Addr × Obj)}
/-- the exception as an instance -/
theorem inst_at {pins : List (Addr × Obj)} {σ : L2.St} {H : Hp} {s : Shared} {C : Addr} (hz : Zc (.ref C) d oe) (hf : ∃ vs, oe.data = .fields vs) (I : Inv (X.suite a ((a, oe) :: pn)) pins σ H s) (hd : d = none ∨ ∃ dd vs, d = some dd ∧ H dd = some (.xd vs)) : ∃ od, PySem.W.InstAt s.heap a oe C od := by
  obtain ⟨hget, _⟩ := I.pin (a, oe) (List.mem_append_left _ List.mem_cons_self)
  obtain ⟨vs, hv⟩ := hf
  rcases hd with rfl | ⟨dd, ws, rfl, hdd⟩
  · exact ⟨none, hget, hz.1, by unfold PySem.W.notCls; rw [hv] <;> rfl, by rw [hz.2]; trivial⟩
  · have hx : ObjOk X.prog X.w H s.heap dd (.xd ws) := I.hok dd _ hdd
    obtain ⟨mA, hns, hr⟩ := hx
    obtain ⟨od, ho, hl⟩ := lookIn_ns hns
    exact ⟨some od, hget, hz.1, by unfold PySem.W.notCls; rw [hv] <;> rfl, by rw [hz.2]; exact ho⟩
def rXis (K : PySem.W.Frag) (a : Addr) (cls : Value) (d : Option Addr) (cv : Value) (fs : List Str) : List V → Hp → VK → Prop := fun xs H Q => ∃ c C b, xs = [.ref a, c] ∧ (∀ u, RelV c u → u = cv) ∧ cls = .ref C ∧ XcK K C fs ∧ (d = none ∨ ∃ dd vs, d = some dd ∧ H dd = some (.xd vs)) ∧ PySem.W.kitOne K (.ref C) cv = some b ∧ Q (.bl b) H
theorem call_xis (hz : Zc cls d oe) (hf : ∃ vs, oe.data = .fields vs) {cv : Value} {fs : List Str} : CallR (X.suite a ((a, oe) :: pn)) (.builtin "isinstance") (rXis X.K a cls d cv fs) := by
  intro pins s σ H xs us Q I r h
  obtain ⟨c, C, b, rfl, hcv, rfl, T, hd, e, q⟩ := h
  cases r with
  | cons rx rr =>
    cases rr with
    | cons rt rr =>
      cases rr
      cases rx
      have ec := hcv _ rt
      subst ec
      obtain ⟨od, J⟩ := inst_at hz hf I hd
      exact PySem.W.kia_one (PySem.W.kitx_exc T.cl T.ga T.gt T.sb T.ha T.hn T.ht T.hm) I.kIn J e (fun z => nomatch z) fun tk => ⟨.bl b, H, I.kept (t' := tk) fun _ _ z => z, rfl, q⟩
end
theorem RpP.lookF {Z : Wd} {F : Hp} : ∀ {xs : List (Str × V)} {ds : List (Str × D)} {f : Str} {y : D}, RpP Z F xs ds → ds.lookup f = some y → ∃ v, xs.lookup f = some v ∧ Rp Z F v y
  | [], _, _, _, h, q => by cases h; cases q
  | (k, v) :: xs, _, f, y, h, q => by
    cases h with
    | cons h r =>
      rw [List.lookup_cons] at q ⊢
      split at q
      · cases q; exact ⟨v, rfl, h⟩
      · exact RpP.lookF r q
section
variable {ca : Str → Option Addr} {W : WX} {X : Cx} {a : Addr} {oe : Obj} {cls : Value} {d : Option Addr} {pn : List (Addr × Obj)} {e : Expr} {fe : EV} {p p2 pos : Pos} {fs : List Str}
/-- what a frozen exception stands for -/
theorem xn_of {F H : Hp} {x : V} {c : Str} {ds : List (Str × D)} (l : Same F H) (h : RdV (zw (caX ca a cls d) (X.suite a ((a, oe) :: pn))) F H x (.xn c ds)) :
    ∃ C xs, x = .ref a ∧ cls = .ref C ∧ ca c = some C ∧ ((ds = [] ∧ d = none) ∨ ∃ dd, d = some dd ∧ F dd = some (.xd xs)) ∧ RpP (zw (caX ca a cls d) (X.suite a ((a, oe) :: pn))) F xs ds := by
  rcases h with h | ⟨_, _, _, t⟩
  · cases h with
    | xn h1 h2 h3 nk h4 r =>
      have e1 : caX ca a cls d "" = some _ := h1
      rw [caX_a] at e1
      cases e1
      have e2 : caX ca a cls d "  " = some _ := h2
      rw [caX_c] at e2
      have e3 : ca c = some _ := caX_of nk h3
      have hd' := h4.imp (fun (z : _ ∧ _) => And.intro z.1 ((caX_d (ca := ca) (a := a) (cls := cls) (d := d)).symm.trans z.2)) fun ⟨dd, x, y⟩ => (⟨dd, (caX_d (ca := ca) (a := a) (cls := cls) (d := d)).symm.trans x, y⟩ : ∃ dd, d = some dd ∧ F dd = some (HO.xd _))
      cases cls <;> try (cases e2; done)
      cases e2
      exact ⟨_, _, rfl, rfl, e3, hd', r⟩
  · exact t.elim
theorem s_xis {sub : Str → Bool} {vv : V} {cv : Value} (T : ∀ m C, ca m = some C → xnm m = true → XcK X.K C fs ∧ PySem.W.kitOne X.K (.ref C) cv = some (sub m)) (hr : ∀ u, RelV vv u → u = cv) :
    Sound1 (zw (caX ca a cls d) (X.suite a ((a, oe) :: pn))) (fun x => rXis X.K a cls d cv fs [x, vv]) (opXis sub) := by
  intro F H x dx rr Q l hx ho q
  cases dx <;> simp only [opXis] at ho <;> try (cases ho; done)
  split at ho
  rotate_left
  · cases ho
  rename_i nm
  cases ho
  obtain ⟨C, xs, rfl, rfl, hc, hd, r⟩ := xn_of l hx
  obtain ⟨T1, T2⟩ := T _ _ hc nm
  refine ⟨vv, C, _, rfl, hr, rfl, T1, ?_, T2, fin_bl l q⟩
  rcases hd with ⟨_, z⟩ | ⟨dd, z, y⟩
  · exact .inl z
  · exact .inr ⟨dd, xs, z, l _ _ y⟩
/-- isinstance(n, C) -/
theorem ev_xis {sub : Str → Bool} {n : Str} {vv : V} {cv : Value} (hz : Zc cls d oe) (hf : ∃ vs, oe.data = .fields vs) (T : ∀ m C, ca m = some C → xnm m = true → XcK X.K C fs ∧ PySem.W.kitOne X.K (.ref C) cv = some (sub m))
    (hv : PE (X.suite a ((a, oe) :: pn)) (.Name n p2) (tC vv)) (hr : ∀ u, RelV vv u → u = cv) (hm : X.mg "isinstance" = none) (he : Ev (caX ca a cls d) W (X.suite a ((a, oe) :: pn)) e fe) (hg : Gl (X.suite a ((a, oe) :: pn)) "isinstance" := by rfl)
    (hs : starEach [e, .Name n p2] X.env = (false, eval e X.env) :: starEach [.Name n p2] X.env := by rfl) :
    Ev (caX ca a cls d) W (X.suite a ((a, oe) :: pn)) (.Call (.Name "isinstance" p) [e, .Name n p2] [] pos) (eOp1 (opXis sub) fe) :=
  PE_imp (pe_callB (call_xis hz hf) hg hm (by decide +kernel) (pa_cons he (pa_cons hv pa_nil) hs) (by decide) (by decide) hs (by rfl)) fun _ _ _ => one (s_xis (fs := fs) T hr)
/-- n.f -/
def tXf (K : PySem.W.Frag) (a : Addr) (cls : Value) (d : Option Addr) (f : Str) (te : TE) : TE := fun σ H Q => te σ H fun x H1 => ∃ C dd xs v, x = .ref a ∧ cls = .ref C ∧ XcK K C [f] ∧ d = some dd ∧ H1 dd = some (.xd xs) ∧ xs.lookup f = some v ∧ Q v H1
theorem pe_xf {f : Str} {te : TE} (hz : Zc cls d oe) (hf : ∃ vs, oe.data = .fields vs) (he : PE (X.suite a ((a, oe) :: pn)) e te) (hb : attributeBase e f X.env (eval e X.env) = eval e X.env := by rfl) :
    PE (X.suite a ((a, oe) :: pn)) (.Attribute e f pos) (tXf X.K a cls d f te) := by
  refine ⟨fun pins s σ H Q I h => ?_⟩
  refine attr_of hb (thn (he.run pins s σ H _ I h) fun u s1 hh => ?_)
  obtain ⟨x, H1, I1, rx, C, dd, xs, v, ex, ec, T, ed, ea, hl, q⟩ := hh
  subst ex
  obtain rfl : u = Value.ref a := rx
  subst ec
  subst ed
  obtain ⟨ha, _⟩ := I1.pin (a, oe) (List.mem_append_left _ List.mem_cons_self)
  obtain ⟨vs, hdt⟩ := hf
  have hx : ObjOk X.prog X.w H1 s1.heap dd (.xd xs) := I1.hok dd _ ea
  obtain ⟨mA, hns, hr⟩ := hx
  obtain ⟨od, ho, hlk⟩ := lookIn_ns hns
  obtain ⟨u, hu, ru⟩ := RelO.some_of (v := v) (o := mA f) (by rw [← hl]; exact hr f)
  have J : PySem.W.InstAt s1.heap a oe C (some od) := ⟨ha, hz.1, by unfold PySem.W.notCls; rw [hdt] <;> rfl, by rw [hz.2]; exact ho⟩
  exact PySem.HandSPX.exc_get I1.kIn J T.ga T.gt T.sb (PySem.W.findObj_own T.hd (T.no f (by simp)) rfl (by rw [hlk, hu])) (handed_of ru) ⟨v, H1, I1.tok _, ru, q⟩
theorem ev_xf {f : Str} (hz : Zc cls d oe) (hf : ∃ vs, oe.data = .fields vs) (T : ∀ m C, ca m = some C → xnm m = true → XcK X.K C [f]) (he : Ev (caX ca a cls d) W (X.suite a ((a, oe) :: pn)) e fe) (hb : attributeBase e f X.env (eval e X.env) = eval e X.env := by rfl) :
    Ev (caX ca a cls d) W (X.suite a ((a, oe) :: pn)) (.Attribute e f pos) (eOp1 (opXf f) fe) := by
  refine PE_imp (pe_xf hz hf he hb) fun σ H Q h => ?_
  refine one (r := fun x H1 Q => ∃ C dd xs v, x = .ref a ∧ cls = .ref C ∧ XcK X.K C [f] ∧ d = some dd ∧ H1 dd = some (.xd xs) ∧ xs.lookup f = some v ∧ Q v H1) ?_ h
  intro F H x dx rr Q l hx ho q
  cases dx <;> simp only [opXf] at ho <;> try (cases ho; done)
  split at ho
  rotate_left
  · cases ho
  rename_i nm
  rw [Option.map_eq_some_iff] at ho
  obtain ⟨y, hy, rfl⟩ := ho
  obtain ⟨C, xs, rfl, rfl, hc, hd, r⟩ := xn_of l hx
  rcases hd with ⟨z, _⟩ | ⟨dd, z, z2⟩
  · rw [z] at hy; cases hy
  · obtain ⟨v, h1, h2⟩ := RpP.lookF r hy
    exact ⟨C, dd, xs, v, rfl, rfl, T _ _ hc nm, z, l _ _ z2, h1, fin_fz l q h2⟩
end
end S3

/-! E8: raise C(..) from D(..). -/
namespace S3F
open PySem PySem.Spec PyProof.Rows HotX
/-- the heap behind «from»: field 3 is the cause, field 4 is True -/
def causeOf (h : Heap) (a b : Addr) : Heap := (h.update a (Obj.mapFields (·.setIfInBounds 3 (.ref b)))).update a (Obj.mapFields (·.setIfInBounds 4 (.bool true)))
theorem causeOf_at {h : Heap} {a b : Addr} {oe : Obj} {vs : Array Value} (ha : h.get? a = some oe) (hd : oe.data = .fields vs) :
    (causeOf h a b).get? a = some ((oe.mapFields (·.setIfInBounds 3 (.ref b))).mapFields (·.setIfInBounds 4 (.bool true))) ∧ ((oe.mapFields (·.setIfInBounds 3 (.ref b))).mapFields (·.setIfInBounds 4 (.bool true))).data = .fields ((vs.setIfInBounds 3 (.ref b)).setIfInBounds 4 (.bool true)) := by
  have hd3 := Obj.data_mapFields hd (·.setIfInBounds 3 (Value.ref b))
  have ha3 := Heap.get?_update_self (Obj.mapFields (·.setIfInBounds 3 (Value.ref b))) ha (Obj.isFreed_of_fields hd3)
  have hd4 := Obj.data_mapFields hd3 (·.setIfInBounds 4 (Value.bool true))
  exact ⟨Heap.get?_update_self (Obj.mapFields (·.setIfInBounds 4 (Value.bool true))) ha3 (Obj.isFreed_of_fields hd4), hd4⟩
theorem causeOf_other {h : Heap} {a b c : Addr} (hne : a ≠ c) : (causeOf h a b).get? c = h.get? c := by
  unfold causeOf
  rw [Heap.get?_update_other _ _ hne, Heap.get?_update_other _ _ hne]
theorem raise_from {M : Model} {A : Around} {E : Value → Shared → Prop} {env : PySem.Env} {s : Shared} {x c : Sem Value} {Q : Flow → Shared → Prop} (hh : A.handled = none)
    (h : wpAny M A x (fun v s₁ => wpAny M A c (fun u s₂ => ∃ a oe vs cls b ob vb cb, v = .ref a ∧ u = .ref b ∧ s₂.heap.get? a = some oe ∧ oe.cls = cls ∧ oe.data = .fields vs ∧ vs[1]? = some .none ∧ 4 < vs.size ∧
      s₂.heap.get? b = some ob ∧ ob.cls = cb ∧ ob.data = .fields vb ∧
      PySem.W.Looks M s₂.heap (isSubtype cls (.type "BaseException")) true ∧ PySem.W.Looks M s₂.heap (isSubtype cb (.type "BaseException")) true ∧ PySem.W.Looks M (causeOf s₂.heap a b) (typeOf cls) (.type "type") ∧
      E (.ref a) { s₂ with heap := causeOf s₂.heap a b }) E s₁) E s) : wpAny M A (raiseStmt env (some x) (some c)) Q E s := by
  unfold raiseStmt
  dsimp only
  refine wpAny_bind (wpAny_mono h (fun v s₁ h₁ => ?_) fun _ _ x => x)
  refine wpAny_bind (wpAny_holding (wpAny_mono h₁ (fun u s₂ h₂ => ?_) fun _ _ x => x))
  obtain ⟨a, oe, vs, cls, b, ob, vb, cb, rfl, rfl, ha, hcls, hd, h1, hi, hb, hcb, hdb, L1, L2, L3, hE⟩ := h₂
  have LTa : PySem.W.Looks M s₂.heap (typeOf (.ref a)) cls := fun A Q E s k q => wpAny_typeOf_ref (k _ _ ha) (by rw [hcls]; exact q)
  have LTb : PySem.W.Looks M s₂.heap (typeOf (.ref b)) cb := fun A Q E s k q => wpAny_typeOf_ref (k _ _ hb) (by rw [hcb]; exact q)
  have LIa : PySem.W.Looks M s₂.heap (isInstance (.ref a) (.type "BaseException")) true := LTa.andThen L1
  have LIb : PySem.W.Looks M s₂.heap (isInstance (.ref b) (.type "BaseException")) true := LTb.andThen L2
  have nt : ∀ {p : Addr} {o : Obj} {ws : Array Value} {s' : Shared} {Q' : Bool → Shared → Prop}, s'.heap.get? p = some o → o.data = .fields ws → Q' false s' → wpAny M A (isType (.ref p)) Q' E s' := by
    intro p o ws s' Q' hp hw hq
    simp only [isType, loadHead]
    refine wpAny_bind (wpAny_loadPart hp ?_)
    rw [hw]; exact wpAny_pure hq
  have ex : ∀ {p : Addr} {o : Obj} {ws : Array Value} {m : String} {Q' : Value → Shared → Prop}, s₂.heap.get? p = some o → o.data = .fields ws → PySem.W.Looks M s₂.heap (isInstance (.ref p) (.type "BaseException")) true → Q' (.ref p) s₂ → wpAny M A (excFromValue (.ref p) m) Q' E s₂ := by
    intro p o ws m Q' hp hw L hq
    unfold excFromValue isExcClass
    refine wpAny_bind (wpAny_bind (nt hp hw ?_))
    simp only [Bool.false_eq_true, if_false]
    refine wpAny_pure ?_
    simp only [Bool.false_eq_true, if_false]
    refine wpAny_bind (L.here ?_)
    simp only [if_true]
    exact wpAny_pure hq
  have hd3 := Obj.data_mapFields hd (·.setIfInBounds 3 (Value.ref b))
  have ha3 := Heap.get?_update_self (Obj.mapFields (·.setIfInBounds 3 (Value.ref b))) ha (Obj.isFreed_of_fields hd3)
  obtain ⟨ha4, hd4⟩ := causeOf_at (b := b) ha hd
  have s3 : 3 < vs.size := by omega
  have s4 : 4 < (vs.setIfInBounds 3 (Value.ref b)).size := by rw [set_size]; exact hi
  have h14 : ((vs.setIfInBounds 3 (Value.ref b)).setIfInBounds 4 (Value.bool true))[1]? = some Value.none := set_other (by decide) (set_other (by decide) h1)
  have hcls4 : ((oe.mapFields (·.setIfInBounds 3 (.ref b))).mapFields (·.setIfInBounds 4 (.bool true))).cls = cls := by rw [Obj.cls_mapFields, Obj.cls_mapFields]; exact hcls
  have LT4 : PySem.W.Looks M (causeOf s₂.heap a b) (typeOf (.ref a)) cls := fun A Q E s k q => wpAny_typeOf_ref (k _ _ ha4) (by rw [hcls4]; exact q)
  have rest : wpAny M A (do
      let t ← isType (.ref a)
      if t = true then do
        let e ← holding [.ref a] (raisedFor (.ref a) (.ref a))
        setFlight e none
        raiseNew e
      else do
        let e ← raisedInstance (.ref a)
        setFlight e none
        raiseNew e : Sem Flow) Q E { s₂ with heap := causeOf s₂.heap a b } := by
    refine wpAny_bind (nt (s' := { s₂ with heap := causeOf s₂.heap a b }) ha4 hd4 ?_)
    simp only [Bool.false_eq_true, if_false]
    unfold raisedInstance
    refine wpAny_bind (wpAny_bind (LT4.here (wpAny_bind (L3.here ?_))))
    rw [if_pos (beq_self_eq_true _)]
    refine wpAny_pure ?_
    unfold setFlight raiseNew
    refine wpAny_bind (wpAny_bind (wpAny_field ha4 hd4 h14 ?_))
    rw [if_neg (by decide)]
    refine wpAny_pure (wpAny_bind (wpAny_handled ?_))
    rw [hh]
    first
      | exact wpAny_throw hE
      | exact wpAny_bind (wpAny_pure (wpAny_throw hE))
  refine wpAny_bind (wpAny_pure ?_)
  dsimp only
  refine wpAny_bind (wpAny_holding (ex ha hd LIa ?_))
  have nn : (Value.ref b == Value.none) = false := rfl
  rw [if_neg (by rw [nn]; decide)]
  refine wpAny_bind (wpAny_holding (ex hb hdb LIb ?_))
  refine wpAny_bind (wpAny_setField ha hd s3 (wpAny_bind (wpAny_setField ha3 hd3 s4 ?_)))
  exact rest
end S3F
namespace L2
open PySem PySem.Spec PyProof.Rows PySem.S3X S3F
/-- an exception object that is not raised yet, its dict at d -/
def ExV (cls : Value) (d : Option Addr) (a : Addr) : HO := .ext fun h => ∃ (oe : Obj) (vs : Array Value), h.get? a = some oe ∧ Zc cls d oe ∧ oe.data = .fields vs ∧ vs[1]? = some .none ∧ vs[2]? = some .none ∧ 4 < vs.size
theorem exV_ok {P : Program} {w : World} {H : Hp} {h : Heap} {a : Addr} {cls : Value} {d : Option Addr} {oe : Obj} {vs : Array Value} (e : h.get? a = some oe) (z : Zc cls d oe) (hd : oe.data = .fields vs) (h1 : vs[1]? = some .none) (h2 : vs[2]? = some .none) (h5 : 4 < vs.size) : ObjOk P w H h a (ExV cls d a) :=
  ⟨⟨oe, vs, e, z, hd, h1, h2, h5⟩, ⟨oe, e⟩, fun _ _ ⟨o, v, q, r⟩ k => ⟨o, v, k o q, r⟩⟩
section
variable {X : Cx} {pins : List (Addr × Obj)} {σ : St} {H : Hp} {s : Shared}
/-- a tracked thing laid since the entry is forgotten, the heap read without it (turned from Inv.untrack: the place is new) -/
theorem Inv.untrackN {a : Addr} {φ : Heap → Prop} (I : Inv X pins σ H s) (ha : H a = some (.ext φ)) (n0 : X.s_0.heap.get? a = none) :
    ∃ G : Heap, (∀ b o, G.get? b = some o → s.heap.get? b = some o) ∧ G.get? a = none ∧ Inv X pins σ (delH H a) { s with heap := G } := by
  obtain ⟨G, g1, g2⟩ := restrict s.heap fun b => decide (b ≠ a)
  have gk : ∀ b o, b ≠ a → s.heap.get? b = some o → G.get? b = some o := fun b o hb e => by
    rw [g1 b (decide_eq_true hb)]
    exact e
  have ga : G.get? a = none := g2 a (decide_eq_false fun z => z rfl)
  have gs : ∀ b o, G.get? b = some o → s.heap.get? b = some o := fun b o e => by
    by_cases hb : b = a
    · rw [hb, ga] at e
      cases e
    · rw [← g1 b (decide_eq_true hb)]
      exact e
  have ne0 : ∀ b o, X.s_0.heap.get? b = some o → b ≠ a := fun b o e z => by
    rw [z, n0] at e
    cases e
  have neN : ∀ b, H b = none → b ≠ a := fun b e z => by
    rw [z, ha] at e
    cases e
  have neT : ∀ b xs, H b = some (.tup xs) → b ≠ a := fun b xs e z => by
    rw [z, ha] at e
    cases e
  have neF : ∀ b o u, H b = some (.frz o u) → b ≠ a := fun b o u e z => by
    rw [z, ha] at e
    cases e
  have neB : ∀ b ps, H b = some (.tbl ps) → b ≠ a := fun b ps e z => by
    rw [z, ha] at e
    cases e
  have neO : ∀ b c, H b = some (.own c) → b ≠ a := fun b c e z => by
    rw [z, ha] at e
    cases e
  have cellK : ∀ x c, X.env.cells.lookup x = some c → ∀ v, s.heap.IsCell c v → G.IsCell c v := fun x c e v ⟨o, ho, hd⟩ => ⟨o, gk c o (neN c (I.freeC x c e)) ho, hd⟩
  refine ⟨G, gs, ga, ⟨I.ok, I.os, I.bare, ⟨fun b o e n hb hq => ?_, fun b o e n hb hq => ?_, fun b o e n hq => ?_, fun b o e hq => ?_, fun b xs e => ?_, fun b o u e => ?_, fun b ps e => ?_⟩, ?_, fun x c e => ?_, ?_, fun x c e => ?_, fun p hp => ?_, fun b u e => ?_, I.len⟩⟩
  · exact gk b o (ne0 b o e) (I.base.keep b o e n hb hq)
  · obtain ⟨sl, q⟩ := I.base.slot b o e n hb hq
    exact ⟨sl, gk b _ (ne0 b o e) q⟩
  · rw [delH_ne (ne0 b o e)]
    exact I.base.free b o e n hq
  · obtain ⟨o', q⟩ := I.base.there b o e hq
    exact ⟨o', gk b o' (ne0 b o e) q⟩
  · have q := I.base.tups b xs e
    rw [delH_ne (neT b xs q)]
    exact q
  · have q := I.base.frzs b o u e
    rw [delH_ne (neF b o u q)]
    exact q
  · obtain ⟨m, q⟩ := I.base.tbls b ps e
    exact ⟨m, by rw [delH_ne (neB b _ q)]; exact q⟩
  · obtain ⟨m, ⟨o, es, ep, ho, r⟩, hl⟩ := I.loc
    refine ⟨m, ⟨o, es, ep, gk _ _ (neN _ I.free) ho, r⟩, fun i x v e1 e2 e3 => ?_⟩
    obtain ⟨u, r', l⟩ := hl i x v e1 e2 e3
    refine ⟨u, r', ?_⟩
    rcases l with l | ⟨k, c, ec, z⟩
    · exact .inl l
    · exact .inr ⟨k, c, ec, cellK x c ec _ z⟩
  · obtain ⟨v, z⟩ := I.cell x c e
    exact ⟨v, cellK x c e v z⟩
  · rw [delH_ne (neN _ I.free)]
    exact I.free
  · rw [delH_ne (neN _ (I.freeC x c e))]
    exact I.freeC x c e
  · obtain ⟨e, n, ne, nf, d⟩ := I.pin p hp
    exact ⟨gk _ _ (neN _ n) e, by rw [delH_ne (neN _ n)]; exact n, ne, nf, d⟩
  · have hb : b ≠ a := fun z => by
      rw [z, delH_same] at e
      cases e
    rw [delH_ne hb] at e
    refine (I.hok b u e).stay (fun c v hc q => gk c v ?_ q) (fun c q => ?_) fun c xs q => ?_
    · rcases hc with z | z
      · rw [z]
        exact hb
      · exact neO _ _ z
    · rw [delH_ne (neO c b q)]
      exact q
    · rw [delH_ne (neT c xs q)]
      exact q
end
end L2

/-! E9: the rule for raise C(..) from D(..). -/
namespace L2
open PySem PySem.Spec PyProof.Rows PySem.S3X S3F
section
variable {X : Cx} {C fI cc cda : Addr} {fd : FuncData} {fs : List Str} {C2 fI2 cc2 cda2 : Addr} {fd2 : FuncData} {fs2 : List Str} {e : Expr} {es : List Expr} {e2 : Expr} {es2 : List Expr} {ta tb : TA} {p pos q0 q1 pos2 : Pos} {x y : Str}
/-- a new exception object by its class's call: tracked, its dict tracked -/
theorem new_x {k : Nat} (T : ExT X.prog X.K C fI cc cda fd fs) (hfs : fs ≠ []) (hz : fs.length ≤ 800) (hnd : fs.Nodup) (hms : X.mg "super" = none) (hr : Room k X.A) {pins : List (Addr × Obj)} {σ : St} {H : Hp} {s : Shared} {us : List Value} {vs : List V} {Q E : Value → Shared → Prop} (I : Inv X pins σ H s) (r : Vals vs us) (hl : vs.length = fs.length)
    (h : ∀ a d t1 s', X.s_0.heap.get? a = none → H a = none → H d = none → d ≠ a → s'.heap.get? a = some (exO C (some d) t1) → Inv X pins σ (upd (upd H a (ExV (.ref C) (some d) a)) d (.xd (fs.zip vs))) s' → Inv X pins σ H s' → Q (.ref a) s') :
    wpAny (model X.prog X.w) X.A (call (.ref C) us) Q E s := by
  have hlim := I.nolimit
  have hlu : us.length = fs.length := by rw [← r.length]; exact hl
  obtain ⟨mb, h1, h2⟩ := I.mod.blt
  have G := I.mod.glob.keeps I.bk
  have B := h1.keeps I.bk
  have sz := I.sz
  obtain ⟨hp, g, dr, tk, os⟩ := s
  refine wpAny_call (made T hfs hz hlu I.kIn hlim G hms B ((h2 _ (by decide)).trans rfl) (by have := hr.dp; omega) fun h' tk' a d t1 kk hne hoe hnd' dne hns => ?_)
  show Q (.ref a) ⟨h', g, dr, tk', os⟩
  obtain ⟨G', g1, g2⟩ := restrict h' fun b => decide (b ≠ d)
  have gk : ∀ b, b ≠ d → G'.get? b = h'.get? b := fun b hb => g1 b (decide_eq_true hb)
  have gd : G'.get? d = none := g2 d (by simp)
  have old : ∀ b o, hp.get? b = some o → G'.get? b = some o := fun b o q => (gk b (Nat.ne_of_lt (Nat.lt_of_lt_of_le (Heap.lt_size q) hnd'))).trans (kk b o q)
  have ga : G'.get? a = some (exO C (some d) t1) := (gk a (Ne.symm dne)).trans hoe
  have na := I.hok.fresh hne
  have nd := I.hok.fresh hnd'
  have I1 : Inv X pins σ (upd H a (ExV (.ref C) (some d) a)) ⟨G', g, dr, tk', os⟩ := I.laid (t' := tk') old hne (exV_ok ga ⟨rfl, rfl⟩ rfl rfl rfl (by show 4 < 6; decide))
  have nd1 : (upd H a (ExV (.ref C) (some d) a)) d = none := by rw [upd_ne dne]; exact nd
  have ob : ObjOk X.prog X.w (upd (upd H a (ExV (.ref C) (some d) a)) d (.xd (fs.zip vs))) h' d (.xd (fs.zip vs)) :=
    ⟨_, hns.at (fun o q => q), fun f => relO_zip hnd r hlu f fun _ => True.intro⟩
  have I2 : Inv X pins σ (upd (upd H a (ExV (.ref C) (some d) a)) d (.xd (fs.zip vs))) ⟨h', g, dr, tk', os⟩ := I1.laidN (t' := tk') (fun b u q => by
    have nb : b ≠ d := fun z => by
      have q' : G'.get? b = some u := q
      rw [z, gd] at q'; cases q'
    exact (gk b nb).symm.trans q) gd nd1 ob
  refine h a d t1 _ ?_ na nd dne hoe I2 (I.kept (t' := tk') kk)
  cases q : X.s_0.heap.get? a with
  | none => rfl
  | some o =>
    exact absurd (Nat.lt_of_lt_of_le (Heap.lt_size q) (Nat.le_trans sz hne)) (Nat.lt_irrefl _)
def tRaiseF (C : Addr) (fs : List Str) (ta : TA) (fs2 : List Str) (tb : TA) (W : WX) : St → Hp → Prop := fun σ H => ta σ H fun vs H1 => vs.length = fs.length ∧ ∀ a d, H1 a = none → H1 d = none → d ≠ a →
  tb σ (upd (upd H1 a (ExV (.ref C) (some d) a)) d (.xd (fs.zip vs))) fun us H2 => us.length = fs2.length ∧ H2 a = some (ExV (.ref C) (some d) a) ∧ W (.ref C) (some d) σ (delH H2 a)
theorem ps_raiseF {W : WX} {k : Nat} (T : ExT X.prog X.K C fI cc cda fd fs) (T2 : ExT X.prog X.K C2 fI2 cc2 cda2 fd2 fs2) (hfs : fs ≠ []) (hfs2 : fs2 ≠ []) (hz : fs.length ≤ 800) (hz2 : fs2.length ≤ 800) (hnd : fs.Nodup) (hnd2 : fs2.Nodup) (hms : X.mg "super" = none) (hr : Room k X.A) (hc : X.calm = true) (tk : Takes X W)
    (ha : PA X (e :: es) ta) (hb : PA X (e2 :: es2) tb) (hg : Gl X x) (hm : X.mg x = some (.ref C)) (hg2 : Gl X y) (hm2 : X.mg y = some (.ref C2))
    (hdb : (x == ("__debug__" : Str)) = false := by decide) (hdb2 : (y == ("__debug__" : Str)) = false := by decide) (he : starEach (e :: es) X.env = (false, eval e X.env) :: starEach es X.env := by rfl) (hpl : (backTo pos (starEach es X.env)).any (·.1) = false := by rfl)
    (he2 : starEach (e2 :: es2) X.env = (false, eval e2 X.env) :: starEach es2 X.env := by rfl) (hpl2 : (backTo q1 (starEach es2 X.env)).any (·.1) = false := by rfl) :
    PS X (.Raise (some (.Call (.Name x p) (e :: es) [] pos)) (some (.Call (.Name y q0) (e2 :: es2) [] q1)) pos2) (fun _ σ H => tRaiseF C fs ta fs2 tb W σ H) := by
  refine ⟨fun pins s σ H D I h => ?_⟩
  show wpAny _ _ (do standAt pos2; raiseStmt X.env (some (do let v ← eval (.Call (.Name x p) (e :: es) [] pos) X.env; standAt pos2; pure v)) (some (do let v ← eval (.Call (.Name y q0) (e2 :: es2) [] q1) X.env; standAt pos2; pure v))) _ _ _
  refine wpAny_bind (wpAny_standAt (raise_from (I.ok.hd hc) (wpAny_bind ?_)))
  refine wpAny_Call_Name_kw (ld_glob I hg hm ?_ hdb)
  refine PySem.W.callWith_K (h₀ := X.base) I.ok.mod.kin T.kC (thn (ha.run pos pins s σ H _ I h) fun us s1 ⟨vs, H1, I1, r1, hl, q⟩ => ⟨I1.kIn, ?_⟩) he hpl
  refine new_x T hfs hz hnd hms hr I1 r1 hl fun a d t1 s2 n0 na nd ne hoe I2 _ => wpAny_bind (wpAny_standAt (wpAny_pure (wpAny_bind ?_)))
  refine wpAny_Call_Name_kw (ld_glob I2 hg2 hm2 ?_ hdb2)
  refine PySem.W.callWith_K (h₀ := X.base) I2.ok.mod.kin T2.kC (thn (hb.run q1 pins s2 σ _ _ I2 (q a d na nd ne)) fun us2 s3 ⟨ws, H2, I3, r3, hl3, hH, hW⟩ => ⟨I3.kIn, ?_⟩) he2 hpl2
  refine new_x T2 hfs2 hz2 hnd2 hms hr I3 r3 hl3 fun b d2 t2 s4 _ nb _ _ hob _ I4 => wpAny_bind (wpAny_standAt (wpAny_pure ?_))
  obtain ⟨⟨oe, vs', ho, hz', hd, h1, h2, h5⟩, _, _⟩ := I4.hok a _ hH
  obtain ⟨G, gs, ga, J⟩ := I4.untrackN hH n0
  obtain ⟨ha4, hd4⟩ := causeOf_at (b := b) ho hd
  have k4 : ∀ c u, G.get? c = some u → (causeOf s4.heap a b).get? c = some u := fun c u z => by
    have nac : a ≠ c := fun y => by rw [← y, ga] at z; cases z
    rw [causeOf_other nac]
    exact gs c u z
  obtain ⟨r1', _⟩ := raises_own T.exC T.tyC (model X.prog X.w) s4.heap I4.kIn
  obtain ⟨r2', _⟩ := raises_own T2.exC T2.tyC (model X.prog X.w) s4.heap I4.kIn
  obtain ⟨_, r3'⟩ := raises_own T.exC T.tyC (model X.prog X.w) (causeOf s4.heap a b) (J.kIn.keeps k4)
  have h14 : ((vs'.setIfInBounds 3 (Value.ref b)).setIfInBounds 4 (Value.bool true))[1]? = some Value.none := HotX.set_other (by decide) (HotX.set_other (by decide) h1)
  refine ⟨a, oe, vs', .ref C, b, _, _, .ref C2, rfl, rfl, ho, hz'.1, hd, h1, h5, hob, rfl, rfl, r1', r2', r3', tk _ _ (XE.new J k4 ga ha4 ⟨by rw [Obj.cls_mapFields, Obj.cls_mapFields]; exact hz'.1, by rw [HandSPX.dict_mapFields, HandSPX.dict_mapFields]; exact hz'.2⟩ hd4 h14 delH_same rfl J.bare hW)⟩
end
end L2
namespace S3
open PySem PySem.Spec L2
/-- raise C(..) from D(..): the second arguments are reckoned with all lent to be read -/
def sRaiseF (c : Str) (fs : List Str) (a : AV) (c2 : Str) (fs2 : List Str) (b : AV) : SV := fun e => match a e with
  | .ok rs e1 => (match fzs rs with
    | some ds => if ds.length = fs.length then (match b (lock e1) with
      | .ok qs _ => (match fzs qs with
        | some us => if us.length = fs2.length then .ex ⟨c, fs.zip ds⟩ e1 else .no
        | none => .no)
      | _ => .no) else .no
    | none => .no)
  | .ex x e1 => .ex x e1
  | .no => .no
section
variable {ca : Str → Option Addr} {W : WX} {X : Cx} {e : Expr} {es : List Expr} {e2 : Expr} {es2 : List Expr} {fa fb : AV} {p pos q0 q1 pos2 : Pos} {x y : Str}
theorem raiseF_rd {Z : Wd} {σ : L2.St} {H : Hp} {D : Ends} {C : Addr} {fs fs2 : List Str} {a b : AV} {c c2 : Str} (hC : Z.ca c = some C) (hfs : fs ≠ []) (h : tSv Z W (sRaiseF c fs a c2 fs2 b) D σ H) : tRaiseF C fs (tAv Z W a) fs2 (tAv Z W b) W σ H := by
  obtain ⟨N, F, e1, S, P⟩ := h
  unfold sRaiseF at P
  refine ⟨N, F, e1, S, ?_⟩
  cases q : a e1 with
  | no => rw [q] at P; exact P.elim
  | ex y e2 => rw [q] at P; exact fun cls d F' H' s S' E' => P cls d F' H' σ s S' E'
  | ok rs e2 =>
    rw [q] at P
    dsimp only at P
    intro vs F1 H1 s S1 hh
    cases q2 : fzs rs with
    | none => rw [q2] at P; exact P.elim
    | some ds =>
      rw [q2] at P
      dsimp only at P
      split at P
      · rename_i hl
        have ra := fzs_rd hh q2
        refine ⟨by rw [ra.length]; exact hl, fun ad d na nd ne => ?_⟩
        have g := Gr.layF (o := .xd (fs.zip vs)) S1.le nd
        have Sd := S1.gr g
        have nad : (upd H1 d (HO.xd (fs.zip vs))) ad = none := by rw [upd_ne (Ne.symm ne)]; exact na
        have S0 := Sd.newLock (o := ExV (.ref C) (some d) ad) nad
        have eH : upd (upd H1 ad (ExV (.ref C) (some d) ad)) d (.xd (fs.zip vs)) = upd (upd H1 d (.xd (fs.zip vs))) ad (ExV (.ref C) (some d) ad) := by
          funext z
          unfold upd
          by_cases z1 : z = d
          · rw [if_pos z1, if_neg (by rw [z1]; exact ne), if_pos z1]
          · by_cases z2 : z = ad
            · rw [if_neg z1, if_pos z2, if_pos z2]
            · rw [if_neg z1, if_neg z2, if_neg z2, if_neg z1]
        rw [eH]
        refine ⟨_, _, lock e2, S0, ?_⟩
        cases q3 : b (lock e2) with
        | no => rw [q3] at P; exact P.elim
        | ex y e3 => rw [q3] at P; exact P.elim
        | ok qs e3 =>
          rw [q3] at P
          dsimp only at P
          intro us F2 H2 f2 S2 hq
          cases q4 : fzs qs with
          | none => rw [q4] at P; exact P.elim
          | some us' =>
            rw [q4] at P
            dsimp only at P
            split at P
            · rename_i hl2
              have rb := fzs_rd hq q4
              obtain ⟨k1, k2, Hm, S3', k3, k4⟩ := Sd.backNew (fun _ z => by cases z) nad S2
              have eD : delH H2 ad = Hm := by
                funext z
                unfold delH
                by_cases z1 : z = ad
                · rw [if_pos z1, z1, k3]
                · rw [if_neg z1]
                  have := congrFun (k4 (.own 0)) z
                  rw [upd_ne z1, upd_ne z1] at this
                  exact this
              refine ⟨by rw [rb.length]; exact hl2, k1, ?_⟩
              rw [eD]
              refine P (.ref C) (some d) F2 Hm σ (s.trans (g.f.trans f2)) S3' ⟨C, hC, rfl, fun z => ?_, fun _ => ⟨d, fs.zip vs, rfl, f2 _ _ upd_same, rpp_zip ((ra.mono g.f).mono f2)⟩⟩
              exfalso
              cases fs with
              | nil => exact hfs rfl
              | cons f fs =>
                cases ds with
                | nil => cases hl
                | cons d ds => cases z
            · exact P.elim
      · exact P.elim
theorem sv_raiseF {k : Nat} {fs fs2 : List Str} (T : ClsT ca X.prog X.K X.mg x fs) (T2 : ClsT ca X.prog X.K X.mg y fs2) (hms : X.mg "super" = none) (hr : Room k X.A) (tk : Takes X W) (ha : Av ca W X (e :: es) fa) (hb : Av ca W X (e2 :: es2) fb) (hfs : fs ≠ [] := by decide) (hfs2 : fs2 ≠ [] := by decide) (hz : fs.length ≤ 800 := by decide) (hz2 : fs2.length ≤ 800 := by decide) (hnd : fs.Nodup := by decide) (hnd2 : fs2.Nodup := by decide)
    (hc : X.calm = true := by rfl) (hg : Gl X x := by rfl) (hg2 : Gl X y := by rfl) (hdb : (x == ("__debug__" : Str)) = false := by decide) (hdb2 : (y == ("__debug__" : Str)) = false := by decide) (he : starEach (e :: es) X.env = (false, eval e X.env) :: starEach es X.env := by rfl) (hpl : (backTo pos (starEach es X.env)).any (·.1) = false := by rfl)
    (he2 : starEach (e2 :: es2) X.env = (false, eval e2 X.env) :: starEach es2 X.env := by rfl) (hpl2 : (backTo q1 (starEach es2 X.env)).any (·.1) = false := by rfl) :
    Sv ca W X (.Raise (some (.Call (.Name x p) (e :: es) [] pos)) (some (.Call (.Name y q0) (e2 :: es2) [] q1)) pos2) (sRaiseF x fs fa y fs2 fb) := by
  obtain ⟨C, fI, cc, cda, fd, hC, T, hm⟩ := T.ex
  obtain ⟨C2, fI2, cc2, cda2, fd2, hC2, T2, hm2⟩ := T2.ex
  exact PS_imp (ps_raiseF T T2 hfs hfs2 hz hz2 hnd hnd2 hms hr hc tk ha hb hg hm hg2 hm2 hdb hdb2 he hpl he2 hpl2) fun D σ H h => raiseF_rd (Z := zw ca X) hC hfs h
end
end S3

/-! E10: raise C(), C an own exception class without __init__. -/
namespace L2
open PySem PySem.Spec PyProof.Rows
theorem pmk_own0 {X : Cx} {C : Addr} {bmB : List Value} {B newId initId : String} {x : Str} {p pos : Pos} (F : ExcBaseFacts B newId initId bmB) (q : PySem.W.excIn X.K C bmB newId = true) (gC : X.mg x = some (.ref C))
    (kC : PySem.W.keepIn X.K (.ref C) = true) (r : Raises X (.ref C)) (hg : Gl X x) (hdb : (x == ("__debug__" : Str)) = false := by decide) :
    PMk X (.Call (.Name x p) [] [] pos) (fun σ H Q => Q (.ref C) none H) := by
  intro pins s σ H Q I h
  refine wpAny_Call_Name_kw (ld_glob I hg gC ?_ hdb)
  refine PySem.W.callWith_K0 I.kIn kC ?_
  show wpAny _ _ (call (.ref C) []) _ _ _
  obtain ⟨bm, N, nm, qn, bs, hdct, sn, sub, ab, col, dd, k0, k1, k2, k3, k5, mN, hC, hN, hni, T⟩ := exc_obj I.kIn q
  refine wpAny_call_exc_subT F T hC hN hni (fun h' e hm => ?_) (by rw [sizeLine_eq]; simp)
  exact mk_of I hm r h (I.hok.gone hm.new)
end L2
namespace S3
open PySem PySem.Spec L2
structure ClsT0 (ca : Str → Option Addr) (K : PySem.W.Frag) (mg : Str → Option Value) (c : Str) : Prop where
  ex : ∃ C, ca c = some C ∧ PySem.W.excIn K C [.type "ValueError", .type "Exception", .type "BaseException", .type "object"] "ValueError.__new__" = true ∧ PySem.W.keepIn K (.ref C) = true ∧ PySem.W.subIn K (.ref C) (.type "BaseException") = some true ∧ PySem.W.typeIn K (.ref C) = some (.type "type") ∧ mg c = some (.ref C)
def sRaise0 (c : Str) : SV := fun e => .ex ⟨c, []⟩ e
theorem sv_raise0 {ca : Str → Option Addr} {W : WX} {X : Cx} {x : Str} {p pos pos2 : Pos} (T : ClsT0 ca X.K X.mg x) (tk : Takes X W) (hc : X.calm = true := by rfl) (hg : Gl X x := by rfl) (hdb : (x == ("__debug__" : Str)) = false := by decide) :
    Sv ca W X (.Raise (some (.Call (.Name x p) [] [] pos)) none pos2) (sRaise0 x) := by
  obtain ⟨C, hC, h1, h2, h3, h4, hm⟩ := T.ex
  refine PS_imp (ps_raise hc tk (pmk_own0 PySem.F.excBase_ValueError h1 hm h2 (raises_own h3 h4) hg hdb)) fun D σ H h => ?_
  obtain ⟨N, F, e1, S, P⟩ := h
  exact P (.ref C) none F H σ (Same.refl _) S ⟨C, hC, rfl, fun _ => rfl, fun z => absurd rfl z⟩
end S3

/-! F1: match over a tuple: cases of a head word or several and names behind it. -/
namespace S3
open PySem PySem.Spec L2
def hitL : List Str → D → Option Bool
  | [], _ => some false
  | l :: ls, h => match dEq h (.str l) with
    | some true => some true
    | some false => hitL ls h
    | none => none
def mGo : List (List Str × List Nat × SV) → List D → SV
  | [], _, e => .nx e
  | (ls, is, b) :: cs, ds, e => if ds.length = is.length + 1 then (match ds with
      | h :: rest => (match hitL ls h with
        | some true => (match setAll is rest e with
          | some e1 => b e1
          | none => .no)
        | some false => mGo cs ds e
        | none => .no)
      | [] => .no) else mGo cs ds e
def sMatch (f : EV) (cs : List (List Str × List Nat × SV)) : SV := sE f fun r e => match rd r e with
  | some (.tup ds) => mGo cs ds e
  | _ => .no
inductive LitPats : List Pattern → List Str → Prop
  | nil : LitPats [] []
  | cons {l : Str} {j : Nat} {p q : Pos} {ps : List Pattern} {ls : List Str} : LitPats ps ls → LitPats (.MatchValue (.Constant (.str l) j p) q :: ps) (l :: ls)
inductive HeadPat : Pattern → List Str → Prop
  | one {l : Str} {j : Nat} {p q : Pos} : HeadPat (.MatchValue (.Constant (.str l) j p) q) [l]
  | or {l : Str} {j : Nat} {p q q2 : Pos} {ps : List Pattern} {ls : List Str} : LitPats ps ls → HeadPat (.MatchOr (.MatchValue (.Constant (.str l) j p) q :: ps) q2) (l :: ls)
inductive CapPats (X : Cx) : List Pattern → List Nat → List Str → Prop
  | nil : CapPats X [] [] []
  | cons {n : Str} {q : Pos} {i : Nat} {ps : List Pattern} {is : List Nat} {ns : List Str} : X.N[i]? = some n → X.env.scope.names.lookup n = some .local → CapPats X ps is ns → CapPats X (.MatchAs none (some n) q :: ps) (i :: is) (n :: ns)
section
variable {ca : Str → Option Addr} {W : WX} {X : Cx}
inductive CasesOk (ca : Str → Option Addr) (W : WX) (X : Cx) : List MatchCase → List (List Str × List Nat × SV) → Prop
  | nil : CasesOk ca W X [] []
  | cons {p0 : Pattern} {ps : List Pattern} {pos : Pos} {body : List Stmt} {rest : List MatchCase} {ls : List Str} {is : List Nat} {ns : List Str} {b : SV} {cs : List (List Str × List Nat × SV)} : HeadPat p0 ls → CapPats X ps is ns → Bv ca W X body b → CasesOk ca W X rest cs →
      CasesOk ca W X (⟨.MatchSequence (p0 :: ps) pos, none, body⟩ :: rest) ((ls, is, b) :: cs)
theorem head_lit (hu : X.A.units + 65 < cLine) {pins : List (Addr × Obj)} {σ : L2.St} {F H : Hp} {s : Shared} {x : V} {u : Value} {d : D} {l : Str} {j : Nat} {p q : Pos} {b : Bool} {Q : Option (List (Str × Value)) → Shared → Prop} (I : Inv X pins σ H s) (r : RelV x u) (le : Same F H) (rx : Rp (zw ca X) F x d) (hb : dEq d (.str l) = some b)
    (hq : ∀ s' F' H', Gr F H F' H' → Inv X pins σ H' s' → Q (if b then some [] else none) s') (hl : sOk l = true) :
    wpAny (model X.prog X.w) X.A (matchPattern (.MatchValue (.Constant (.str l) j p) q) X.env u) Q X.xe s := by
  refine wpAny_matchPattern_Value (Calls.Constant_str ?_)
  have h := s_eq (Z := zw ca X) F H x (.str l) d (.str l) (.fz (.bl b)) (fun v H' => v = .bl b ∧ ∃ F', Gr F H F' H') le (.inl rx) (.inl (.str l hl)) (by unfold opEq; rw [hb]; rfl) (fun v F' H' g n => by cases n; exact ⟨rfl, F', g⟩)
  refine wpAny_mono (op_eqD (by omega) pins _ σ H x (.str l) u _ _ (I.tok _) r ⟨_, rfl⟩ h) (fun c s2 hc => ?_) fun _ _ z => z
  obtain ⟨v, H', I', rv, rfl, F', g⟩ := hc
  cases rv
  refine wpAny_truthy_bool ?_
  cases b
  · exact hq _ _ _ g I'
  · exact hq _ _ _ g I'
theorem first_lits (hu : X.A.units + 65 < cLine) {pins : List (Addr × Obj)} {σ : L2.St} {x : V} {u : Value} {d : D} {ps : List Pattern} {ls : List Str} (hp : LitPats ps ls) : ∀ {F H : Hp} {s : Shared} {b : Bool} {Q : Option (List (Str × Value)) → Shared → Prop}, Inv X pins σ H s → RelV x u → Same F H → Rp (zw ca X) F x d → hitL ls d = some b → (ls.all sOk = true) →
    (∀ s' F' H', Gr F H F' H' → Inv X pins σ H' s' → Q (if b then some [] else none) s') → wpAny (model X.prog X.w) X.A (matchFirst ps X.env u) Q X.xe s := by
  induction hp with
  | nil =>
    intro F H s b Q I r le rx hb _ hq
    cases hb
    exact wpAny_matchFirst_nil (hq _ _ _ (Gr.refl le) I)
  | @cons l j p q ps ls hp ih =>
    intro F H s b Q I r le rx hb hk hq
    rw [List.all_cons, Bool.and_eq_true] at hk
    unfold hitL at hb
    cases q1 : dEq d (.str l) with
    | none => rw [q1] at hb; cases hb
    | some b1 =>
      rw [q1] at hb
      refine wpAny_matchFirst_cons (head_lit hu I r le rx q1 (fun s1 F1 H1 g1 I1 => ?_) hk.1)
      cases b1 with
      | true => cases hb; exact hq _ _ _ g1 I1
      | false => exact ih I1 r g1.le (rx.mono g1.f) hb hk.2 fun s2 F2 H2 g2 I2 => hq _ _ _ (g1.trans g2) I2
theorem head_ok (hu : X.A.units + 65 < cLine) {pins : List (Addr × Obj)} {σ : L2.St} {x : V} {u : Value} {d : D} {p0 : Pattern} {ls : List Str} (hp : HeadPat p0 ls) {F H : Hp} {s : Shared} {b : Bool} {Q : Option (List (Str × Value)) → Shared → Prop} (I : Inv X pins σ H s) (r : RelV x u) (le : Same F H) (rx : Rp (zw ca X) F x d) (hb : hitL ls d = some b) (hk : ls.all sOk = true)
    (hq : ∀ s' F' H', Gr F H F' H' → Inv X pins σ H' s' → Q (if b then some [] else none) s') : wpAny (model X.prog X.w) X.A (matchPattern p0 X.env u) Q X.xe s := by
  cases hp with
  | one =>
    unfold hitL at hb
    rw [List.all_cons, Bool.and_eq_true] at hk
    rename_i l j p q
    cases q1 : dEq d (.str l) with
    | none => rw [q1] at hb; cases hb
    | some b1 =>
      rw [q1] at hb
      refine head_lit hu I r le rx q1 (fun s1 F1 H1 g1 I1 => ?_) hk.1
      cases b1 with
      | true => cases hb; exact hq _ _ _ g1 I1
      | false => cases hb; exact hq _ _ _ g1 I1
  | or hl =>
    refine wpAny_matchPattern_Or (first_lits hu (LitPats.cons hl) I r le rx hb hk fun s1 F1 H1 g1 I1 => ?_)
    cases b with
    | true => exact hq _ _ _ g1 I1
    | false => exact hq _ _ _ g1 I1
theorem cap_each {ps : List Pattern} {is : List Nat} {ns : List Str} (hp : CapPats X ps is ns) {M : Model} {A : Around} {E : Value → Shared → Prop} : ∀ {vs : List Value} {s : Shared} {Q : Option (List (Str × Value)) → Shared → Prop}, vs.length = ps.length → Q (some (ns.zip vs)) s → wpAny M A (matchEach ps X.env vs) Q E s := by
  induction hp with
  | nil =>
    intro vs s Q hl hq
    cases vs with
    | nil => exact wpAny_matchEach_nil hq
    | cons _ _ => cases hl
  | cons hi hn hp ih =>
    intro vs s Q hl hq
    cases vs with
    | nil => cases hl
    | cons v vs =>
      refine wpAny_matchEach_cons (wpAny_matchPattern_Capture (ih (Nat.succ.inj hl) ?_))
      exact hq
theorem cap_store (hN : X.N.Nodup) {pins : List (Addr × Obj)} {N : En} {F H : Hp} {ps : List Pattern} {is : List Nat} {ns : List Str} (hp : CapPats X ps is ns) : ∀ {xs : List V} {vs : List Value} {ds : List D} {σ : L2.St} {e e1 : Env} {s : Shared} {Q : Unit → Shared → Prop}, Vals xs vs → RpA (zw ca X) F xs ds → setAll is ds e = some e1 → Inv X pins σ H s → SOk (zw ca X) N F H σ e →
    (∀ σ' s', Inv X pins σ' H s' → SOk (zw ca X) N F H σ' e1 → Q () s') → wpAny (model X.prog X.w) X.A (assignInOrder ((ns.zip vs).map fun (n, _) => bindName X.env n) ((ns.zip vs).map (·.2))) Q X.xe s := by
  induction hp with
  | nil =>
    intro xs vs ds σ e e1 s Q r ra hs I S hq
    cases ds with
    | nil => cases hs; exact wpAny_assignInOrder_none (hq _ _ I S)
    | cons _ _ => cases hs
  | @cons n q i ps is ns hi hn hp ih =>
    intro xs vs ds σ e e1 s Q r ra hs I S hq
    cases ds with
    | nil => cases hs
    | cons d ds =>
      cases ra with
      | cons rx ra =>
        cases r with
        | cons rv r =>
          refine wpAny_assignInOrder_more (wpAny_bindName (store_ok I hN hi (.inl hn) rv (fun s' I' => ?_) (.inr hn)))
          exact ih r ra hs I' (S.set rx) hq
theorem CapPats.len {ps : List Pattern} {is : List Nat} {ns : List Str} (hp : CapPats X ps is ns) : ps.length = is.length ∧ (ps.findIdx? (·.isStar) = none) ∧ (ps.all fun p => !p.isStar) = true := by
  induction hp with
  | nil => exact ⟨rfl, rfl, rfl⟩
  | cons _ _ _ ih => exact ⟨congrArg Nat.succ ih.1, by rw [List.findIdx?_cons, ih.2.1]; rfl, by rw [List.all_cons, ih.2.2]; rfl⟩
theorem HeadPat.nostar {p : Pattern} {ls : List Str} (h : HeadPat p ls) : p.isStar = false ∧ p.isWildcard = false := by cases h <;> exact ⟨rfl, rfl⟩
theorem sv_match {subject : Expr} {f : EV} {cases : List MatchCase} {pos : Pos} {cs : List (List Str × List Nat × SV)} (hu : X.A.units + 65 < cLine) (hN : X.N.Nodup) (hcs : CasesOk ca W X cases cs) (hf : Ev ca W X subject f) (hk : (cs.all fun c => c.1.all sOk) = true := by (simp only [List.all_cons, List.all_nil]; decide +kernel)) (hc : X.calm = true := by rfl) :
    Sv ca W X (.Match subject cases pos) (sMatch f cs) := by
  refine ⟨fun pins s σ H D I h => ?_⟩
  obtain ⟨N, F, e, S, P⟩ := h
  have h1 : tEv (zw ca X) W f σ H (fun x H1 => ∃ F e ds, SOk (zw ca X) N F H1 σ e ∧ RdV (zw ca X) F H1 x (.tup ds) ∧ PostS (zw ca X) N F W D (mGo cs ds e)) := bindS S P fun x F1 H1 e1 r f1 S1 R1 P1 => by
    cases q : S3.rd r e1 with
    | none => rw [q] at P1; exact P1.elim
    | some d =>
      rw [q] at P1
      cases d <;> try (exact P1.elim)
      exact ⟨F1, e1, _, S1, RvOk.rd S1 R1 q, P1⟩
  refine wpAny_Match (thn (hf.run pins s σ H _ I h1) fun u s1 hh => ?_)
  obtain ⟨x, H1, I1, rx, F1, e1, ds, S1, hx, P1⟩ := hh
  obtain ⟨a, xs, rfl, ha, ra⟩ := hx.tup S1.le
  obtain rfl : u = Value.ref a := rx
  clear h1
  have go : ∀ {cases : List MatchCase} {cs : List (List Str × List Nat × SV)}, CasesOk ca W X cases cs → (cs.all fun c => c.1.all sOk) = true → ∀ {s : Shared} {first : Bool} {F H : Hp} {e : Env}, Inv X pins σ H s → SOk (zw ca X) N F H σ e → H a = some (.tup xs) → RpA (zw ca X) F xs ds → PostS (zw ca X) N F W D (mGo cs ds e) →
      wpAny (model X.prog X.w) X.A (matchCases cases X.env (.ref a) first) (SP X pins D) X.xe s := by
    intro cases cs hcs
    induction hcs with
    | nil =>
      intro _ s first F H e I S _ _ P
      exact wpAny_matchCases_nil ⟨σ, H, I, P F H σ (Same.refl _) S⟩
    | @cons p0 ps pos body rest ls is ns b cs hh hp hb hr ih =>
      intro hk s first F H e I S ha ra P
      rw [List.all_cons, Bool.and_eq_true] at hk
      obtain ⟨its, rv, ht, hz⟩ := I.tuple (SqT.of ha)
      have lens : its.length = xs.length := rv.length.symm
      have lenx : xs.length = ds.length := ra.length
      have hsz : xs.length ≤ 16777216 := by rw [sizeLine_eq] at hz; exact hz
      obtain ⟨hpl, hpi, hpw⟩ := hp.len
      have P' := P
      unfold mGo at P'
      refine wpAny_matchCases_cons (wpAny_matchPattern_Sequence (wpAny_collectionFlag (PyProof.Rows.IsTup.typeIs ht) flag_seq_tuple ?_) (by rw [List.findIdx?_cons, hh.nostar.1, hpi]; rfl) (by rw [List.all_cons, hh.nostar.1, hh.nostar.2]; rfl))
      rw [if_pos rfl]
      refine PyProof.Rows.pyLen_tuple ht (by rw [List.size_toArray, lens]; omega) ?_
      by_cases hl : ds.length = is.length + 1
      · rw [if_pos hl] at P'
        have e1 : (((its.toArray.size : Nat) : Int) != (((p0 :: ps).length : Nat) : Int)) = false := by
          rw [List.size_toArray, List.length_cons, hpl, lens, lenx, hl]; simp
        rw [e1, if_neg Bool.false_ne_true]
        have e2 : (p0 :: ps).length = its.toArray.size := by rw [List.size_toArray, List.length_cons, hpl, lens, lenx, hl]
        rw [e2]
        have I2 := (I.tok (s.toks + 1 + 1))
        refine PyProof.Rows.unpackItems_tuple (I.ok.hd hc) ht fun h' hx' => ?_
        have I3 : Inv X pins σ H { s with heap := h', toks := s.toks + 1 + 1 } := I.kept (t' := s.toks + 1 + 1) fun b o q => hx' b o (Nat.ne_of_lt (Heap.lt_size q)) q
        rw [List.toList_toArray]
        cases ds with
        | nil => cases hl
        | cons d ds =>
          cases ra with
          | cons rx ra =>
            cases rv with
            | cons r1 rv =>
              rename_i v1 vs1 u1 us1
              dsimp only at P'
              cases q : hitL ls d with
              | none => rw [q] at P'; exact P'.elim
              | some hb1 =>
                rw [q] at P'
                refine wpAny_matchEach_cons (head_ok hu hh I3 r1 S.le rx q hk.1 fun s4 F4 H4 g4 I4 => ?_) hh.nostar.1
                cases hb1 with
                | false =>
                  exact ih hk.2 I4 (S.gr g4) (g4.h _ _ ha) (RpA.mono g4.f (.cons rx ra)) (PostS.shift P' g4.f)
                | true =>
                  dsimp only at P'
                  refine cap_each hp (by have := rv.length; have := ra.length; rw [hpl]; rw [List.length_cons] at hl; omega) ?_
                  cases q2 : setAll is ds e with
                  | none => rw [q2] at P'; exact P'.elim
                  | some e5 =>
                    rw [q2] at P'
                    refine cap_store hN hp rv (RpA.mono g4.f ra) q2 I4 (S.gr g4) fun σ5 s5 I5 S5 => ?_
                    exact hb.run pins s5 σ5 H4 D I5 ⟨N, F4, e5, S5, PostS.shift P' g4.f⟩
      · rw [if_neg hl] at P'
        have e1 : (((its.toArray.size : Nat) : Int) != (((p0 :: ps).length : Nat) : Int)) = true := by
          rw [List.size_toArray, List.length_cons, hpl, lens, lenx]; simp; omega
        rw [e1, if_pos rfl]
        exact ih hk.2 (I.tok _) S ha ra P'
  exact go hcs hk I1 S1 ha ra P1
end
end S3

/-! F2: sep.join(a), a.split(sep), sep a written text. -/
namespace S3
open PySem PySem.Spec L2
def txtsOf : List D → Option (List Str)
  | [] => some []
  | .str x :: r => (txtsOf r).map (x :: ·)
  | _ :: _ => none
def joinOk (a : Str) (ys : List Str) : Option RV := if (ys.map (·.length)).sum + ys.length * a.length ≤ 16777216 then some (.fz (.str (Str.join a ys))) else none
def opJoin (a : Str) : D → Option RV
  | .lst xs => (txtsOf xs).bind (joinOk a)
  | .tup xs => (txtsOf xs).bind (joinOk a)
  | _ => none
/-- the parts of a split, as a list -/
def opSplit (b : Str) : D → Option RV
  | .str a => if a.length + 2 ≤ 16777216 ∧ (b.length == 0) = false then some (.nw (.lst ((Txt.split a b).map .str))) else none
  | _ => none
section
variable {Z : Wd} {F H : Hp}
theorem txtsOf_rd : ∀ {vs : List V} {ds : List D} {ys : List Str}, RpA Z F vs ds → txtsOf ds = some ys → vs = ys.map V.str ∧ ys.all sOk = true
  | _, _, _, .nil, h => by cases h; exact ⟨rfl, rfl⟩
  | _, d :: ds, ys, .cons r ra, h => by
    cases d <;> simp only [txtsOf] at h <;> try (cases h; done)
    rw [Option.map_eq_some_iff] at h
    obtain ⟨zs, h1, rfl⟩ := h
    obtain ⟨e1, e2⟩ := txtsOf_rd ra h1
    cases r with
    | str x k => exact ⟨by rw [e1]; rfl, by rw [List.all_cons, k, e2]; rfl⟩
theorem app_ok {x y : Str} (h1 : x.cps.all (· < 0x110000) = true) (h2 : y.cps.all (· < 0x110000) = true) : (x ++ y).cps.all (· < 0x110000) = true := by
  show (x.cps ++ y.cps).all _ = true
  rw [Array.all_append, h1, h2]; rfl
theorem join_cps {a : Str} (ha : a.cps.all (· < 0x110000) = true) : ∀ {ys : List Str}, (ys.all fun y => y.cps.all (· < 0x110000)) = true → (Str.join a ys).cps.all (· < 0x110000) = true
  | [], _ => by show (Str.empty).cps.all _ = true; exact Array.all_empty
  | [y], h => by rw [List.all_cons, Bool.and_eq_true] at h; exact h.1
  | y :: z :: r, h => by
    rw [List.all_cons, Bool.and_eq_true] at h
    show (y ++ a ++ Str.join a (z :: r)).cps.all _ = true
    exact app_ok (app_ok h.1 ha) (join_cps ha h.2)
theorem join_len (a : Str) : ∀ ys : List Str, (Str.join a ys).length ≤ (ys.map (·.length)).sum + ys.length * a.length
  | [] => by show (0 : Nat) ≤ _; omega
  | [y] => by show y.length ≤ y.length + 0 + 1 * a.length; omega
  | y :: z :: r => by
    show (y ++ a ++ Str.join a (z :: r)).length ≤ _
    rw [str_len, str_len, List.map_cons, List.sum_cons]
    have := join_len a (z :: r)
    have e : (y :: z :: r).length * a.length = (z :: r).length * a.length + a.length := by rw [List.length_cons, Nat.succ_mul]
    omega
theorem join_sOk {a : Str} {ys : List Str} (ha : sOk a = true) (h : ys.all sOk = true) (hz : (ys.map (·.length)).sum + ys.length * a.length ≤ 16777216) : sOk (Str.join a ys) = true := by
  refine sOk_of (Nat.le_trans (join_len a ys) hz) (join_cps (sOk_cps ha) ?_)
  rw [List.all_eq_true] at h ⊢
  exact fun y hy => sOk_cps (h y hy)
def rJoin (K : PySem.W.Frag) : V → List V → Hp → VK → Prop := fun x xs H Q => ∃ a p, ∃ ys : List Str, x = .str a ∧ xs = [.ref p] ∧ (SqL K H p (ys.map V.str) ∨ SqT K H p (ys.map V.str)) ∧
      (ys.map (·.length)).sum + ys.length * a.length ≤ 16777216 ∧ Q (.str (Txt.join a ys)) H
theorem s_join {a : Str} (ha : sOk a = true) : Sound1 Z (fun y => rJoin Z.K (.str a) [y]) (opJoin a) := by
  intro F H x dx rr Q l hx ho q
  have fin : ∀ {vs : List V} {ds : List D}, RpA Z F vs ds → (txtsOf ds).bind (joinOk a) = some rr → ∃ ys, vs = ys.map V.str ∧ (ys.map (·.length)).sum + ys.length * a.length ≤ 16777216 ∧ Q (.str (Txt.join a ys)) H := fun {vs ds} ra h => by
    rw [Option.bind_eq_some_iff] at h
    obtain ⟨ys, h1, h2⟩ := h
    obtain ⟨e1, e2⟩ := txtsOf_rd ra h1
    unfold joinOk at h2
    split at h2
    · rename_i hz
      cases h2
      exact ⟨ys, e1, hz, by rw [show Txt.join a ys = Str.join a ys from TL.join_eq a ys]; exact fin_fz l q (.str _ (join_sOk ha e2 hz))⟩
    · cases h2
  cases dx <;> simp only [opJoin] at ho <;> try (cases ho; done)
  · obtain ⟨p, vs, rfl, hp, ra⟩ := hx.lst l
    obtain ⟨ys, e, hz, q'⟩ := fin ra ho
    exact ⟨a, p, ys, rfl, rfl, .inl (by rw [← e]; exact SqL.of hp), hz, q'⟩
  · obtain ⟨p, vs, rfl, hp, ra⟩ := hx.tup l
    obtain ⟨ys, e, hz, q'⟩ := fin ra ho
    exact ⟨a, p, ys, rfl, rfl, .inr (by rw [← e]; exact SqT.of hp), hz, q'⟩
end
section
variable {ca : Str → Option Addr} {W : WX} {X : Cx} {e : Expr} {fe : EV} {a : Str} {j : Nat} {p apos pos : Pos}
theorem ev_join (he : Ev ca W X e fe) (hz : sOk a = true := by decide +kernel) (hs : starEach [e] X.env = [(false, eval e X.env)] := by rfl)
    (hbase : attributeBase (.Constant (.str a) j p) "join" X.env (eval (.Constant (.str a) j p) X.env) = eval (.Constant (.str a) j p) X.env := by rfl) (hline : (apos.endLine == pos.line) = true := by rfl) :
    Ev ca W X (.Call (.Attribute (.Constant (.str a) j p) "join" apos) [e] [] pos) (eOp1 (opJoin a) fe) :=
  PE_imp (pe_join pe_str he hs hbase hline) fun _ _ _ h => ⟨⟨a, rfl⟩, one (s_join hz) h⟩
end
end S3

/-! F3: the facts of the classes bundled; the law's end over classes. -/
namespace S3
open PySem PySem.Spec L2
def subs (l : List Str) (m : Str) : Bool := decide (m ∈ l)
/-- classes by their names -/
def caL (l : List (Str × Addr)) (s : Str) : Option Addr := l.lookup s
theorem caL_all {P : Str → Addr → Prop} : ∀ {l : List (Str × Addr)}, (∀ p ∈ l, P p.1 p.2) → ∀ m C, caL l m = some C → P m C
  | [], _, m, C, h => by cases h
  | (n, D) :: l, a, m, C, h => by
    unfold caL at h
    rw [List.lookup_cons] at h
    split at h
    · rename_i e
      cases h
      rw [beq_iff_eq.mp e]
      exact a (n, D) List.mem_cons_self
    · exact caL_all (fun p hp => a p (List.mem_cons_of_mem _ hp)) m C h
structure XsOk (ca : Str → Option Addr) (K : PySem.W.Frag) (fs : List Str) : Prop where
  k0 : ca "" = none ∧ ca " " = none ∧ ca "  " = none
  x : ∀ m C, ca m = some C → xnm m = true → XcK K C fs
structure IsOwn (ca : Str → Option Addr) (K : PySem.W.Frag) (mg : Str → Option Value) (n : Str) (sub : Str → Bool) : Prop where
  ex : ∃ C2, mg n = some (.ref C2) ∧ ∀ m C, ca m = some C → xnm m = true → PySem.W.kitOne K (.ref C) (.ref C2) = some (sub m)
structure IsBlt (ca : Str → Option Addr) (K : PySem.W.Frag) (mg : Str → Option Value) (n : Str) (T : String) (sub : Str → Bool) : Prop where
  no : mg n = none
  ex : ∀ m C, ca m = some C → xnm m = true → PySem.W.kitOne K (.ref C) (.type T) = some (sub m)
structure ExcOf (ca : Str → Option Addr) (K : PySem.W.Frag) (mg : Str → Option Value) (n : Str) (sub : Str → Bool) : Prop where
  ex : ∃ C2, mg n = some (.ref C2) ∧ ∀ m C, ca m = some C → xnm m = true → PySem.W.exmOne K (.ref C) (.ref C2) = some (sub m)
section
variable {ca : Str → Option Addr} {W : WX} {X : Cx} {a : Addr} {oe : Obj} {cls : Value} {d : Option Addr} {pn : List (Addr × Obj)} {e : Expr} {fe : EV} {p p2 pos : Pos} {fs : List Str}
theorem ev_xisO {sub : Str → Bool} {n : Str} (hz : Zc cls d oe) (hf : ∃ vs, oe.data = .fields vs) (S : XsOk ca X.K fs) (T : IsOwn ca X.K X.mg n sub) (hm : X.mg "isinstance" = none) (he : Ev (caX ca a cls d) W (X.suite a ((a, oe) :: pn)) e fe) (hg : Gl (X.suite a ((a, oe) :: pn)) "isinstance" := by rfl) (hgT : Gl (X.suite a ((a, oe) :: pn)) n := by rfl) (hdb : (n == ("__debug__" : Str)) = false := by decide)
    (hs : starEach [e, .Name n p2] X.env = (false, eval e X.env) :: starEach [.Name n p2] X.env := by rfl) :
    Ev (caX ca a cls d) W (X.suite a ((a, oe) :: pn)) (.Call (.Name "isinstance" p) [e, .Name n p2] [] pos) (eOp1 (opXis sub) fe) := by
  obtain ⟨C2, h1, h2⟩ := T.ex
  exact ev_xis (fs := fs) (cv := .ref C2) (vv := .ref C2) hz hf (fun m C h n => ⟨S.x m C h n, h2 m C h n⟩) (pe_glob hgT h1 rfl hdb) (fun u h => h) hm he hg hs
theorem ev_xisB {sub : Str → Bool} {n : Str} {T : String} (hz : Zc cls d oe) (hf : ∃ vs, oe.data = .fields vs) (S : XsOk ca X.K fs) (B : IsBlt ca X.K X.mg n T sub) (hm : X.mg "isinstance" = none) (he : Ev (caX ca a cls d) W (X.suite a ((a, oe) :: pn)) e fe) (hg : Gl (X.suite a ((a, oe) :: pn)) "isinstance" := by rfl) (hgT : Gl (X.suite a ((a, oe) :: pn)) n := by rfl)
    (hvT : bootBuiltins n = some (.type T) := by decide +kernel) (hn : n ≠ "__name__" := by decide) (hdb : (n == ("__debug__" : Str)) = false := by decide)
    (hs : starEach [e, .Name n p2] X.env = (false, eval e X.env) :: starEach [.Name n p2] X.env := by rfl) :
    Ev (caX ca a cls d) W (X.suite a ((a, oe) :: pn)) (.Call (.Name "isinstance" p) [e, .Name n p2] [] pos) (eOp1 (opXis sub) fe) :=
  ev_xis (fs := fs) (cv := .type T) (vv := .ty T) hz hf (fun m C h n => ⟨S.x m C h n, B.ex m C h n⟩) (pe_bltn hgT B.no hvT rfl hn hdb) (fun u h => h) hm he hg hs
theorem ev_xfF {f : Str} (hz : Zc cls d oe) (hf : ∃ vs, oe.data = .fields vs) (S : XsOk ca X.K fs) (he : Ev (caX ca a cls d) W (X.suite a ((a, oe) :: pn)) e fe) (hm : f ∈ fs := by decide) (hb : attributeBase e f X.env (eval e X.env) = eval e X.env := by rfl) :
    Ev (caX ca a cls d) W (X.suite a ((a, oe) :: pn)) (.Attribute e f pos) (eOp1 (opXf f) fe) :=
  ev_xf hz hf (fun m C h n => let T := S.x m C h n; ⟨T.cl, T.ga, T.gt, T.sb, T.ha, T.hn, T.ht, T.hm, T.hd, fun g hg => by rw [List.mem_singleton.mp hg]; exact T.no f hm⟩) he hb
end
section
variable {ca : Str → Option Addr} {W : WX} {X : Cx} {x n : Str} {i : Nat} {body suite : List Stmt} {b₀ : Stmt} {np pos pos' : Pos} {b h : SV} {fs : List Str}
theorem sv_tryN {sub : Str → Bool} (i : Nat) (hs : X.stack = X.env :: X.outer) (hf : X.env.frame = some X.env.locals) (hN : X.N.Nodup) (S : XsOk ca X.K fs) (T : ExcOf ca X.K X.mg x sub) (tk : Takes X W)
    (hb : ∀ (W : WX) (pn : List (Addr × Obj)) (xe : Value → Shared → Prop), Takes (X.tr pn xe) W → PassesOwn (model X.prog X.w) X.A X.env xe → Bv ca W (X.tr pn xe) body b)
    (hsu : ∀ (a : Addr) (oe : Obj) (cls : Value) (d : Option Addr) (pn : List (Addr × Obj)), Zc cls d oe → (∃ vs, oe.data = .fields vs) → Bv (caX ca a cls d) (fun _ _ _ _ => False) (X.suite a ((a, oe) :: pn)) (b₀ :: suite) h)
    (hi : X.N[i]? = some n := by rfl) (hln : X.env.kindOf n = some .local := by rfl) (hg : Gl X x := by rfl) (hdb : (x == ("__debug__" : Str)) = false := by decide) :
    Sv ca W X (.Try body [.ExceptHandler (some (.Name x np)) (some n) (b₀ :: suite) pos'] [] [] pos) (sTry sub i b h) := by
  obtain ⟨C2, h1, h2⟩ := T.ex
  exact sv_try i hs hf hN S.k0 h2 ⟨hg, hdb, .inl h1⟩ tk hb hsu hi hln
end
/-- what a law is asked: any script -/
def spL (K : PySem.W.Frag) : Sp := fun vs H Q _ => ∃ a ns, vs = [.ref a] ∧ (ns : List Int).length ≤ 63 ∧ SqL K H a (ns.map V.int) ∧ ∀ H', Q (.bl true) H'
theorem spL_ok {P : Program} {w : World} {K : PySem.W.Frag} {mg : Str → Option Value} {base : Heap} {CX : CXT} {k : Nat} {f : Addr} {fd : FuncData} {ps : List Str} {ca : Str → Option Addr} {phi : List D → RC} (F : FnOk P w K mg base CX k f fd ps (spOf ⟨P, w, K, ca⟩ [.v] phi))
    (sol : ∀ ns : List Int, ns.length ≤ 63 → phi [.scr (ns.map .int)] = .ok false (.bl true) []) : FnOk P w K mg base CX k f fd ps (spL K) := by
  have up : ∀ vs H Q E, spL K vs H Q E → spOf ⟨P, w, K, ca⟩ [.v] phi vs H Q E := fun vs H Q E ⟨a, ns, e, hl, hS, hq⟩ => by
    subst e
    obtain ⟨F0, ds, x1, x2, x3, x4⟩ := law_end (Z := ⟨P, w, K, ca⟩) hS (sol ns hl)
    refine ⟨F0, ds, x1, x2, x3, ?_⟩
    revert x4
    cases phi ds with
    | no => exact id
    | ex x o => exact fun z c d F' H' g o r => (z c d F' H' g o r).elim
    | ok n dd o => exact fun z v F' H' g o r => by rw [z v F' H' g o r]; exact hq H'
  exact ⟨fun vs H Q E h => F.len vs H Q E (up _ _ _ _ h), fun A outer s H args us vs Q E r I b v h => F.run A outer s H args us vs Q E r I b v (up _ _ _ _ h)⟩
end S3

/-! I1: own instances: fields, making, methods, properties. -/
namespace L2
open PySem PySem.Spec PyProof.Rows
section
variable {X : Cx} {CX : CXT} {k : Nat} {f C : Addr} {fd : FuncData} {ps : List Str} {sp : Sp} {E : St → XK} {x m : Str} {p pos apos : Pos} {e o : Expr} {es : List Expr} {ta : TE} {t : TA}
def tMakeS (C : Addr) (sp : Sp) (E : St → XK) (t : TA) : TE := fun σ H Q => t σ H fun vs H1 => ∀ x dx, H1 x = none → H1 dx = none → dx ≠ x →
  sp (.ref x :: vs) (upd (upd H1 dx (.own x)) x (.ins C dx [])) (fun v H2 => v = .non ∧ Q (.ref x) H2) (E σ)
/-- a new instance: what is raised is wished for at the caller's slots -/
theorem run_makeS {pins : List (Addr × Obj)} {σ : St} {H : Hp} {s : Shared} {Q : VK} {us : List Value} {vs : List V} (M : Mk X.K C f) (F : FnOk X.prog X.w X.K X.mg X.base CX k f fd ps sp) (hr : Room (k + 1) X.A) (hb : Binds X.K fd ps [])
    (hx : PassesAt CX X σ (E σ)) (I : Inv X pins σ H s) (r : Vals vs us)
    (h : ∀ x dx, H x = none → H dx = none → dx ≠ x → sp (.ref x :: vs) (upd (upd H dx (.own x)) x (.ins C dx [])) (fun v H2 => v = .non ∧ Q (.ref x) H2) (E σ)) :
    wpAny (model X.prog X.w) X.A (call (.ref C) us) (EP X pins σ Q) X.xe s := by
  have hq := h (s.heap.objs.size + 1) s.heap.objs.size (I.hok.fresh (Nat.le_succ _)) (I.hok.fresh (Nat.le_refl _)) (Nat.ne_of_lt (Nat.lt_succ_self _))
  have I2 := Inv.made (C := C) I
  have rr : Vals (V.ref (s.heap.objs.size + 1) :: vs) (Value.ref (s.heap.objs.size + 1) :: us) := .cons rfl r
  have hl : (Value.ref (s.heap.objs.size + 1) :: us ++ []).length = ps.length := by
    have e := rr.length
    rw [F.len _ _ _ _ hq] at e
    rw [List.append_nil]
    exact e.symm
  have bb := hb _ (Value.ref (s.heap.objs.size + 1) :: us) I2.kIn hl
  rw [List.append_nil] at bb
  refine wpAny_call (make_map (f := f) I.kIn M.makes M.init (beq_iff_eq.mp M.fn) (codeAny_mono (F.run _ X.stack _ _ _ _ _ _ (E σ) (hr.make C us []) (I2.env0.make C us []) bb rr hq) fun r s' hq' => ?_))
  cases r with
  | error e => exact hx pins _ _ e s' I2 hq'
  | ok fl =>
    cases fl with
    | ret u =>
      obtain ⟨v, H', I3, rv, ev, q3⟩ := I2.after hq'
      subst ev
      exact ⟨rv, V.ref (s.heap.objs.size + 1), H', I3, rfl, q3⟩
    | next => exact False.elim hq'
    | brk => exact False.elim hq'
    | cont => exact False.elim hq'
theorem pe_makeS (M : Mk X.K C f) (F : FnOk X.prog X.w X.K X.mg X.base CX k f fd ps sp) (hr : Room (k + 1) X.A) (hg : Gl X x) (hm : X.mg x = some (.ref C)) (hb : Binds X.K fd ps []) (hx : ∀ σ, PassesAt CX X σ (E σ))
    (ha : PA X (e :: es) t) (hdb : (x == ("__debug__" : Str)) = false := by decide) (he : starEach (e :: es) X.env = (false, eval e X.env) :: starEach es X.env := by rfl) (hpl : (backTo pos (starEach es X.env)).any (·.1) = false := by rfl) :
    PE X (.Call (.Name x p) (e :: es) [] pos) (tMakeS C sp E t) := by
  refine ⟨fun pins s σ H Q I h => ?_⟩
  refine wpAny_Call_Name_kw (ld_glob I hg hm ?_ hdb)
  exact PySem.W.callWith_K (h₀ := X.base) I.ok.mod.kin M.kp (thn (ha.run pos pins s σ H _ I h) fun us s1 ⟨vs, H1, I1, r, q⟩ => ⟨I1.kIn, run_makeS M F hr hb (hx σ) I1 r q⟩) he hpl
theorem pe_makeS0 (M : Mk X.K C f) (F : FnOk X.prog X.w X.K X.mg X.base CX k f fd ps sp) (hr : Room (k + 1) X.A) (hg : Gl X x) (hm : X.mg x = some (.ref C)) (hb : Binds X.K fd ps []) (hx : ∀ σ, PassesAt CX X σ (E σ))
    (hdb : (x == ("__debug__" : Str)) = false := by decide) : PE X (.Call (.Name x p) [] [] pos) (tMakeS C sp E tNil) := by
  refine ⟨fun pins s σ H Q I h => ?_⟩
  refine wpAny_Call_Name_kw (ld_glob I hg hm ?_ hdb)
  exact PySem.W.callWith_K0 I.kIn M.kp (run_makeS (us := []) M F hr hb (hx σ) I .nil h)
def tMethQ (C : Addr) (m : Str) (sp : Sp) (E : St → XK) (ta : TE) (t : TA) : TE := fun σ H Q => ta σ H fun x H1 => ∃ a dx fs, x = .ref a ∧ H1 a = some (.ins C dx fs) ∧ fs.lookup m = none ∧
  t σ H1 fun vs H2 => sp (x :: vs) H2 Q (E σ)
theorem run_fnS1 {pins : List (Addr × Obj)} {σ : St} {H : Hp} {s : Shared} {Q : VK} {us : List Value} {vs : List V} (F : FnOk X.prog X.w X.K X.mg X.base CX k f fd ps sp) (hr : Room k X.A) (hb : Binds X.K fd ps []) (hx : PassesAt CX X σ (E σ))
    (I : Inv X pins σ H s) (r : Vals vs us) (h : sp vs H Q (E σ)) : wpAny (model X.prog X.w) X.A (call (.ref f) us) (EP X pins σ Q) X.xe s :=
  run_fnSD (ds := []) (dvs := []) F hr hb .nil hx I r (by rw [List.append_nil]; exact h)
/-- o.m(e, ..) -/
theorem pe_methQ {pl : Sem Bool} (he : PE X o ta) (c : Cls X.K C) (hm : Meth X.K C m f) (F : FnOk X.prog X.w X.K X.mg X.base CX k f fd ps sp) (hr : Room k X.A) (hb : Binds X.K fd ps []) (hx : ∀ σ, PassesAt CX X σ (E σ)) (ha : PA X (e :: es) t)
    (hst : starEach (e :: es) X.env = (false, eval e X.env) :: starEach es X.env := by rfl) (hpl : (backTo pos (starEach es X.env)).any (·.1) = false := by rfl)
    (ht : eval (.Call (.Attribute o m apos) (e :: es) [] pos) X.env = (do
      let ov ← eval o X.env
      standAt apos.atName
      let (f, first) ← holding [ov] (getMethod ov m pl)
      callWith pos f first (backTo pos (starEach (e :: es) X.env)) (backToKw pos (keywordEach [] X.env))) := by rfl) :
    PE X (.Call (.Attribute o m apos) (e :: es) [] pos) (tMethQ C m sp E ta t) := by
  refine ⟨fun pins s σ H Q I h => ?_⟩
  refine PySem.W.methodCall_KW (pl := pl) (thn (he.run pins s σ H _ I h) fun u s1 ⟨x, H1, I1, rx, a, dx, fs, ex, ea, l, q⟩ => ?_) ht
  subst ex
  obtain rfl : u = Value.ref a := rx
  refine getmeth_ok I1 ea c hm l ?_
  exact PySem.W.callWith_K (first := [.ref a]) (h₀ := X.base) I.ok.mod.kin hm.kp (thn (ha.run pos pins s1 σ H1 _ I1 q) fun us s2 ⟨vs, H2, I2, r, q2⟩ => ⟨I2.kIn, run_fnS1 (us := .ref a :: us) (vs := .ref a :: vs) F hr hb (hx σ) I2 (.cons rfl r) q2⟩) hst hpl
theorem pe_methQ0 {pl : Sem Bool} (he : PE X o ta) (c : Cls X.K C) (hm : Meth X.K C m f) (F : FnOk X.prog X.w X.K X.mg X.base CX k f fd ps sp) (hr : Room k X.A) (hb : Binds X.K fd ps []) (hx : ∀ σ, PassesAt CX X σ (E σ))
    (ht : eval (.Call (.Attribute o m apos) [] [] pos) X.env = (do
      let ov ← eval o X.env
      standAt apos.atName
      let (f, first) ← holding [ov] (getMethod ov m pl)
      callWith pos f first (backTo pos (starEach [] X.env)) (backToKw pos (keywordEach [] X.env))) := by rfl) :
    PE X (.Call (.Attribute o m apos) [] [] pos) (tMethQ C m sp E ta tNil) := by
  refine ⟨fun pins s σ H Q I h => ?_⟩
  refine PySem.W.methodCall_KW (pl := pl) (thn (he.run pins s σ H _ I h) fun u s1 ⟨x, H1, I1, rx, a, dx, fs, ex, ea, l, q⟩ => ?_) ht
  subst ex
  obtain rfl : u = Value.ref a := rx
  refine getmeth_ok I1 ea c hm l ?_
  exact PySem.W.callWith_K0 (first := [.ref a]) I1.kIn hm.kp (run_fnS1 (us := [.ref a]) (vs := [.ref a]) F hr hb (hx σ) I1 (.cons rfl .nil) q)
end
end L2
namespace S3
open PySem PySem.Spec L2
/-! ### terms -/
def inL (c : Str) (cs : List Str) : Bool := cs.any fun y => decide (y = c)
/-- o.f, a field of an instance of one of these classes -/
def opFld (cs : List Str) (f : Str) : D → Option RV
  | .obj c fs => if inL c cs then (fs.lookup f).map .fz else none
  | _ => none
def putD (f : Str) (v : D) : List (Str × D) → List (Str × D)
  | [] => [(f, v)]
  | (g, x) :: r => if g = f then (g, v) :: r else (g, x) :: putD f v r
def mFld (cs : List Str) (f : Str) (v : D) : D → Option D
  | .obj c fs => if inL c cs && decide (fs.length < 1000) then some (.obj c (putD f v fs)) else none
  | _ => none
def isObj : D → Bool
  | .obj _ _ => true | _ => false
/-- (slot i).f = g -/
def sFldPut (i : Nat) (cs : List Str) (f : Str) (g : EV) : SV := sE g fun r e => match stl r e with
  | some (v, e1) => if mine isObj (slot e1 i) then (match (slot e1 i).val with
    | some d => (match mFld cs f v d with
      | some d' => .nx (e1.set i (reown (slot e1 i) d'))
      | none => .no)
    | none => .no) else .no
  | none => .no
def noMut : List Md → Bool
  | [] => true | .m :: _ => false | _ :: ms => noMut ms
/-- C(..): a new instance, then its __init__ -/
def eMake (c : Str) (phi : List D → RC) (ms : List Md) (a : AV) : EV := fun e => match a e with
  | .ok rs e1 => (match argD ms rs e1 with
    | some ds => if noMut ms then (match phi (.obj c [] :: ds) with
      | .ok false .non [o] => .ok (.nw o) e1
      | .ex x _ => .ex x e1
      | _ => .no) else .no
    | none => .no)
  | .ex x e1 => .ex x e1
  | .no => .no
/-- the receiver, then the arguments -/
def aRecv (c m : Str) (f : EV) (g : AV) : AV := fun e => match f e with
  | .ok r e1 => (match rd r e1 with
    | some (.obj c' fs) => if decide (c' = c) && (fs.lookup m).isNone then (match g e1 with
      | .ok rs e2 => .ok (r :: rs) e2
      | .ex x e2 => .ex x e2
      | .no => .no) else .no
    | _ => .no)
  | .ex x e1 => .ex x e1
  | .no => .no
/-- o.m(..) -/
def eMeth (c m : Str) (phi : List D → RC) (ms : List Md) (f : EV) (a : AV) : EV := eCall phi ms (aRecv c m f a)
/-- o.p, a property -/
def opProp (c : Str) (phi : List D → RC) : D → Option RV
  | .obj c' fs => if decide (c' = c) then (match phi [.obj c' fs] with
    | .ok n d _ => some (rv n d)
    | _ => none) else none
  | _ => none
/-! ### facts -/
structure FldT (ca : Str → Option Addr) (K : PySem.W.Frag) (cs : List Str) (f : Str) : Prop where
  ex : ∀ c, inL c cs = true → ∀ C, ca c = some C → Cls K C ∧ NoAttr K C f
structure MkT (ca : Str → Option Addr) (P : Program) (w : World) (K : PySem.W.Frag) (mg : Str → Option Value) (base : Heap) (k : Nat) (c n : Str) (ms : List Md) (phi : List D → RC) : Prop where
  ex : ∃ (C f : Addr) (fd : FuncData) (ps : List Str), ca c = some C ∧ Mk K C f ∧ FnOk P w K mg base (L2.CX P w) (2 * k) f fd ps (spOf ⟨P, w, K, ca⟩ (.m :: ms) phi) ∧ mg n = some (.ref C) ∧ Binds K fd ps []
structure MethT (ca : Str → Option Addr) (P : Program) (w : World) (K : PySem.W.Frag) (mg : Str → Option Value) (base : Heap) (k : Nat) (c m : Str) (ms : List Md) (phi : List D → RC) : Prop where
  ex : ∃ (C f : Addr) (fd : FuncData) (ps : List Str), ca c = some C ∧ Cls K C ∧ Meth K C m f ∧ FnOk P w K mg base (L2.CX P w) (2 * k) f fd ps (spOf ⟨P, w, K, ca⟩ ms phi) ∧ Binds K fd ps []
structure PropT (ca : Str → Option Addr) (P : Program) (w : World) (K : PySem.W.Frag) (mg : Str → Option Value) (base : Heap) (k : Nat) (c m : Str) (phi : List D → RC) : Prop where
  ex : ∃ (C p f : Addr) (fd : FuncData) (ps : List Str), ca c = some C ∧ Cls K C ∧ PropOf K C m p f ∧ FnOk P w K mg base (L2.CX P w) (2 * k) f fd ps (spOf ⟨P, w, K, ca⟩ [.r] phi) ∧ Binds K fd ps []
section
variable {Z : Wd} {F F' H H' : Hp} {N : En} {σ : L2.St} {e e' : Env} {v x y : V} {W : WX} {E : Ends}
theorem inL_mem {c : Str} {cs : List Str} (h : inL c cs = true) : c ∈ cs := by
  unfold inL at h
  obtain ⟨y, h1, h2⟩ := List.any_eq_true.mp h
  rw [← of_decide_eq_true h2]; exact h1
theorem RpP.putF (f : Str) {v : V} {d : D} : ∀ {vs : List (Str × V)} {ds : List (Str × D)}, RpP Z F vs ds → Rp Z F v d → RpP Z F (L2.putF f v vs) (putD f d ds)
  | _, _, .nil, r => .cons r .nil
  | _, _, .cons (k := k) h t, r => by
    unfold L2.putF putD
    by_cases c : k = f
    · rw [if_pos c, if_pos c]; exact .cons r t
    · rw [if_neg c, if_neg c]; exact .cons h (RpP.putF f t r)
theorem RpP.lookN : ∀ {xs : List (Str × V)} {ds : List (Str × D)} {f : Str}, RpP Z F xs ds → ds.lookup f = none → xs.lookup f = none
  | [], _, _, _, _ => rfl
  | (k, v) :: xs, _, f, h, q => by
    cases h with
    | cons h r =>
      rw [List.lookup_cons] at q ⊢
      split at q
      · cases q
      · exact RpP.lookN r q
theorem s_fld {cs : List Str} {f : Str} (T : FldT Z.ca Z.K cs f) : Sound1 Z (fun x H1 Q => ∃ a C dx fs v, x = V.ref a ∧ H1 a = some (.ins C dx fs) ∧ Cls Z.K C ∧ NoAttr Z.K C f ∧ fs.lookup f = some v ∧ Q v H1) (opFld cs f) := by
  intro F H x dx rr Q l hx ho q
  cases dx <;> simp only [opFld] at ho <;> try (cases ho; done)
  split at ho
  · rename_i hc
    rw [Option.map_eq_some_iff] at ho
    obtain ⟨y, hy, rfl⟩ := ho
    obtain ⟨a, C, dx, xs, rfl, c1, ha, r⟩ := hx.obj l
    obtain ⟨k1, k2⟩ := T.ex _ hc C c1
    obtain ⟨v, h1, h2⟩ := RpP.lookF r hy
    exact ⟨a, C, dx, xs, v, rfl, ha, k1, k2, h1, fin_fz l q h2⟩
  · cases ho
theorem fldput_rd {i : Nat} {cs : List Str} {f : Str} {g : EV} (T : FldT Z.ca Z.K cs f) (p : tSv Z W (sFldPut i cs f g) E σ H) : sFld Z.K (tVar i) (tEv Z W g) f E σ H := by
  obtain ⟨N, F, e, S, P⟩ := p
  refine bindS S P fun v F1 H1 e1 r f1 S1 R1 P1 => ?_
  cases c1 : S3.stl r e1 with
  | none => rw [c1] at P1; exact P1.elim
  | some pr =>
    obtain ⟨dv, e2⟩ := pr
    rw [c1] at P1
    dsimp only at P1
    obtain ⟨F2, f2, S2, r2⟩ := RvOk.stl S1 R1 c1
    split at P1
    · rename_i hm
      obtain ⟨ho, d0, hd0, hk0⟩ := mine_own hm
      obtain ⟨a, h1, f0, t0, g0⟩ := own_at S2 rfl ho hd0
      refine ⟨.ref a, h1, ?_⟩
      rw [hd0] at P1
      dsimp only at P1
      cases c3 : mFld cs f dv d0 with
      | none => rw [c3] at P1; exact P1.elim
      | some d' =>
        rw [c3] at P1
        cases d0 <;> simp only [mFld] at c3 <;> try (cases c3; done)
        split at c3
        · rename_i hc
          cases c3
          rw [Bool.and_eq_true] at hc
          obtain ⟨C, dx, xs, k1, k2, k3⟩ := id t0
          obtain ⟨q1, q2⟩ := T.ex _ hc.1 C k1
          have hl : xs.length < 1000 := by rw [k3.length]; exact of_decide_eq_true hc.2
          exact ⟨a, C, dx, xs, rfl, k2, q1, q2, hl, P1 F2 _ σ f2 (S2.write g0 ho h1 ⟨C, dx, _, k1, upd_same, k3.putF f r2⟩)⟩
        · cases c3
    · exact P1.elim
end
end S3

/-! I2: own instances: the readings and the rules. -/
namespace S3
open PySem PySem.Spec L2
section
variable {Z : Wd} {F F' H H' : Hp} {N : En} {σ : L2.St} {e e' : Env} {v x y : V} {W : WX} {E : Ends}
theorem noMut_at : ∀ {ms : List Md} {vs : List V} {i : Nat} {a : Addr}, noMut ms = true → mAt ms vs i = some a → False
  | [], _, _, _, _, h => by simp [mAt] at h
  | .m :: ms, _, _, _, h, _ => by cases h
  | .v :: ms, vs, 0, a, _, h => by simp [mAt] at h
  | .r :: ms, vs, 0, a, _, h => by simp [mAt] at h
  | .v :: ms, [], i + 1, a, h, q => by simp [mAt] at q
  | .r :: ms, [], i + 1, a, h, q => by simp [mAt] at q
  | .v :: ms, w :: vs, i + 1, a, h, q => noMut_at (ms := ms) (vs := vs) (i := i) h (by simpa [mAt] using q)
  | .r :: ms, w :: vs, i + 1, a, h, q => noMut_at (ms := ms) (vs := vs) (i := i) h (by simpa [mAt] using q)
theorem noMut_set : ∀ {ms : List Md} {vs : List V}, noMut ms = true → mSet ms vs = []
  | [], _, _ => by simp [mSet]
  | .m :: ms, _, h => by cases h
  | .v :: ms, [], h => by simp [mSet]
  | .r :: ms, [], h => by simp [mSet]
  | .v :: ms, v :: vs, h => by
    show mSet ms vs = []
    exact noMut_set h
  | .r :: ms, v :: vs, h => by
    show mSet ms vs = []
    exact noMut_set h
theorem make_rd {c : Str} {C : Addr} {phi : List D → RC} {ms : List Md} {a : AV} {Q : VK} (hC : Z.ca c = some C) (h : tEv Z W (eMake c phi ms a) σ H Q) :
    tMakeS C (spOf Z (.m :: ms) phi) (WE W) (tAv Z W a) σ H Q := by
  obtain ⟨N, F, e, S, P⟩ := h
  unfold eMake at P
  refine ⟨N, F, e, S, ?_⟩
  cases q : a e with
  | no => rw [q] at P; exact P
  | ex z e1 => rw [q] at P; exact P
  | ok rs e1 =>
    rw [q] at P
    dsimp only at P
    intro vs F1 H1 f1 S1 hl x dx nx nd ne
    cases q1 : argD ms rs e1 with
    | none => rw [q1] at P; exact P.elim
    | some ds =>
      rw [q1] at P
      dsimp only at P
      split at P
      · rename_i nm
        have nxu : (upd H1 dx (HO.own x)) x = none := by rw [upd_ne (Ne.symm ne)]; exact nx
        have g1 : Gr F1 H1 F1 (upd H1 dx (.own x)) := Gr.lay S1.le nd
        have g2 : Gr F1 (upd H1 dx (.own x)) F1 (upd (upd H1 dx (.own x)) x (.ins C dx [])) := Gr.lay g1.le nxu
        have g := g1.trans g2
        have S2 := S1.gr g
        have P1 := PostE.shift P f1
        have fx := none_le S1.le nx
        have back : ∀ {F' H' : Hp}, CGr F1 (upd (upd H1 dx (.own x)) x (.ins C dx [])) (mSet (.m :: ms) (.ref x :: vs)) F' H' → SOk Z N F' H' σ e1 ∧ F' x = none := fun {F' H'} cg => by
          have hs : mSet (.m :: ms) (.ref x :: vs) = [x] := by show x :: mSet ms vs = [x]; rw [noMut_set nm]
          rw [hs] at cg
          refine ⟨S1.grow cg.f (fun b u hb => ?_) cg.le (fun b u hb nt hn => ?_), cg.nf x _ upd_same (fun _ z => by cases z) fx⟩
          · have n1 : b ≠ x := ne_of_none hb nx
            exact cg.h b u (g.h b u hb) (by simpa using n1)
          · exact cg.nf b u (g.h b u hb) nt hn
        refine ⟨F1, .obj c [] :: ds, S2.le, .m fx ⟨C, dx, [], hC, upd_same, .nil⟩ (args_ok S2 hl q1), fun i j b m d ij hi hj hd lv => ?_, ?_⟩
        · cases i with
          | succ i => exact noMut_at nm (by simpa [mAt] using hi)
          | zero =>
            have eb : b = x := by simp [mAt] at hi; exact hi.symm
            subst eb
            cases j with
            | zero => exact ij rfl
            | succ j =>
              have hj' : ms[j]? = some m := by simpa using hj
              have hd' : ds[j]? = some d := by simpa using hd
              obtain ⟨w, k1, k2⟩ := (args_ok S1 hl q1).at hj' hd'
              have lv : Live Z F1 (vs[j]?) (pSl m d) b := by simpa using lv
              rw [k1] at lv
              cases m with
              | v => exact lv
              | m => 
                have : ∀ {ms : List Md} {j : Nat}, noMut ms = true → ms[j]? = some .m → False := fun {ms} => by
                  induction ms with
                  | nil => intro j _ h; simp at h
                  | cons m ms ih =>
                    intro j h k
                    cases m with
                    | m => cases h
                    | v => cases j with
                      | zero => simp at k
                      | succ j => exact ih h (by simpa using k)
                    | r => cases j with
                      | zero => simp at k
                      | succ j => exact ih h (by simpa using k)
                exact this nm hj'
              | r =>
                obtain ⟨e1, l2⟩ := lv
                cases e1
                rcases k2 with k2 | ⟨b', e2, f2, t2⟩
                · exact l2 k2
                · cases e2
                  obtain ⟨u, hu⟩ := t2.there
                  rw [nx] at hu; cases hu
        · cases q2 : phi (.obj c [] :: ds) with
          | no => rw [q2] at P1; exact P1
          | ex z outs =>
            rw [q2] at P1
            intro cls dd F' H' cg ho r
            exact P1 cls dd F' H' cg.f (back cg).1 r
          | ok n d outs =>
            rw [q2] at P1
            intro v F' H' cg ho r
            match n, d, outs with
            | false, .non, [o] =>
              have r : Rp Z F' v .non := r
              obtain ⟨S3', fx'⟩ := back cg
              refine ⟨by cases r; rfl, ?_⟩
              cases ho with
              | m t _ =>
                refine P1 (.ref x) F' H' cg.f S3' ⟨x, rfl, fx', S1.nohave nx, t, fun j s hj l => ?_⟩
                obtain ⟨_, u, hu⟩ := S1.live hj (l.mono cg.f)
                rw [nx] at hu; cases hu
            | false, .non, [] => exact P1.elim
            | false, .non, _ :: _ :: _ => exact P1.elim
            | true, _, _ => exact P1.elim
            | false, .bl _, _ => exact P1.elim
            | false, .int _, _ => exact P1.elim
            | false, .str _, _ => exact P1.elim
            | false, .lst _, _ => exact P1.elim
            | false, .tup _, _ => exact P1.elim
            | false, .dk _, _ => exact P1.elim
            | false, .dt _, _ => exact P1.elim
            | false, .st _, _ => exact P1.elim
            | false, .obj _ _, _ => exact P1.elim
            | false, .scr _, _ => exact P1.elim
            | false, .kt _, _ => exact P1.elim
            | false, .xn _ _, _ => exact P1.elim
      · exact P.elim
theorem tAv_recv {c m : Str} {C : Addr} {f : EV} {g : AV} {R : List V → Hp → Prop} (hC : Z.ca c = some C) (h : tAv Z W (aRecv c m f g) σ H R) :
    tEv Z W f σ H fun x H1 => ∃ a dx fs, x = .ref a ∧ H1 a = some (.ins C dx fs) ∧ fs.lookup m = none ∧ tAv Z W g σ H1 fun vs H2 => R (x :: vs) H2 := by
  obtain ⟨N, F, e, S, P⟩ := h
  unfold aRecv at P
  refine ⟨N, F, e, S, ?_⟩
  cases q : f e with
  | no => rw [q] at P; exact P
  | ex z e1 => rw [q] at P; exact P
  | ok r e1 =>
    rw [q] at P
    dsimp only at P
    intro x F1 H1 f1 S1 R1
    obtain ⟨F2, f2, S2, h2⟩ := RvOk.hold S1 R1
    cases d1 : S3.rd r e1 with
    | none => rw [d1] at P; exact P.elim
    | some dx =>
      rw [d1] at P
      cases dx <;> try exact P.elim
      rename_i c' fs
      dsimp only at P
      split at P
      · rename_i hc
        rw [Bool.and_eq_true] at hc
        have ec := of_decide_eq_true hc.1
        subst ec
        obtain ⟨a, C', dx, xs, ex, c1, ha, rr⟩ := (h2.rd S2 d1).obj S2.le
        rw [hC] at c1
        cases c1
        refine ⟨a, dx, xs, ex, ha, RpP.lookN rr (by simpa using hc.2), N, F2, e1, S2, ?_⟩
        cases q3 : g e1 with
        | no => rw [q3] at P; exact P
        | ex z e2 => rw [q3] at P; exact fun cls d F3 H3 f3 S3' y => P cls d F3 H3 ((f1.trans f2).trans f3) S3' y
        | ok rs e2 =>
          rw [q3] at P
          exact fun ys F3 H3 f3 S3' h3 => P (x :: ys) F3 H3 ((f1.trans f2).trans f3) S3' (.cons (h2.mono f3) h3)
      · exact P.elim
theorem meth_rd {c m : Str} {C : Addr} {phi : List D → RC} {ms : List Md} {f : EV} {a : AV} {Q : VK} (hC : Z.ca c = some C) (h : tEv Z W (eMeth c m phi ms f a) σ H Q) :
    tMethQ C m (spOf Z ms phi) (WE W) (tEv Z W f) (tAv Z W a) σ H Q := by
  have h2 := tAv_recv hC (call_rd h)
  refine tEv_imp h2 fun x H1 ⟨a, dx, fs, e1, e2, e3, k⟩ => ⟨a, dx, fs, e1, e2, e3, ?_⟩
  simpa only [List.append_nil, List.cons_append] using k
theorem cgr_gr {F' H' : Hp} (l : Same F H) (c : CGr F H [] F' H') : Gr F H F' H' := ⟨c.f, fun b o h => c.h b o h (by simp), c.le, c.nf⟩
theorem s_prop {c : Str} {C : Addr} {phi : List D → RC} (hC : Z.ca c = some C) : Sound1 Z (fun x H1 Q => ∃ a dx fs, x = V.ref a ∧ H1 a = some (.ins C dx fs) ∧ spOf Z [.r] phi [.ref a] H1 Q (fun _ _ _ => False)) (opProp c phi) := by
  intro F H x dx rr Q l hx ho q
  cases dx <;> simp only [opProp] at ho <;> try (cases ho; done)
  rename_i c' fs
  split at ho
  · rename_i hc
    have ec := of_decide_eq_true hc
    subst ec
    obtain ⟨a, C', dx, xs, ex, c1, ha, rr'⟩ := id (hx.obj l)
    rw [hC] at c1
    cases c1
    subst ex
    refine ⟨a, dx, xs, rfl, ha, F, [.obj c' fs], l, .r hx .nil, fun i j b m d _ hi => ?_, ?_⟩
    · cases i with
      | zero => simp [mAt] at hi
      | succ i => simp [mAt] at hi
    · cases q2 : phi [.obj c' fs] with
      | no => rw [q2] at ho; cases ho
      | ex z o => rw [q2] at ho; cases ho
      | ok n d outs =>
        rw [q2] at ho
        cases ho
        intro v F' H' cg _ r
        refine q v F' H' (cgr_gr l cg) ?_
        unfold rv
        cases n with
        | false => exact r
        | true =>
          obtain ⟨b, e1, h1, h2, t⟩ := r
          exact ⟨b, e1, h1, h2, t⟩
  · cases ho
end
section
variable {ca : Str → Option Addr} {W : WX} {X : Cx} {o a : Expr} {es : List Expr} {fo fa : EV} {ga : AV} {pos p apos p2 : Pos} {c m n : Str} {k : Nat} {ms : List Md} {phi : List D → RC}
theorem ev_fld {cs : List Str} {f : Str} (T : FldT ca X.K cs f) (he : Ev ca W X o fo) (hb : attributeBase o f X.env (eval o X.env) = eval o X.env := by rfl) : Ev ca W X (.Attribute o f pos) (eOp1 (opFld cs f) fo) :=
  PE_imp (pe_fld he hb) fun _ _ _ => one (s_fld (Z := zw ca X) T)
theorem sv_fld {i : Nat} {x f : Str} {cs : List Str} {px pos' : Pos} (T : FldT ca X.K cs f) (hx : PE X (.Name x px) (tVar i)) (ha : Ev ca W X a fa) (hs : swapsWith a (some (.Attribute (.Name x px) f pos')) pos.line X.env = pure false := by rfl) :
    Sv ca W X (.Assign [.Attribute (.Name x px) f pos'] a pos) (sFldPut i cs f fa) := PS_imp (ps_fld hx ha hs) fun _ _ _ => fldput_rd (Z := zw ca X) T
theorem ev_make (T : MkT ca X.prog X.w X.K X.mg X.base k c n ms phi) (hr : Room (2 * k + 1) X.A) (tk : Takes X W) (ha : Av ca W X (a :: es) ga) (hg : Gl X n := by rfl) (hdb : (n == ("__debug__" : Str)) = false := by decide)
    (he : starEach (a :: es) X.env = (false, eval a X.env) :: starEach es X.env := by rfl) (hpl : (backTo pos (starEach es X.env)).any (·.1) = false := by rfl) : Ev ca W X (.Call (.Name n p) (a :: es) [] pos) (eMake c phi ms ga) := by
  obtain ⟨C, f, fd, ps, hC, M, F, hm, hb⟩ := T.ex
  exact PE_imp (pe_makeS M F hr hg hm hb (fun σ => passAt tk σ) ha hdb he hpl) fun _ _ _ => make_rd (Z := zw ca X) hC
theorem ev_make0 (T : MkT ca X.prog X.w X.K X.mg X.base k c n [] phi) (hr : Room (2 * k + 1) X.A) (tk : Takes X W) (hg : Gl X n := by rfl) (hdb : (n == ("__debug__" : Str)) = false := by decide) : Ev ca W X (.Call (.Name n p) [] [] pos) (eMake c phi [] aNil) := by
  obtain ⟨C, f, fd, ps, hC, M, F, hm, hb⟩ := T.ex
  exact PE_imp (pe_makeS0 M F hr hg hm hb (fun σ => passAt tk σ) hdb) fun _ _ _ h => tAv_nil (make_rd (Z := zw ca X) hC h)
theorem ev_meth (T : MethT ca X.prog X.w X.K X.mg X.base k c m ms phi) (hr : Room (2 * k + 1) X.A) (tk : Takes X W) {pl : Sem Bool} (ho : Ev ca W X o fo) (ha : Av ca W X (a :: es) ga) 
    (he : starEach (a :: es) X.env = (false, eval a X.env) :: starEach es X.env := by rfl) (hpl : (backTo pos (starEach es X.env)).any (·.1) = false := by rfl)
    (ht : eval (.Call (.Attribute o m apos) (a :: es) [] pos) X.env = (do
      let ov ← eval o X.env
      standAt apos.atName
      let (f, first) ← holding [ov] (getMethod ov m pl)
      callWith pos f first (backTo pos (starEach (a :: es) X.env)) (backToKw pos (keywordEach [] X.env))) := by rfl) : Ev ca W X (.Call (.Attribute o m apos) (a :: es) [] pos) (eMeth c m phi ms fo ga) := by
  obtain ⟨C, f, fd, ps, hC, c1, c2, F, hb⟩ := T.ex
  exact PE_imp (pe_methQ ho c1 c2 F (hr.mono (Nat.le_succ _)) hb (fun σ => passAt tk σ) ha he hpl ht) fun _ _ _ => meth_rd (Z := zw ca X) hC
theorem ev_meth0 (T : MethT ca X.prog X.w X.K X.mg X.base k c m ms phi) (hr : Room (2 * k + 1) X.A) (tk : Takes X W) {pl : Sem Bool} (ho : Ev ca W X o fo)
    (ht : eval (.Call (.Attribute o m apos) [] [] pos) X.env = (do
      let ov ← eval o X.env
      standAt apos.atName
      let (f, first) ← holding [ov] (getMethod ov m pl)
      callWith pos f first (backTo pos (starEach [] X.env)) (backToKw pos (keywordEach [] X.env))) := by rfl) : Ev ca W X (.Call (.Attribute o m apos) [] [] pos) (eMeth c m phi ms fo aNil) := by
  obtain ⟨C, f, fd, ps, hC, c1, c2, F, hb⟩ := T.ex
  refine PE_imp (pe_methQ0 ho c1 c2 F (hr.mono (Nat.le_succ _)) hb (fun σ => passAt tk σ) ht) fun σ H Q h => ?_
  exact tEv_imp (meth_rd (Z := zw ca X) hC h) fun x H1 ⟨a, dx, fs, e1, e2, e3, k⟩ => ⟨a, dx, fs, e1, e2, e3, tAv_nil k⟩
theorem ev_prop (T : PropT ca X.prog X.w X.K X.mg X.base k c m phi) (hr : Room (2 * k + 1) X.A) (ho : Ev ca W X o fo) (hab : attributeBase o m X.env (eval o X.env) = eval o X.env := by rfl) : Ev ca W X (.Attribute o m pos) (eOp1 (opProp c phi) fo) := by
  obtain ⟨C, p, f, fd, ps, hC, c1, c2, F, hb⟩ := T.ex
  refine PE_imp (pe_prop (dvs := []) (ds := []) (E := fun _ _ _ => False) ho c1 c2 F hr hb .nil (fun pins σ H s e s' I h => ?_) hab) fun σ H Q h => ?_
  · obtain ⟨_, _, _, _, _, _, _, _, _, _, _, _, z⟩ := h
    exact z.elim
  · exact one (s_prop (Z := zw ca X) hC) h
end
end S3

/-! I3: isinstance by own classes and of own instances; own operators; constants of a class. -/
namespace L2
open PySem PySem.Spec PyProof.Rows
section
variable {X : Cx} {CX : CXT} {k : Nat} {g C : Addr} {fd : FuncData} {ps : List Str} {sp : Sp}
/-- x op y, two instances of the class at C, by its own def at g; E: what is wished for what it raises -/
def rOwnI (C : Addr) (sp : Sp) (E : XK) : R2 := fun x y H Q => ∃ a dx fs b dy gs, x = .ref a ∧ y = .ref b ∧ H a = some (.ins C dx fs) ∧ H b = some (.ins C dy gs) ∧ sp [x, y] H Q E
theorem ins_at {pins : List (Addr × Obj)} {σ : St} {H : Hp} {s : Shared} {a dx : Addr} {fs : List (Str × V)} (I : Inv X pins σ H s) (e : H a = some (.ins C dx fs)) : ∃ ox od, PySem.W.InstAt s.heap a ox C (some od) := by
  obtain ⟨mA, O, _⟩ := ins_get I.hok e
  obtain ⟨od, J, _⟩ := O.look
  exact ⟨_, od, J⟩
theorem op_ownI {op : CmpOp} (hop : ∀ a b, compareOp op a b = richCompare op a b) (hs : PySem.W.findIn X.K (.ref C) (cmpInfo op).2.1 = some (some (.ref g))) (hf : PySem.W.isFn X.K (.ref g) = true) (F : FnOk X.prog X.w X.K X.mg X.base CX k g fd ps sp) (hb : Binds X.K fd ps [])
    (hr : Room k X.A) (hx : Passes CX X (fun _ _ _ => False)) : OpR X (compareOp op) (rOwnI C sp (fun _ _ _ => False)) := by
  intro pins s σ H x y v u Q I rx ry h
  obtain ⟨a, dx, fs, b, dy, gs, rfl, rfl, ha, hb', q⟩ := h
  cases (show v = Value.ref a from rx)
  cases (show u = Value.ref b from ry)
  obtain ⟨ox, od, J⟩ := ins_at I ha
  obtain ⟨ox', od', J'⟩ := ins_at I hb'
  obtain ⟨m, hF⟩ := I.fr
  rw [hop]
  refine PySem.W.cmp_K (op := op) (tb := .ref C) (by have := hr.un; omega) hF I.ok.mod.kin J J'.type (by unfold PySem.W.notFirst; simp) hs hf ?_
  refine wpAny_mono (run_fn (us := [.ref a, .ref b]) (vs := [.ref a, .ref b]) (dvs := []) (ds := []) F hr hb .nil hx I (.cons rfl (.cons rfl .nil)) q) (fun w s' z => ?_) fun _ _ x => x
  obtain ⟨z', H', I', rz, qz⟩ := z
  exact SlX.cmpback rz ⟨z', H', I', rz, qz⟩
def tOpS (r : St → R2) (ta tb : TE) : TE := fun σ H Q => ta σ H fun x H1 => tb σ H1 fun y H2 => r σ x y H2 Q
theorem pe_binI {op : Operator} {a b : Expr} {ta tb : TE} {pos : Pos} {E : St → XK} (hc : PySem.W.selfFirst X.K C = true) (hs : PySem.W.findIn X.K (.ref C) (PySem.dunder op.info.2) = some (some (.ref g))) (hf : PySem.W.isFn X.K (.ref g) = true) (F : FnOk X.prog X.w X.K X.mg X.base CX k g fd ps sp) (hb : Binds X.K fd ps [])
    (hr : Room k X.A) (hx : ∀ σ, PassesAt CX X σ (E σ)) (h1 : PE X a ta) (h2 : PE X b tb) : PE X (.BinOp a op b pos) (tOpS (fun σ => rOwnI C sp (E σ)) ta tb) := by
  refine ⟨fun pins s σ H Q I h => ?_⟩
  refine wpAny_BinOp (thn (h1.run pins s σ H _ I h) fun v s1 ⟨x, H1, I1, rx, q1⟩ => thn (h2.run pins s1 σ H1 _ I1 q1) fun u s2 ⟨y, H2, I2, ry, q2⟩ => ?_)
  obtain ⟨a, dx, fs, b, dy, gs, rfl, rfl, ha, hb', q⟩ := q2
  cases (show v = Value.ref a from rx)
  cases (show u = Value.ref b from ry)
  obtain ⟨ox, od, J⟩ := ins_at I2 ha
  obtain ⟨ox', od', J'⟩ := ins_at I2 hb'
  obtain ⟨m, hF⟩ := I2.fr
  refine PySem.W.binop_K (op := op) hF I2.ok.mod.kin J J'.type hc hs hf ?_
  refine wpAny_mono (run_fnS1 (us := [.ref a, .ref b]) (vs := [.ref a, .ref b]) F hr hb (hx σ) I2 (.cons rfl (.cons rfl .nil)) q) (fun w s' z => ?_) fun _ _ x => x
  obtain ⟨z', H', I', rz, qz⟩ := z
  exact SlX.cmpback rz ⟨z', H', I', rz, qz⟩
end
end L2
namespace S3
open PySem PySem.Spec L2
/-! ### terms -/
/-- isinstance(x, C): sub the own classes at or below C; all: all own classes -/
def opIsO (all : List Str) (sub : Str → Bool) : D → Option RV
  | .obj c _ => if inL c all then some (.fz (.bl (sub c))) else none
  | d => bRV ((tyN d).map fun _ => false)
/-- isinstance(x, T), T built in; x may be an own instance -/
def opIsTyO (all : List Str) (T : String) : D → Option RV
  | .obj c _ => if inL c all then some (.fz (.bl false)) else none
  | d => bRV (isTy T d)
/-- x op y by an own def -/
def opOwn (c : Str) (phi : List D → RC) : D → D → Option RV
  | .obj c1 f1, .obj c2 f2 => if decide (c1 = c) && decide (c2 = c) then (match phi [.obj c1 f1, .obj c2 f2] with
    | .ok n d _ => some (rv n d)
    | _ => none) else none
  | _, _ => none
def eOwnX (c : Str) (phi : List D → RC) (f g : EV) : EV := eBind f fun r => eBind g fun q e => match rd r e, rd q e with
  | some (.obj c1 f1), some (.obj c2 f2) => if decide (c1 = c) && decide (c2 = c) then (match phi [.obj c1 f1, .obj c2 f2] with
    | .ok n d _ => .ok (rv n d) e
    | .ex x _ => .ex x e
    | .no => .no) else .no
  | _, _ => .no
/-- o.f, a constant of the class -/
def opCon (cs : List Str) (f : Str) (d : D) : D → Option RV
  | .obj c fs => if inL c cs && (fs.lookup f).isNone then some (.fz d) else none
  | _ => none
/-! ### facts -/
structure ObT (ca : Str → Option Addr) (K : PySem.W.Frag) (all : List Str) : Prop where
  ex : ∀ c, inL c all = true → ∀ C, ca c = some C → Cls K C ∧ PySem.W.findIn K (.ref C) "__class__" = some (some (.builtin "object.__class__")) ∧ PySem.W.mroIn K C (.type "object") = some true
  hn : PySem.W.specialIn K (.builtin "object.__class__") "__get__" = some (some (.builtin "getset_descriptor.__get__"))
  htk : PySem.W.takesIn K (.builtin "object.__class__") = some true
structure KitO (ca : Str → Option Addr) (K : PySem.W.Frag) (all : List Str) (u : Value) (sub : Str → Bool) : Prop where
  ex : ∀ c, inL c all = true → ∀ C, ca c = some C → PySem.W.kitOne K (.ref C) u = some (sub c)
structure KitC (ca : Str → Option Addr) (K : PySem.W.Frag) (mg : Str → Option Value) (all : List Str) (n : Str) (sub : Str → Bool) : Prop where
  ex : ∃ C, mg n = some (.ref C) ∧ KitO ca K all (.ref C) sub ∧ ∀ T ∈ (["NoneType", "bool", "int", "str", "list", "tuple", "dict"] : List String), PySem.W.kitOne K (.type T) (.ref C) = some false
structure CmpT (ca : Str → Option Addr) (P : Program) (w : World) (K : PySem.W.Frag) (mg : Str → Option Value) (base : Heap) (k : Nat) (c d : Str) (phi : List D → RC) : Prop where
  ex : ∃ (C f : Addr) (fd : FuncData) (ps : List Str), ca c = some C ∧ PySem.W.selfFirst K C = true ∧ PySem.W.findIn K (.ref C) d = some (some (.ref f)) ∧ PySem.W.isFn K (.ref f) = true ∧ FnOk P w K mg base (L2.CX P w) (2 * k) f fd ps (spOf ⟨P, w, K, ca⟩ [.r, .r] phi) ∧ Binds K fd ps []
structure ConT (ca : Str → Option Addr) (P : Program) (w : World) (K : PySem.W.Frag) (cs : List Str) (f : Str) (d : D) : Prop where
  ex : ∀ c, inL c cs = true → ∀ C, ca c = some C → Cls K C ∧ ∃ v u, Con K C f v u ∧ ∀ F, Rp ⟨P, w, K, ca⟩ F v d
section
variable {Z : Wd} {F F' H H' : Hp} {N : En} {σ : L2.St} {e e' : Env} {v x y : V} {W : WX} {E : Ends}
theorem s_isO {all : List Str} {n : Str} {mg : Str → Option Value} {C : Addr} {sub : Str → Bool} (A : ObT Z.ca Z.K all) (T1 : KitO Z.ca Z.K all (.ref C) sub) (T2 : ∀ T ∈ (["NoneType", "bool", "int", "str", "list", "tuple", "dict"] : List String), PySem.W.kitOne Z.K (.type T) (.ref C) = some false) :
    Sound1 Z (fun x => rIsi Z.K [x, .ref C]) (opIsO all sub) := by
  intro F H x dx rr Q l hx ho q
  have pl : ∀ (T : String), T ∈ (["NoneType", "bool", "int", "str", "list", "tuple", "dict"] : List String) → TyX Z.K H x (.type T) → Q (.bl false) H → rIsi Z.K [x, .ref C] H Q := fun T hT ty hq => ⟨_, _, _, _, _, rfl, .own C, ty, T2 T hT, hq⟩
  cases dx <;> simp only [opIsO, tyN, Option.map_some, Option.map_none, bRV] at ho <;> try (cases ho; done)
  · cases ho; rw [hx.non]; rw [hx.non] at pl; exact pl _ (by simp) (.base .non) (fin_bl l q)
  · cases ho; rw [hx.bl]; rw [hx.bl] at pl; exact pl "bool" (by simp) (.base (.bl _)) (fin_bl l q)
  · cases ho; rw [hx.int]; rw [hx.int] at pl; exact pl "int" (by simp) (.base (.int _)) (fin_bl l q)
  · cases ho; rw [hx.str.1]; rw [hx.str.1] at pl; exact pl "str" (by simp) (.base (.str _)) (fin_bl l q)
  · cases ho; obtain ⟨a, xs, rfl, ha, _⟩ := hx.lst l; exact pl "list" (by simp) (.base (.lst ha)) (fin_bl l q)
  · cases ho; obtain ⟨a, xs, rfl, ha, _⟩ := hx.tup l; exact pl "tuple" (by simp) (.base (.tup ha)) (fin_bl l q)
  · cases ho; obtain ⟨a, xs, rfl, ha, _⟩ := hx.dk l; exact pl "dict" (by simp) (ha.elim (fun z => .base (.dK z)) (fun ⟨o, z⟩ => .fDict z)) (fin_bl l q)
  · split at ho
    · rename_i hc
      cases ho
      obtain ⟨a, C', dx, xs, rfl, c1, ha, _⟩ := hx.obj l
      obtain ⟨k1, k2, k3⟩ := A.ex _ hc _ c1
      exact ⟨_, _, _, _, _, rfl, .own C, .base (.ins ha k1 k2 A.hn A.htk k3), T1.ex _ hc _ c1, fin_bl l q⟩
    · cases ho
theorem s_istyO {all : List Str} {T : String} (A : ObT Z.ca Z.K all) (T1 : KitO Z.ca Z.K all (.type T) fun _ => false) (h : Sound1 Z (fun x => rIsi Z.K [x, .ty T]) (opIsTy T)) :
    Sound1 Z (fun x => rIsi Z.K [x, .ty T]) (opIsTyO all T) := by
  intro F H x dx rr Q l hx ho q
  cases dx
  case obj c fs =>
    simp only [opIsTyO] at ho
    split at ho
    · rename_i hc
      cases ho
      obtain ⟨a, C', dx, xs, rfl, c1, ha, _⟩ := hx.obj l
      obtain ⟨k1, k2, k3⟩ := A.ex _ hc _ c1
      exact ⟨_, _, _, _, _, rfl, .ty T, .base (.ins ha k1 k2 A.hn A.htk k3), T1.ex _ hc _ c1, fin_bl l q⟩
    · cases ho
  all_goals exact h F H x _ rr Q l hx ho q
theorem s_own {c : Str} {C : Addr} {phi : List D → RC} (hC : Z.ca c = some C) : Sound2 Z (rOwnI C (spOf Z [.r, .r] phi) (fun _ _ _ => False)) (opOwn c phi) := by
  intro F H x y dx dy rr Q l hx hy ho q
  cases dx <;> try (simp only [opOwn] at ho; cases ho; done)
  rename_i c1 f1
  cases dy <;> try (simp only [opOwn] at ho; cases ho; done)
  rename_i c2 f2
  simp only [opOwn] at ho
  split at ho
  · rename_i hc
    rw [Bool.and_eq_true] at hc
    have e1 := of_decide_eq_true hc.1
    have e2 := of_decide_eq_true hc.2
    subst e1
    subst e2
    obtain ⟨a, C1, dx, xs, ex, k1, ha, _⟩ := hx.obj l
    obtain ⟨b, C2, dy, ys, ey, k2, hb, _⟩ := hy.obj l
    rw [hC] at k1 k2
    cases k1
    cases k2
    refine ⟨a, dx, xs, b, dy, ys, ex, ey, ha, hb, F, [.obj _ f1, .obj _ f2], l, .r hx (.r hy .nil), fun i j b m d _ hi => ?_, ?_⟩
    · match i with
      | 0 => simp [mAt] at hi
      | 1 => simp [mAt] at hi
      | i + 2 => simp [mAt] at hi
    · cases q2 : phi [.obj _ f1, .obj _ f2] with
      | no => rw [q2] at ho; cases ho
      | ex z o => rw [q2] at ho; cases ho
      | ok n d outs =>
        rw [q2] at ho
        cases ho
        intro v F' H' cg _ r
        have cg' : CGr F H [] F' H' := cg
        refine q v F' H' (cgr_gr l cg') ?_
        unfold rv
        cases n with
        | false => exact r
        | true =>
          obtain ⟨b, e1, h1, h2, t⟩ := r
          exact ⟨b, e1, h1, h2, t⟩
  · cases ho
theorem ownX_rd {c : Str} {C : Addr} {phi : List D → RC} {f g : EV} {Q : VK} (hC : Z.ca c = some C) (h : tEv Z W (eOwnX c phi f g) σ H Q) : tOpS (fun σ => rOwnI C (spOf Z [.r, .r] phi) (WE W σ)) (tEv Z W f) (tEv Z W g) σ H Q := by
  obtain ⟨N, F, e, S, P⟩ := h
  refine bindL S P fun x F1 H1 e1 ra f1 S1 R1 P1 => ?_
  obtain ⟨F2, f2, S2, h2⟩ := RvOk.hold S1 R1
  refine bindL S2 (PostE.shift P1 f2) fun y F3 H3 e3 rb f3 T3 R3 P3 => ?_
  obtain ⟨F4, f4, S4, h4⟩ := RvOk.hold T3 R3
  have P4 := PostE.shift P3 f4
  have g2 := (h2.mono f3).mono f4
  cases d1 : S3.rd ra e3 with
  | none => rw [d1] at P4; exact P4.elim
  | some dx =>
    cases d2 : S3.rd rb e3 with
    | none => rw [d1, d2] at P4; cases dx <;> exact P4.elim
    | some dy =>
      rw [d1, d2] at P4
      have hx := g2.rd S4 d1
      have hy := h4.rd S4 d2
      cases dx <;> try exact P4.elim
      cases dy <;> try exact P4.elim
      rename_i c1 fs1 c2 fs2
      dsimp only at P4
      split at P4
      · rename_i hc
        rw [Bool.and_eq_true] at hc
        have e1 := of_decide_eq_true hc.1
        have e2 := of_decide_eq_true hc.2
        subst e1
        subst e2
        obtain ⟨a, C1, dx, xs, ex, k1, ha, _⟩ := hx.obj S4.le
        obtain ⟨b, C2, dy, ys, ey, k2, hb, _⟩ := hy.obj S4.le
        rw [hC] at k1 k2
        cases k1
        cases k2
        refine ⟨a, dx, xs, b, dy, ys, ex, ey, ha, hb, F4, [.obj _ fs1, .obj _ fs2], S4.le, .r hx (.r hy .nil), fun i j b m d _ hi => ?_, ?_⟩
        · match i with
          | 0 => simp [mAt] at hi
          | 1 => simp [mAt] at hi
          | i + 2 => simp [mAt] at hi
        · cases q2 : phi [.obj _ fs1, .obj _ fs2] with
          | no => rw [q2] at P4; exact P4
          | ex z o =>
            rw [q2] at P4
            intro cls dd F' H' cg _ r
            have cg' : CGr F4 H3 [] F' H' := cg
            have gr := cgr_gr S4.le cg'
            exact P4 cls dd F' H' gr.f (S4.gr gr) r
          | ok n d outs =>
            rw [q2] at P4
            intro v F' H' cg _ r
            have cg' : CGr F4 H3 [] F' H' := cg
            refine op_end S4 P4 v F' H' (cgr_gr S4.le cg') ?_
            unfold rv
            cases n with
            | false => exact r
            | true =>
              obtain ⟨b, e1, h1, h2, t⟩ := r
              exact ⟨b, e1, h1, h2, t⟩
      · exact P4.elim
theorem s_con {P : Program} {w : World} {K : PySem.W.Frag} {ca : Str → Option Addr} {cs : List Str} {f : Str} {d : D} (T : ConT ca P w K cs f d) : Sound1 ⟨P, w, K, ca⟩ (fun x H1 Q => ∃ a C dx fs v u, x = V.ref a ∧ H1 a = some (.ins C dx fs) ∧ Cls K C ∧ Con K C f v u ∧ fs.lookup f = none ∧ Q v H1) (opCon cs f d) := by
  intro F H x dx rr Q l hx ho q
  cases dx <;> simp only [opCon] at ho <;> try (cases ho; done)
  split at ho
  · rename_i hc
    rw [Bool.and_eq_true] at hc
    cases ho
    obtain ⟨a, C, dx, xs, rfl, c1, ha, r⟩ := hx.obj l
    obtain ⟨k1, v, u, k2, k3⟩ := T.ex _ hc.1 C c1
    exact ⟨a, C, dx, xs, v, u, rfl, ha, k1, k2, RpP.lookN r (by simpa using hc.2), fin_fz l q (k3 F)⟩
  · cases ho
end
section
variable {ca : Str → Option Addr} {W : WX} {X : Cx} {a b : Expr} {fa fb : EV} {pos p p2 : Pos} {c n : Str} {k : Nat} {phi : List D → RC}
theorem ev_isO {all : List Str} {sub : Str → Bool} (A : ObT ca X.K all) (T : KitC ca X.K X.mg all n sub) (hm : X.mg "isinstance" = none) (ha : Ev ca W X a fa) (hg : Gl X "isinstance" := by rfl) (hgT : Gl X n := by rfl) (hdb : (n == ("__debug__" : Str)) = false := by decide)
    (he : starEach [a, .Name n p2] X.env = (false, eval a X.env) :: starEach [.Name n p2] X.env := by rfl) : Ev ca W X (.Call (.Name "isinstance" p) [a, .Name n p2] [] pos) (eOp1 (opIsO all sub) fa) := by
  obtain ⟨C, h1, h2, h3⟩ := T.ex
  exact PE_imp (pe_callB call_isi hg hm (by decide +kernel) (pa_cons ha (pa_cons (pe_glob (v := .ref C) hgT h1 rfl hdb) pa_nil) he) (by decide) (by decide) he (by rfl)) fun _ _ _ => one (s_isO (Z := zw ca X) (n := n) (mg := X.mg) A h2 h3)
theorem ev_istyO {all : List Str} {T : String} {n : Str} (A : ObT ca X.K all) (T1 : KitO ca X.K all (.type T) fun _ => false) (hs : Sound1 (zw ca X) (fun x => rIsi X.K [x, .ty T]) (opIsTy T)) (hm : X.mg "isinstance" = none) (hmT : X.mg n = none) (ha : Ev ca W X a fa) (hg : Gl X "isinstance" := by rfl) (hgT : Gl X n := by rfl)
    (hvT : bootBuiltins n = some (.type T) := by decide +kernel) (hn : n ≠ "__name__" := by decide) (hdb : (n == ("__debug__" : Str)) = false := by decide)
    (he : starEach [a, .Name n p2] X.env = (false, eval a X.env) :: starEach [.Name n p2] X.env := by rfl) : Ev ca W X (.Call (.Name "isinstance" p) [a, .Name n p2] [] pos) (eOp1 (opIsTyO all T) fa) :=
  ev_isty (s_istyO (Z := zw ca X) A T1 hs) hm hmT ha hg hgT hvT hn hdb he
theorem op_ownS {op : CmpOp} (hop : ∀ a b, compareOp op a b = richCompare op a b) (T : CmpT ca X.prog X.w X.K X.mg X.base k c (cmpInfo op).2.1 phi) (hr : Room (2 * k + 1) X.A) : ∃ r, OpR X (compareOp op) r ∧ Sound2 (zw ca X) r (opOwn c phi) := by
  obtain ⟨C, f, fd, ps, hC, _, hs, hf, F, hb⟩ := T.ex
  refine ⟨_, op_ownI hop hs hf F hb (hr.mono (Nat.le_succ _)) (fun pins σ H s e s' I h => ?_), s_own (Z := zw ca X) hC⟩
  obtain ⟨_, _, _, _, _, _, _, _, _, _, _, _, z⟩ := h
  exact z.elim
theorem ev_cmpO {op : CmpOp} (T : CmpT ca X.prog X.w X.K X.mg X.base k c (cmpInfo op).2.1 phi) (hr : Room (2 * k + 1) X.A) (ha : Ev ca W X a fa) (hb : Ev ca W X b fb) (hm : behindInMarks op b = false) (hop : ∀ a b, compareOp op a b = richCompare op a b := by intro _ _; rfl) :
    Ev ca W X (.Compare a [op] [b] pos) (eOp2 (opOwn c phi) fa fb) := by
  obtain ⟨r, h1, h2⟩ := op_ownS hop T hr
  exact ev_cmp h1 h2 ha hb hm
theorem tv_cmpO {op : CmpOp} (T : CmpT ca X.prog X.w X.K X.mg X.base k c (cmpInfo op).2.1 phi) (hr : Room (2 * k + 1) X.A) (ha : Ev ca W X a fa) (hb : Ev ca W X b fb) (hm : behindInMarks op b = false) (hop : ∀ a b, compareOp op a b = richCompare op a b := by intro _ _; rfl) :
    Tv ca W X (.Compare a [op] [b] pos) (tVal (eOp2 (opOwn c phi) fa fb)) := by
  obtain ⟨r, h1, h2⟩ := op_ownS hop T hr
  exact tv_cmp h1 h2 ha hb hm
theorem ev_binO {op : Operator} (T : CmpT ca X.prog X.w X.K X.mg X.base k c (PySem.dunder op.info.2) phi) (hr : Room (2 * k + 1) X.A) (tk : Takes X W) (ha : Ev ca W X a fa) (hb : Ev ca W X b fb) : Ev ca W X (.BinOp a op b pos) (eOwnX c phi fa fb) := by
  obtain ⟨C, f, fd, ps, hC, hc, hs, hf, F, hbn⟩ := T.ex
  exact PE_imp (pe_binI hc hs hf F hbn (hr.mono (Nat.le_succ _)) (fun σ => passAt tk σ) ha hb) fun _ _ _ => ownX_rd (Z := zw ca X) hC
theorem ev_con {cs : List Str} {f : Str} {d : D} (T : ConT ca X.prog X.w X.K cs f d) (he : Ev ca W X a fa) (hb : attributeBase a f X.env (eval a X.env) = eval a X.env := by rfl) : Ev ca W X (.Attribute a f pos) (eOp1 (opCon cs f d) fa) :=
  PE_imp (pe_con he hb) fun _ _ _ => one (s_con T)
end
end S3

/-! ST1: the tables of sets up to 300 items (the roads of HandS.TupSets, widened by one mask). -/
namespace STK
open PySem PySem.Spec PyProof.Rows L2
/-- pigeons -/
theorem nat_nodup_len : ∀ (l D : List Nat), l.Nodup → (∀ x ∈ l, x ∈ D) → l.length ≤ D.length
  | [], _, _, _ => Nat.zero_le _
  | x :: l, D, hn, hs => by
    obtain ⟨h1, h2⟩ := List.nodup_cons.mp hn
    have hx : x ∈ D := hs x List.mem_cons_self
    have ih := nat_nodup_len l (D.erase x) h2 fun y hy => by
      have hne : y ≠ x := fun e => h1 (e ▸ hy)
      exact (List.mem_erase_of_ne hne).2 (hs y (List.mem_cons_of_mem _ hy))
    have e := List.length_erase_of_mem hx
    have hp : 0 < D.length := List.length_pos_of_mem hx
    rw [List.length_cons]
    omega
/-- a short list leaves a number out -/
theorem st_missing (l : List Nat) (n : Nat) (h : l.length < n) : ∃ j, j < n ∧ j ∉ l := by
  rcases Classical.em (∃ j, j < n ∧ j ∉ l) with c | c
  · exact c
  · exfalso
    have hs : ∀ x ∈ List.range n, x ∈ l := fun x hx => by
      rcases Classical.em (x ∈ l) with k | k
      · exact k
      · exact absurd ⟨x, List.mem_range.mp hx, k⟩ c
    have q := nat_nodup_len (List.range n) l List.nodup_range hs
    rw [List.length_range] at q
    omega
/-- the least number of which a property is true -/
theorem st_least {p : Nat → Prop} : ∀ n, p n → ∃ k, k ≤ n ∧ p k ∧ ∀ k', k' < k → ¬ p k' := by
  intro n
  induction n using Nat.strongRecOn with
  | ind n ih =>
    intro h
    rcases Classical.em (∃ k', k' < n ∧ p k') with ⟨k', h1, h2⟩ | c
    · obtain ⟨k, a, b, d⟩ := ih k' h1 h2
      exact ⟨k, Nat.le_trans a (Nat.le_of_lt h1), b, d⟩
    · exact ⟨n, Nat.le_refl _, h, fun k' hk hp => c ⟨k', hk, hp⟩⟩

/-! ### the round of i -> 5 i + 1 -/
def lcgN (m : Nat) : Nat → Nat
  | 0 => 0
  | k + 1 => (lcgN m k * 5 + 1) % (m + 1)
def lcgI (m i : Nat) : Nat → Nat
  | 0 => i
  | k + 1 => (lcgI m i k * 5 + 1) % (m + 1)
/-- the masks that come -/
def MaskOk (m : Nat) : Prop := m = 7 ∨ m = 31 ∨ m = 127 ∨ m = 511
theorem lcg_all7 : ((List.range 8).all fun j => (List.range 8).any fun b => lcgN 7 b == j) = true := by decide +kernel
theorem lcg_all31 : ((List.range 32).all fun j => (List.range 32).any fun b => lcgN 31 b == j) = true := by decide +kernel
theorem lcg_all127 : ((List.range 128).all fun j => (List.range 128).any fun b => lcgN 127 b == j) = true := by decide +kernel
theorem lcg_all511 : ((List.range 512).all fun j => (List.range 512).any fun b => lcgN 511 b == j) = true := by decide +kernel
theorem lcg_all {m : Nat} (hm : MaskOk m) {j : Nat} (hj : j ≤ m) : ∃ b, b ≤ m ∧ lcgN m b = j := by
  have key : ∀ n : Nat, ((List.range (n + 1)).all fun j => (List.range (n + 1)).any fun b => lcgN n b == j) = true → ∀ j, j ≤ n → ∃ b, b ≤ n ∧ lcgN n b = j := by
    intro n h j hj
    have h1 := List.all_eq_true.mp h j (List.mem_range.mpr (Nat.lt_succ_of_le hj))
    obtain ⟨b, hb, e⟩ := List.any_eq_true.mp h1
    exact ⟨b, Nat.le_of_lt_succ (List.mem_range.mp hb), beq_iff_eq.mp e⟩
  rcases hm with e | e | e | e
  · subst e; exact key 7 lcg_all7 j hj
  · subst e; exact key 31 lcg_all31 j hj
  · subst e; exact key 127 lcg_all127 j hj
  · subst e; exact key 511 lcg_all511 j hj
theorem lcg_round {m : Nat} (hm : MaskOk m) : lcgN m (m + 1) = 0 := by
  rcases hm with e | e | e | e
  · subst e; decide +kernel
  · subst e; decide +kernel
  · subst e; decide +kernel
  · subst e; decide +kernel
theorem lcgN_add (m a : Nat) : ∀ k, lcgI m (lcgN m a) k = lcgN m (a + k)
  | 0 => rfl
  | k + 1 => by
    show (lcgI m (lcgN m a) k * 5 + 1) % (m + 1) = (lcgN m (a + k) * 5 + 1) % (m + 1)
    rw [lcgN_add m a k]
theorem lcgN_mod {m : Nat} (hm : MaskOk m) : ∀ k, lcgN m (m + 1 + k) = lcgN m k
  | 0 => lcg_round hm
  | k + 1 => by
    show (lcgN m (m + 1 + k) * 5 + 1) % (m + 1) = (lcgN m k * 5 + 1) % (m + 1)
    rw [lcgN_mod hm k]
/-- from anywhere each slot is met within a round -/
theorem lcgI_all {m : Nat} (hm : MaskOk m) {i j : Nat} (hi : i ≤ m) (hj : j ≤ m) : ∃ k, k ≤ m ∧ lcgI m i k = j := by
  obtain ⟨a, ha, ea⟩ := lcg_all hm hi
  obtain ⟨b, hb, eb⟩ := lcg_all hm hj
  rw [← ea]
  rcases Nat.lt_or_ge b a with c | c
  · refine ⟨b + (m + 1) - a, by omega, ?_⟩
    rw [lcgN_add]
    have e : a + (b + (m + 1) - a) = m + 1 + b := by omega
    rw [e, lcgN_mod hm, eb]
  · refine ⟨b - a, by omega, ?_⟩
    rw [lcgN_add]
    have e : a + (b - a) = b := by omega
    rw [e, eb]

/-! ### the way of a search -/
/-- SetTable.advance, by the mask alone -/
def adv (m : Nat) (p : SetTable.Probe) : SetTable.Probe :=
  if p.more > 0 then { p with j := p.j + 1, more := p.more - 1 } else
  { p with j := (SetTable.leap m p.i p.perturb).1, more := SetTable.runEnd m (SetTable.leap m p.i p.perturb).1 - (SetTable.leap m p.i p.perturb).1, i := (SetTable.leap m p.i p.perturb).1, perturb := (SetTable.leap m p.i p.perturb).2 }
theorem adv_eq (t : SetTable) (p : SetTable.Probe) : t.advance p = adv t.mask p := rfl
def nth (m : Nat) (p : SetTable.Probe) : Nat → SetTable.Probe
  | 0 => p
  | k + 1 => nth m (adv m p) k
theorem nth_add (m : Nat) : ∀ (a : Nat) (p : SetTable.Probe) (k : Nat), nth m p (a + k) = nth m (nth m p a) k
  | 0, p, k => by rw [Nat.zero_add]; rfl
  | a + 1, p, k => by
    have e : a + 1 + k = (a + k) + 1 := by omega
    rw [e]
    exact nth_add m a (adv m p) k
theorem nth_succ (m : Nat) (p : SetTable.Probe) (k : Nat) : nth m p (k + 1) = adv m (nth m p k) := nth_add m k p 1
/-- a run's first state -/
def runAt (m i perturb : Nat) : SetTable.Probe := { j := i, more := SetTable.runEnd m i - i, i, perturb, dummy := none }
theorem start_run (t : SetTable) (h : Int) : t.probeStart h = runAt t.mask (SetTable.bits h % (t.mask + 1)) (SetTable.bits h) := rfl
theorem runEnd_bd {m i : Nat} (hi : i ≤ m) : SetTable.runEnd m i ≤ m ∧ i ≤ SetTable.runEnd m i ∧ SetTable.runEnd m i ≤ i + 9 := by
  unfold SetTable.runEnd
  split <;> omega
/-- within a run -/
theorem nth_run (m : Nat) (i perturb : Nat) : ∀ k, k ≤ SetTable.runEnd m i - i → nth m (runAt m i perturb) k = { j := i + k, more := SetTable.runEnd m i - i - k, i, perturb, dummy := none }
  | 0, _ => rfl
  | k + 1, h => by
    rw [nth_succ, nth_run m i perturb k (by omega)]
    unfold adv
    have hp : SetTable.runEnd m i - i - k > 0 := by omega
    rw [if_pos hp]
    rfl
/-- behind a run comes the next -/
theorem nth_leap (m : Nat) (i perturb : Nat) : nth m (runAt m i perturb) (SetTable.runEnd m i - i + 1) = runAt m (SetTable.leap m i perturb).1 (SetTable.leap m i perturb).2 := by
  rw [nth_succ, nth_run m i perturb _ (Nat.le_refl _)]
  unfold adv
  have hp : ¬ (SetTable.runEnd m i - i - (SetTable.runEnd m i - i) > 0) := by omega
  rw [if_neg hp]
  rfl
/-- the runs' starts -/
def runI (m b : Nat) : Nat → Nat
  | 0 => b % (m + 1)
  | n + 1 => (runI m b n * 5 + 1 + b / 32 ^ (n + 1)) % (m + 1)
theorem pow_div (b n : Nat) : b / 32 ^ n / 32 = b / 32 ^ (n + 1) := by
  rw [Nat.div_div_eq_div_mul, Nat.pow_succ]
theorem runI_le (m b : Nat) : ∀ n, runI m b n ≤ m
  | 0 => Nat.le_of_lt_succ (Nat.mod_lt _ (Nat.succ_pos _))
  | n + 1 => Nat.le_of_lt_succ (Nat.mod_lt _ (Nat.succ_pos _))
/-- the n-th run begins within 10 n steps -/
theorem run_nth (m b : Nat) : ∀ n, ∃ k, k ≤ 10 * n ∧ nth m (runAt m (b % (m + 1)) b) k = runAt m (runI m b n) (b / 32 ^ n)
  | 0 => ⟨0, Nat.le_refl _, by
    show runAt m (b % (m + 1)) b = runAt m (b % (m + 1)) (b / 32 ^ 0)
    rw [Nat.pow_zero, Nat.div_one]⟩
  | n + 1 => by
    obtain ⟨k, hk, e⟩ := run_nth m b n
    have hr := runEnd_bd (runI_le m b n)
    refine ⟨k + (SetTable.runEnd m (runI m b n) - runI m b n + 1), by omega, ?_⟩
    rw [nth_add, e, nth_leap]
    show runAt m ((runI m b n * 5 + 1 + b / 32 ^ n / 32) % (m + 1)) (b / 32 ^ n / 32) = _
    rw [pow_div]
    rfl
theorem runI_tail {m b : Nat} (hb : b < 2 ^ 64) : ∀ k, runI m b (12 + k) = lcgI m (runI m b 12) k
  | 0 => rfl
  | k + 1 => by
    have z : b / 32 ^ (12 + k + 1) = 0 := by
      refine Nat.div_eq_of_lt (Nat.lt_of_lt_of_le hb ?_)
      have e : (32 : Nat) ^ (12 + k + 1) = 32 ^ 13 * 32 ^ k := by
        rw [← Nat.pow_add]
        have e2 : 12 + k + 1 = 13 + k := by omega
        rw [e2]
      rw [e]
      have h1 : 0 < (32 : Nat) ^ k := Nat.pow_pos (by decide)
      have h2 : (2 : Nat) ^ 64 ≤ 32 ^ 13 := by decide
      exact Nat.le_trans h2 (Nat.le_mul_of_pos_right _ h1)
    show (runI m b (12 + k) * 5 + 1 + b / 32 ^ (12 + k + 1)) % (m + 1) = (lcgI m (runI m b 12) k * 5 + 1) % (m + 1)
    rw [z, runI_tail hb k, Nat.add_zero]
theorem bits_lt (h : Int) : SetTable.bits h < 2 ^ 64 := by
  unfold SetTable.bits
  have h1 := Int.emod_nonneg h (show ((2 : Int) ^ 64) ≠ 0 by decide)
  have h2 := Int.emod_lt_of_pos h (show (0 : Int) < 2 ^ 64 by decide)
  omega
/-- each slot begins a run early enough -/
theorem run_meets {m : Nat} (hm : MaskOk m) (h : Int) {j : Nat} (hj : j ≤ m) : ∃ n, n ≤ m + 12 ∧ runI m (SetTable.bits h) n = j := by
  obtain ⟨k, hk, e⟩ := lcgI_all hm (runI_le m (SetTable.bits h) 12) hj
  exact ⟨12 + k, by omega, by rw [runI_tail (bits_lt h)]; exact e⟩
/-- each slot is met within the search's bound -/
theorem nth_meets {m : Nat} (hm : MaskOk m) (h : Int) {j : Nat} (hj : j ≤ m) : ∃ k, k < 10 * SetTable.turns m ∧ (nth m (runAt m (SetTable.bits h % (m + 1)) (SetTable.bits h)) k).j = j := by
  obtain ⟨n, hn, e⟩ := run_meets hm h hj
  obtain ⟨k, hk, e2⟩ := run_nth m (SetTable.bits h) n
  refine ⟨k, by unfold SetTable.turns; omega, ?_⟩
  rw [e2]
  exact e

/-! ### slots -/
theorem has_none (j : Nat) : SetTable.has #[] j = false := by
  unfold SetTable.has
  simp
theorem slot_live {t : SetTable} (r : Ris t.place.toList) {i j : Nat} (h : t.place.toList[i]? = some j) : t.slot j = .live i := by
  obtain ⟨c1, c2, c3⟩ := below_cut r j
  have hb : SetTable.below t.place j = i := by
    generalize SetTable.below t.place j = p at c1 c2 c3 ⊢
    rcases Nat.lt_trichotomy i p with k | k | k
    · exact absurd (c2 i j h k) (Nat.lt_irrefl _)
    · exact k.symm
    · have hl : i < t.place.toList.length := (List.getElem?_eq_some_iff.mp h).1
      have hp : p < t.place.toList.length := Nat.lt_trans k hl
      have e := List.getElem?_eq_getElem hp
      have h1 := c3 p _ e (Nat.le_refl _)
      have h2 := ris_lt r e h k
      exact absurd (Nat.lt_of_lt_of_le h2 h1) (Nat.lt_irrefl _)
  have e2 : t.place[i]? = some j := by rw [← Array.getElem?_toList]; exact h
  unfold SetTable.slot
  rw [hb]
  show (if (t.place[i]? == some j) = true then SetTable.Slot.live i else if SetTable.has t.dummies j = true then SetTable.Slot.dummy else SetTable.Slot.empty) = SetTable.Slot.live i
  rw [e2]
  simp
theorem slot_empty {t : SetTable} (hd : t.dummies = #[]) {j : Nat} (h : j ∉ t.place.toList) : t.slot j = .empty := by
  unfold SetTable.slot
  have e : (t.place[SetTable.below t.place j]? == some j) = false := by
    rcases Classical.em (t.place[SetTable.below t.place j]? = some j) with c | c
    · exact absurd (List.mem_of_getElem? (by rw [Array.getElem?_toList]; exact c)) h
    · exact beq_eq_false_iff_ne.mpr c
  rw [hd, has_none]
  simp only [e]
  rfl
theorem slot_cases {t : SetTable} (r : Ris t.place.toList) (hd : t.dummies = #[]) (j : Nat) : (j ∉ t.place.toList ∧ t.slot j = .empty) ∨ ∃ i, t.place.toList[i]? = some j ∧ t.slot j = .live i := by
  rcases Classical.em (j ∈ t.place.toList) with c | c
  · obtain ⟨i, hi, e⟩ := List.getElem_of_mem c
    have e2 : t.place.toList[i]? = some j := by rw [List.getElem?_eq_getElem hi, e]
    exact Or.inr ⟨i, e2, slot_live r e2⟩
  · exact Or.inl ⟨c, slot_empty hd c⟩

/-- what a probe answers: the first of equal hash before the first empty slot, or that slot -/
theorem go_spec (t : SetTable) (r : Ris t.place.toList) (hd : t.dummies = #[]) (hashAt : Nat → Int) (h : Int) : ∀ (f K : Nat) (p : SetTable.Probe), p.dummy = none → K < f →
    (∀ k, k < K → (nth t.mask p k).j ∈ t.place.toList) → (nth t.mask p K).j ∉ t.place.toList →
    (∃ k i, k < K ∧ t.place.toList[i]? = some (nth t.mask p k).j ∧ hashAt i = h ∧ (∀ k' i', k' < k → t.place.toList[i']? = some (nth t.mask p k').j → hashAt i' ≠ h) ∧
      SetTable.probe.go t hashAt h f p = some (.candidate (nth t.mask p k).j i (nth t.mask p (k + 1)))) ∨
    ((∀ k' i', k' < K → t.place.toList[i']? = some (nth t.mask p k').j → hashAt i' ≠ h) ∧ SetTable.probe.go t hashAt h f p = some (.empty (nth t.mask p K).j none))
  | 0, K, p, _, hK, _, _ => absurd hK (Nat.not_lt_zero _)
  | f + 1, 0, p, hp, _, _, he => by
    refine Or.inr ⟨fun k' i' hk => absurd hk (Nat.not_lt_zero _), ?_⟩
    have hs : t.slot p.j = .empty := slot_empty hd he
    unfold SetTable.probe.go
    rw [hs]
    show some (SetTable.Met.empty p.j p.dummy) = some (SetTable.Met.empty p.j none)
    rw [hp]
  | f + 1, K + 1, p, hp, hK, hin, he => by
    have h0 : p.j ∈ t.place.toList := hin 0 (Nat.succ_pos _)
    rcases slot_cases r hd p.j with ⟨c, _⟩ | ⟨i, hi, hs⟩
    · exact absurd h0 c
    · by_cases hh : hashAt i = h
      · refine Or.inl ⟨0, i, Nat.succ_pos _, hi, hh, fun k' i' hk => absurd hk (Nat.not_lt_zero _), ?_⟩
        unfold SetTable.probe.go
        rw [hs]
        show (if (hashAt i == h) = true then some (SetTable.Met.candidate p.j i (t.advance p)) else SetTable.probe.go t hashAt h f (t.advance p)) = _
        rw [if_pos (beq_iff_eq.mpr hh)]
        rfl
      · have e : SetTable.probe.go t hashAt h (f + 1) p = SetTable.probe.go t hashAt h f (adv t.mask p) := by
          conv => lhs; unfold SetTable.probe.go
          rw [hs]
          show (if (hashAt i == h) = true then some (SetTable.Met.candidate p.j i (t.advance p)) else SetTable.probe.go t hashAt h f (t.advance p)) = _
          rw [if_neg (by rw [beq_iff_eq]; exact hh)]
          rfl
        have hpd : (adv t.mask p).dummy = none := by
          unfold adv
          split <;> exact hp
        have one : ∀ i', t.place.toList[i']? = some p.j → hashAt i' ≠ h := fun i' hi' => by
          have e1 := slot_live r hi'
          rw [hs] at e1
          injection e1 with e1
          rw [← e1]
          exact hh
        rcases go_spec t r hd hashAt h f K (adv t.mask p) hpd (by omega) (fun k hk => hin (k + 1) (Nat.succ_lt_succ hk)) he with ⟨k, i2, a1, a2, a3, a4, a5⟩ | ⟨a1, a2⟩
        · refine Or.inl ⟨k + 1, i2, Nat.succ_lt_succ a1, a2, a3, fun k' i' hk hi' => ?_, by rw [e]; exact a5⟩
          cases k' with
          | zero => exact one i' hi'
          | succ k' => exact a4 k' i' (Nat.lt_of_succ_lt_succ hk) hi'
        · refine Or.inr ⟨fun k' i' hk hi' => ?_, by rw [e]; exact a2⟩
          cases k' with
          | zero => exact one i' hi'
          | succ k' => exact a1 k' i' (Nat.lt_of_succ_lt_succ hk) hi'

/-! ### the table's word -/
abbrev way (m : Nat) (h : Int) (k : Nat) : Nat := (nth m (runAt m (SetTable.bits h % (m + 1)) (SetTable.bits h)) k).j
/-- a table whose slots all are found again from their hashes -/
structure TabOk (t : SetTable) (hs : List Int) : Prop where
  ris : Ris t.place.toList
  dm : t.dummies = #[]
  sz : t.place.size = hs.length
  mok : MaskOk t.mask
  bd : ∀ x ∈ t.place.toList, x ≤ t.mask
  reach : ∀ (i : Nat) (h : Int) (j : Nat), hs[i]? = some h → t.place.toList[i]? = some j → ∃ k, way t.mask h k = j ∧ ∀ k', k' < k → way t.mask h k' ∈ t.place.toList
theorem mask_odd {m : Nat} (h : MaskOk m) : m % 2 = 1 := by
  rcases h with e | e | e | e <;> subst e <;> rfl
/-- the first empty slot on the way -/
theorem TabOk.first {t : SetTable} {hs : List Int} (T : TabOk t hs) (hl : hs.length ≤ t.mask) (h : Int) : ∃ K, K < 10 * SetTable.turns t.mask ∧ way t.mask h K ∉ t.place.toList ∧ ∀ k, k < K → way t.mask h k ∈ t.place.toList := by
  have hlen : t.place.toList.length < t.mask + 1 := by
    rw [Array.length_toList, T.sz]
    omega
  obtain ⟨j, hj, hn⟩ := st_missing t.place.toList (t.mask + 1) hlen
  obtain ⟨k, hk, e⟩ := nth_meets T.mok h (Nat.le_of_lt_succ hj)
  obtain ⟨K, h1, h2, h3⟩ := st_least (p := fun k => way t.mask h k ∉ t.place.toList) k (by show way t.mask h k ∉ _; rw [show way t.mask h k = j from e]; exact hn)
  refine ⟨K, Nat.lt_of_le_of_lt h1 hk, h2, fun k' hk' => ?_⟩
  rcases Classical.em (way t.mask h k' ∈ t.place.toList) with c | c
  · exact c
  · exact absurd c (h3 k' hk')
/-- what has the hash stands on the way before it -/
theorem TabOk.before {t : SetTable} {hs : List Int} (T : TabOk t hs) {h : Int} {K i j : Nat} (hK : way t.mask h K ∉ t.place.toList) (hi : hs[i]? = some h) (hj : t.place.toList[i]? = some j) : ∃ k, k < K ∧ way t.mask h k = j := by
  obtain ⟨k, e, hb⟩ := T.reach i h j hi hj
  refine ⟨k, ?_, e⟩
  rcases Nat.lt_trichotomy k K with c | c | c
  · exact c
  · rw [← c, e] at hK
    exact absurd (List.mem_of_getElem? hj) hK
  · exact absurd (hb K c) hK
end STK

namespace STK
open PySem PySem.Spec PyProof.Rows L2

/-! ### the way stays within the table -/
theorem leap_le (m i b : Nat) : (SetTable.leap m i b).1 ≤ m := by
  show (i * 5 + 1 + b / 32) % (m + 1) ≤ m
  exact Nat.le_of_lt_succ (Nat.mod_lt _ (Nat.succ_pos _))
theorem adv_in {m : Nat} {p : SetTable.Probe} (h : p.j + p.more ≤ m) : (adv m p).j + (adv m p).more ≤ m := by
  unfold adv
  by_cases c : p.more > 0
  · rw [if_pos c]
    show p.j + 1 + (p.more - 1) ≤ m
    omega
  · rw [if_neg c]
    have r := runEnd_bd (leap_le m p.i p.perturb)
    show (SetTable.leap m p.i p.perturb).1 + (SetTable.runEnd m (SetTable.leap m p.i p.perturb).1 - (SetTable.leap m p.i p.perturb).1) ≤ m
    omega
theorem nth_in {m : Nat} : ∀ (k : Nat) (p : SetTable.Probe), p.j + p.more ≤ m → (nth m p k).j + (nth m p k).more ≤ m
  | 0, _, h => h
  | k + 1, p, h => nth_in k (adv m p) (adv_in h)
theorem way_le {m : Nat} (_hm : MaskOk m) {h : Int} {k : Nat} : way m h k ≤ m := by
  have hi : SetTable.bits h % (m + 1) ≤ m := Nat.le_of_lt_succ (Nat.mod_lt _ (Nat.succ_pos _))
  have r := runEnd_bd hi
  have q := nth_in (m := m) k (runAt m (SetTable.bits h % (m + 1)) (SetTable.bits h)) (by
    show SetTable.bits h % (m + 1) + (SetTable.runEnd m (SetTable.bits h % (m + 1)) - SetTable.bits h % (m + 1)) ≤ m
    omega)
  show (nth m (runAt m (SetTable.bits h % (m + 1)) (SetTable.bits h)) k).j ≤ m
  omega

/-! ### one put in -/
theorem tins_get {α : Type} (l : List α) {p : Nat} (hp : p ≤ l.length) (x : α) (i : Nat) : (l.take p ++ x :: l.drop p)[i]? = if i < p then l[i]? else if i = p then some x else l[i - 1]? := by
  have ht : (l.take p).length = p := by
    rw [List.length_take]
    omega
  by_cases h1 : i < p
  · rw [if_pos h1, List.getElem?_append_left (by rw [ht]; exact h1)]
    simp [List.getElem?_take, h1]
  · rw [if_neg h1, List.getElem?_append_right (by rw [ht]; omega), ht]
    by_cases h2 : i = p
    · rw [if_pos h2, h2, Nat.sub_self] <;> rfl
    · rw [if_neg h2]
      obtain ⟨k, e⟩ : ∃ k, i - p = k + 1 := ⟨i - p - 1, by omega⟩
      have e2 : p + k = i - 1 := by omega
      rw [e, List.getElem?_cons_succ, List.getElem?_drop, e2]
theorem mem_ins {α : Type} {l : List α} {p : Nat} {x y : α} : x ∈ l.take p ++ y :: l.drop p ↔ x = y ∨ x ∈ l := by
  have e : x ∈ l ↔ x ∈ l.take p ∨ x ∈ l.drop p := by
    rw [← List.mem_append, List.take_append_drop]
  rw [List.mem_append, List.mem_cons]
  constructor
  · intro z
    rcases z with z | z | z
    · exact .inr (e.2 (.inl z))
    · exact .inl z
    · exact .inr (e.2 (.inr z))
  · intro z
    rcases z with z | z
    · exact .inr (.inl z)
    · rcases e.1 z with z | z
      · exact .inl z
      · exact .inr (.inr z)
theorem len_ins {α : Type} (l : List α) {p : Nat} (hp : p ≤ l.length) (x : α) : (l.take p ++ x :: l.drop p).length = l.length + 1 := by
  rw [List.length_append, List.length_cons, List.length_take, List.length_drop]
  omega
theorem put_place (t : SetTable) (j : Nat) : (t.put j).1.place.toList = t.place.toList.take (SetTable.below t.place j) ++ j :: t.place.toList.drop (SetTable.below t.place j) := SetTable.toList_insertAt _ _ _
theorem put_dm {t : SetTable} (hd : t.dummies = #[]) (j : Nat) : (t.put j).1.dummies = #[] := by
  show (if SetTable.has t.dummies j = true then SetTable.eraseAt t.dummies (SetTable.below t.dummies j) else t.dummies) = #[]
  rw [hd, has_none] <;> exact if_neg Bool.false_ne_true
theorem TabOk.put {t : SetTable} {hs : List Int} (T : TabOk t hs) {h : Int} {K : Nat} (hK : way t.mask h K ∉ t.place.toList) (hb : ∀ k, k < K → way t.mask h k ∈ t.place.toList) :
    (t.put (way t.mask h K)).2 = SetTable.below t.place (way t.mask h K) ∧ SetTable.below t.place (way t.mask h K) ≤ hs.length ∧
    TabOk (t.put (way t.mask h K)).1 (hs.take (SetTable.below t.place (way t.mask h K)) ++ h :: hs.drop (SetTable.below t.place (way t.mask h K))) ∧
    (t.put (way t.mask h K)).1.mask = t.mask ∧ (t.put (way t.mask h K)).1.led = t.led ∧ (t.put (way t.mask h K)).1.plain = t.plain ∧ (t.put (way t.mask h K)).1.moves = t.moves ∧ (t.put (way t.mask h K)).1.finger = t.finger ∧
    (t.put (way t.mask h K)).1.fill = hs.length + 1 := by
  have hjm : way t.mask h K ≤ t.mask := way_le T.mok
  obtain ⟨j, hj⟩ : ∃ j, j = way t.mask h K := ⟨_, rfl⟩
  rw [← hj] at hK hjm ⊢
  obtain ⟨c1, _, _⟩ := below_cut T.ris j
  have hpl : SetTable.below t.place j ≤ t.place.toList.length := by
    rw [Array.length_toList]
    exact c1
  have hph : SetTable.below t.place j ≤ hs.length := by
    rw [← T.sz]
    exact c1
  have hsz : t.place.toList.length = hs.length := by
    rw [Array.length_toList]
    exact T.sz
  have hnp : t.place[SetTable.below t.place j]? ≠ some j := fun e => hK (List.mem_of_getElem? (by rw [Array.getElem?_toList]; exact e))
  have hpp := put_place t j
  have hsize : (t.put j).1.place.size = hs.length + 1 := by
    rw [← Array.length_toList, hpp, len_ins _ hpl, hsz]
  have up : ∀ {x : Nat}, x ∈ t.place.toList → x ∈ (t.put j).1.place.toList := fun {x} hx => by
    rw [hpp]
    exact mem_ins.2 (.inr hx)
  refine ⟨rfl, hph, ⟨ris_insert T.ris hnp, put_dm T.dm j, ?_, T.mok, fun x hx => ?_, fun i h' j' h1 h2 => ?_⟩, rfl, rfl, rfl, rfl, rfl, ?_⟩
  · rw [len_ins _ hph]
    exact hsize
  · rw [hpp] at hx
    rcases mem_ins.1 hx with z | z
    · rw [z]
      exact hjm
    · exact T.bd x z
  · rw [tins_get hs hph] at h1
    rw [hpp, tins_get _ hpl] at h2
    show ∃ k, way t.mask h' k = j' ∧ ∀ k', k' < k → way t.mask h' k' ∈ (t.put j).1.place.toList
    by_cases c : i < SetTable.below t.place j
    · rw [if_pos c] at h1 h2
      obtain ⟨k, e, z⟩ := T.reach i h' j' h1 h2
      exact ⟨k, e, fun k' hk' => up (z k' hk')⟩
    · rw [if_neg c] at h1 h2
      by_cases d : i = SetTable.below t.place j
      · rw [if_pos d] at h1 h2
        have e1 : h = h' := Option.some.inj h1
        have e2 : j = j' := Option.some.inj h2
        subst e1
        subst e2
        exact ⟨K, hj.symm, fun k' hk' => up (hb k' hk')⟩
      · rw [if_neg d] at h1 h2
        obtain ⟨k, e, z⟩ := T.reach (i - 1) h' j' h1 h2
        exact ⟨k, e, fun k' hk' => up (z k' hk')⟩
  · show (t.put j).1.place.size + (t.put j).1.dummies.size = hs.length + 1
    rw [hsize, put_dm T.dm j] <;> rfl

/-! ### laying all anew: the runs -/
theorem runEnd_ge (m i : Nat) : i ≤ SetTable.runEnd m i := by
  unfold SetTable.runEnd
  split <;> omega
theorem find_range' (p : Nat → Bool) : ∀ (n s k : Nat), s ≤ k → k < s + n → p k = true → (∀ k', s ≤ k' → k' < k → p k' = false) → (List.range' s n).find? p = some k
  | 0, s, k, h1, h2, _, _ => absurd h2 (by omega)
  | n + 1, s, k, h1, h2, hk, hb => by
    rw [List.range'_succ, List.find?_cons]
    by_cases c : s = k
    · subst c
      rw [hk] <;> rfl
    · rw [hb s (Nat.le_refl _) (by omega)]
      exact find_range' p n (s + 1) k (by omega) (by omega) hk fun k' a b => hb k' (by omega) b
theorem find_range (p : Nat → Bool) {n k : Nat} (h : k < n) (hk : p k = true) (hb : ∀ k', k' < k → p k' = false) : (List.range n).find? p = some k := by
  rw [List.range_eq_range']
  exact find_range' p n 0 k (Nat.zero_le _) (by omega) hk fun k' _ b => hb k' b
theorem find_range_none (p : Nat → Bool) {n : Nat} (hb : ∀ k', k' < n → p k' = false) : (List.range n).find? p = none := by
  rw [List.find?_eq_none]
  intro x hx hp
  rw [hb x (List.mem_range.mp hx)] at hp
  cases hp

/-- who sits at a slot -/
abbrev oAt (owner : Array (Option Nat)) (j : Nat) : Option Nat := owner.getD j (some 0)
def pickR (x : Option Nat) (i : Nat) (y : Option Nat) : Option Nat := match x with
  | some k => some (i + k)
  | none => y
theorem free_succ (m : Nat) (owner : Array (Option Nat)) (f i b : Nat) : SetTable.layClean.free m owner (f + 1) i b =
    pickR ((List.range (SetTable.runEnd m i + 1 - i)).find? fun k => (oAt owner (i + k)).isNone) i (SetTable.layClean.free m owner f (SetTable.leap m i b).1 (SetTable.leap m i b).2) := rfl
/-- the steps up to the n-th run -/
def off (m : Nat) : Nat → Nat → Nat → Nat
  | _, _, 0 => 0
  | i, b, n + 1 => (SetTable.runEnd m i - i + 1) + off m (SetTable.leap m i b).1 (SetTable.leap m i b).2 n
theorem free_spec (m : Nat) (owner : Array (Option Nat)) : ∀ (f n i b K : Nat), n < f → K ≤ off m i b n → (∀ k, k < K → (oAt owner (nth m (runAt m i b) k).j).isNone = false) → (oAt owner (nth m (runAt m i b) K).j).isNone = true →
    SetTable.layClean.free m owner f i b = some (nth m (runAt m i b) K).j
  | 0, _, _, _, _, hn, _, _, _ => absurd hn (Nat.not_lt_zero _)
  | f + 1, n, i, b, K, hn, hK, hocc, hfree => by
    have hge := runEnd_ge m i
    by_cases c : K ≤ SetTable.runEnd m i - i
    · have e := nth_run m i b K c
      have hf : ((List.range (SetTable.runEnd m i + 1 - i)).find? fun k => (oAt owner (i + k)).isNone) = some K :=
        find_range _ (by omega) (by rw [e] at hfree; exact hfree) fun k' hk' => by
          have q := hocc k' hk'
          rw [nth_run m i b k' (by omega)] at q
          exact q
      rw [free_succ, hf]
      exact congrArg some (congrArg SetTable.Probe.j e).symm
    · have hf : ((List.range (SetTable.runEnd m i + 1 - i)).find? fun k => (oAt owner (i + k)).isNone) = none :=
        find_range_none _ fun k' hk' => by
          have q := hocc k' (by omega)
          rw [nth_run m i b k' (by omega)] at q
          exact q
      cases n with
      | zero =>
        have z : K ≤ 0 := hK
        omega
      | succ n =>
        have z : K ≤ (SetTable.runEnd m i - i + 1) + off m (SetTable.leap m i b).1 (SetTable.leap m i b).2 n := hK
        obtain ⟨K', eK⟩ : ∃ K', K = SetTable.runEnd m i - i + 1 + K' := ⟨K - (SetTable.runEnd m i - i + 1), by omega⟩
        subst eK
        have shift : ∀ k, nth m (runAt m i b) (SetTable.runEnd m i - i + 1 + k) = nth m (runAt m (SetTable.leap m i b).1 (SetTable.leap m i b).2) k := fun k => by
          rw [nth_add, nth_leap]
        have ih := free_spec m owner f n (SetTable.leap m i b).1 (SetTable.leap m i b).2 K' (by omega) (by omega)
          (fun k hk => by
            have q := hocc (SetTable.runEnd m i - i + 1 + k) (by omega)
            rw [shift] at q
            exact q)
          (by rw [shift] at hfree; exact hfree)
        rw [free_succ, hf, shift]
        exact ih
/-- the n-th run's first state -/
def itL (m : Nat) : Nat → Nat → Nat → Nat × Nat
  | i, b, 0 => (i, b)
  | i, b, n + 1 => itL m (SetTable.leap m i b).1 (SetTable.leap m i b).2 n
theorem itL_back (m : Nat) : ∀ (n i b : Nat), itL m i b (n + 1) = SetTable.leap m (itL m i b n).1 (itL m i b n).2
  | 0, _, _ => rfl
  | n + 1, i, b => itL_back m n (SetTable.leap m i b).1 (SetTable.leap m i b).2
theorem nth_off (m : Nat) : ∀ (n i b : Nat), nth m (runAt m i b) (off m i b n) = runAt m (itL m i b n).1 (itL m i b n).2
  | 0, _, _ => rfl
  | n + 1, i, b => by
    show nth m (runAt m i b) ((SetTable.runEnd m i - i + 1) + off m (SetTable.leap m i b).1 (SetTable.leap m i b).2 n) = _
    rw [nth_add, nth_leap]
    exact nth_off m n _ _
theorem itL_run (m b : Nat) : ∀ n, itL m (b % (m + 1)) b n = (runI m b n, b / 32 ^ n)
  | 0 => by
    show (b % (m + 1), b) = (b % (m + 1), b / 32 ^ 0)
    rw [Nat.pow_zero, Nat.div_one]
  | n + 1 => by
    rw [itL_back, itL_run m b n]
    show ((runI m b n * 5 + 1 + b / 32 ^ n / 32) % (m + 1), b / 32 ^ n / 32) = _
    rw [pow_div] <;> rfl
/-- a free slot is found, at the first free place of the way -/
theorem free_find {m : Nat} (hm : MaskOk m) (owner : Array (Option Nat)) (h : Int) {j : Nat} (hj : j ≤ m) (hf : oAt owner j = none) :
    ∃ K, SetTable.layClean.free m owner (SetTable.turns m) (SetTable.bits h % (m + 1)) (SetTable.bits h) = some (way m h K) ∧ oAt owner (way m h K) = none ∧ ∀ k, k < K → oAt owner (way m h k) ≠ none := by
  obtain ⟨n, hn, e⟩ := run_meets hm h hj
  have hw : way m h (off m (SetTable.bits h % (m + 1)) (SetTable.bits h) n) = j := by
    show (nth m (runAt m (SetTable.bits h % (m + 1)) (SetTable.bits h)) (off m (SetTable.bits h % (m + 1)) (SetTable.bits h) n)).j = j
    rw [nth_off, itL_run]
    exact e
  obtain ⟨K, k1, k2, k3⟩ := st_least (p := fun k => oAt owner (way m h k) = none) (off m (SetTable.bits h % (m + 1)) (SetTable.bits h) n) (by
    show oAt owner (way m h (off m (SetTable.bits h % (m + 1)) (SetTable.bits h) n)) = none
    rw [show way m h (off m (SetTable.bits h % (m + 1)) (SetTable.bits h) n) = j from hw]
    exact hf)
  refine ⟨K, ?_, k2, k3⟩
  refine free_spec m owner (SetTable.turns m) n _ _ K (by unfold SetTable.turns; omega) k1 (fun k hk => ?_) ?_
  · have q := k3 k hk
    cases z : oAt owner (nth m (runAt m (SetTable.bits h % (m + 1)) (SetTable.bits h)) k).j with
    | none => exact absurd z q
    | some _ => rfl
  · have q : oAt owner (nth m (runAt m (SetTable.bits h % (m + 1)) (SetTable.bits h)) K).j = none := k2
    rw [q] <;> rfl

/-! ### who sits where -/
theorem oAt_set_self {owner : Array (Option Nat)} {j : Nat} (v : Option Nat) (hj : j < owner.size) : oAt (owner.setIfInBounds j v) j = v := by
  show (owner.setIfInBounds j v).getD j (some 0) = v
  rw [Array.getD_eq_getD_getElem?, Array.getElem?_setIfInBounds, if_pos rfl, if_pos hj] <;> rfl
theorem oAt_set_ne {owner : Array (Option Nat)} {i j : Nat} (v : Option Nat) (h : i ≠ j) : oAt (owner.setIfInBounds j v) i = oAt owner i := by
  show (owner.setIfInBounds j v).getD i (some 0) = owner.getD i (some 0)
  rw [Array.getD_eq_getD_getElem?, Array.getD_eq_getD_getElem?, Array.getElem?_setIfInBounds, if_neg (Ne.symm h)]
theorem oAt_init {m j : Nat} (hj : j ≤ m) : oAt (Array.replicate (m + 1) none) j = none := by
  have h : j < m + 1 := Nat.lt_succ_of_le hj
  show (Array.replicate (m + 1) (none : Option Nat)).getD j (some 0) = none
  rw [Array.getD_eq_getD_getElem?, Array.getElem?_replicate, if_pos h] <;> rfl
theorem oAt_none {owner : Array (Option Nat)} {j : Nat} (hj : j < owner.size) : owner.getD j none = oAt owner j := by
  show owner.getD j none = owner.getD j (some 0)
  rw [Array.getD_eq_getD_getElem?, Array.getD_eq_getD_getElem?, Array.getElem?_eq_getElem hj] <;> rfl
structure Own (m : Nat) (done : List Int) (owner : Array (Option Nat)) : Prop where
  sz : owner.size = m + 1
  at_ : ∀ j k, j ≤ m → oAt owner j = some k → ∃ h K, done[k]? = some h ∧ way m h K = j ∧ ∀ k', k' < K → oAt owner (way m h k') ≠ none
  all : ∀ k, k < done.length → ∃ j, j ≤ m ∧ oAt owner j = some k
  ps : ∃ ps : List Nat, ps.length = done.length ∧ ∀ j, j ≤ m → oAt owner j ≠ none → j ∈ ps
theorem Own.init (m : Nat) : Own m [] (Array.replicate (m + 1) none) where
  sz := by simp
  at_ := fun j k hj e => by
    rw [oAt_init hj] at e
    cases e
  all := fun k hk => absurd hk (Nat.not_lt_zero _)
  ps := ⟨[], rfl, fun j hj e => absurd (oAt_init hj) e⟩
theorem Own.step {m : Nat} (hm : MaskOk m) {done : List Int} {owner : Array (Option Nat)} (W : Own m done owner) (hl : done.length ≤ m) (h : Int) :
    ∃ j, SetTable.layClean.free m owner (SetTable.turns m) (SetTable.bits h % (m + 1)) (SetTable.bits h) = some j ∧ Own m (done ++ [h]) (owner.setIfInBounds j (some done.length)) := by
  obtain ⟨ps, hps, hin⟩ := W.ps
  obtain ⟨j0, h0, hn0⟩ := st_missing ps (m + 1) (by omega)
  have hj0 : oAt owner j0 = none := by
    cases z : oAt owner j0 with
    | none => rfl
    | some k => exact absurd (hin j0 (Nat.le_of_lt_succ h0) (by rw [z]; exact fun e => nomatch e)) hn0
  obtain ⟨K, e1, e2, e3⟩ := free_find hm owner h (Nat.le_of_lt_succ h0) hj0
  have hjm : way m h K ≤ m := way_le hm
  have hjs : way m h K < owner.size := by
    rw [W.sz]
    exact Nat.lt_succ_of_le hjm
  refine ⟨way m h K, e1, ?_⟩
  have hself := oAt_set_self (some done.length) hjs
  have mono : ∀ {i : Nat}, oAt owner i ≠ none → oAt (owner.setIfInBounds (way m h K) (some done.length)) i ≠ none := fun {i} hi => by
    by_cases c : i = way m h K
    · rw [c, hself]
      exact fun e => nomatch e
    · rw [oAt_set_ne _ c]
      exact hi
  refine ⟨by rw [Array.size_setIfInBounds]; exact W.sz, fun j k hj e => ?_, fun k hk => ?_, ⟨way m h K :: ps, by rw [List.length_cons, List.length_append, hps] <;> rfl, fun j hj e => ?_⟩⟩
  · by_cases c : j = way m h K
    · rw [c, hself] at e
      have ek : done.length = k := Option.some.inj e
      refine ⟨h, K, ?_, c.symm, fun k' hk' => mono (e3 k' hk')⟩
      rw [← ek, List.getElem?_append_right (Nat.le_refl _), Nat.sub_self] <;> rfl
    · rw [oAt_set_ne _ c] at e
      obtain ⟨h', K', a1, a2, a3⟩ := W.at_ j k hj e
      refine ⟨h', K', ?_, a2, fun k' hk' => mono (a3 k' hk')⟩
      rw [List.getElem?_append_left (List.getElem?_eq_some_iff.mp a1).1]
      exact a1
  · rw [List.length_append, List.length_singleton] at hk
    by_cases c : k < done.length
    · obtain ⟨j, hj, e⟩ := W.all k c
      refine ⟨j, hj, ?_⟩
      rw [oAt_set_ne _ (fun z => by rw [z, e2] at e; cases e)]
      exact e
    · have ek : k = done.length := by omega
      rw [ek]
      exact ⟨way m h K, hjm, hself⟩
  · by_cases c : j = way m h K
    · rw [c]
      exact List.mem_cons_self
    · rw [oAt_set_ne _ c] at e
      exact List.mem_cons_of_mem _ (hin j hj e)

/-! ### layClean -/
def stepF (mask : Nat) (acc : Option (Array (Option Nat) × Nat)) (h : Int) : Option (Array (Option Nat) × Nat) := do
  let (owner, k) ← acc
  let j ← SetTable.layClean.free mask owner (SetTable.turns mask) (SetTable.bits h % (mask + 1)) (SetTable.bits h)
  pure (owner.setIfInBounds j (some k), k + 1)
theorem layClean_eq (m : Nat) (hs : Array Int) : SetTable.layClean m hs = (hs.toList.foldl (stepF m) (some (Array.replicate (m + 1) none, 0))).map (·.1) := by
  unfold SetTable.layClean
  rw [← Array.foldl_toList] <;> rfl
theorem stepF_some {m k j : Nat} {owner : Array (Option Nat)} {h : Int} (e : SetTable.layClean.free m owner (SetTable.turns m) (SetTable.bits h % (m + 1)) (SetTable.bits h) = some j) :
    stepF m (some (owner, k)) h = some (owner.setIfInBounds j (some k), k + 1) := by
  show (SetTable.layClean.free m owner (SetTable.turns m) (SetTable.bits h % (m + 1)) (SetTable.bits h)).bind (fun j => some (owner.setIfInBounds j (some k), k + 1)) = _
  rw [e] <;> rfl
theorem fold_ok {m : Nat} (hm : MaskOk m) : ∀ (rest done : List Int) (owner : Array (Option Nat)), Own m done owner → done.length + rest.length ≤ m →
    ∃ owner', rest.foldl (stepF m) (some (owner, done.length)) = some (owner', (done ++ rest).length) ∧ Own m (done ++ rest) owner'
  | [], done, owner, W, _ => ⟨owner, by rw [List.append_nil] <;> rfl, by rw [List.append_nil]; exact W⟩
  | h :: rest, done, owner, W, hl => by
    rw [List.length_cons] at hl
    obtain ⟨j, e, W'⟩ := W.step hm (by omega) h
    have hl' : (done ++ [h]).length = done.length + 1 := by rw [List.length_append] <;> rfl
    obtain ⟨owner', f, W2⟩ := fold_ok hm rest (done ++ [h]) _ W' (by rw [hl']; omega)
    have ea : done ++ [h] ++ rest = done ++ h :: rest := by rw [List.append_assoc] <;> rfl
    rw [ea, hl'] at f
    rw [ea] at W2
    refine ⟨owner', ?_, W2⟩
    rw [List.foldl_cons, stepF_some e]
    exact f
theorem layClean_ok {m : Nat} (hm : MaskOk m) {hs : Array Int} (hn : hs.size ≤ m) : ∃ owner, SetTable.layClean m hs = some owner ∧ Own m hs.toList owner := by
  obtain ⟨owner, f, W⟩ := fold_ok hm hs.toList [] _ (Own.init m) (by rw [Array.length_toList]; show 0 + hs.size ≤ m; omega)
  rw [List.nil_append] at W
  refine ⟨owner, ?_, W⟩
  rw [layClean_eq]
  have f' : hs.toList.foldl (stepF m) (some (Array.replicate (m + 1) none, 0)) = some (owner, ([] ++ hs.toList).length) := f
  rw [f'] <;> rfl

/-! ### the new table -/
def liveOf (m : Nat) (owner : Array (Option Nat)) : List (Nat × Nat) := (List.range (m + 1)).filterMap fun j => (owner.getD j none).map (j, ·)
def tabOf (t : SetTable) (m : Nat) (owner : Array (Option Nat)) : SetTable :=
  { mask := m, place := ((liveOf m owner).map (·.1)).toArray, dummies := #[], finger := t.finger, led := t.led, moves := t.movedTo m, plain := t.plain }
theorem relaid_eq (t : SetTable) (hs : Array Int) (wanted : Nat) : t.relaid hs wanted = (SetTable.layClean (SetTable.sizeAbove wanted - 1) hs).bind fun owner =>
    some (tabOf t (SetTable.sizeAbove wanted - 1) owner, ((liveOf (SetTable.sizeAbove wanted - 1) owner).map (·.2)).toArray) := rfl
theorem mem_live {m : Nat} {owner : Array (Option Nat)} (hs : owner.size = m + 1) {j k : Nat} : (j, k) ∈ liveOf m owner ↔ j ≤ m ∧ oAt owner j = some k := by
  unfold liveOf
  rw [List.mem_filterMap]
  constructor
  · intro z
    obtain ⟨a, ha, e⟩ := z
    have ham : a < m + 1 := List.mem_range.mp ha
    rw [oAt_none (by rw [hs]; exact ham)] at e
    obtain ⟨x, hx, ex⟩ := Option.map_eq_some_iff.mp e
    have e1 : a = j := congrArg Prod.fst ex
    have e2 : x = k := congrArg Prod.snd ex
    subst e1
    subst e2
    exact ⟨Nat.le_of_lt_succ ham, hx⟩
  · intro z
    obtain ⟨hj, e⟩ := z
    refine ⟨j, List.mem_range.mpr (Nat.lt_succ_of_le hj), ?_⟩
    rw [oAt_none (by rw [hs]; exact Nat.lt_succ_of_le hj), e] <;> rfl
theorem perm_range : ∀ (n : Nat) (l : List Nat), l.length = n → (∀ k, k < n → k ∈ l) → l.Perm (List.range n)
  | 0, l, hl, _ => by
    rw [List.eq_nil_of_length_eq_zero hl]
    exact List.Perm.refl _
  | n + 1, l, hl, h => by
    have hn : n ∈ l := h n (Nat.lt_succ_self n)
    have ih := perm_range n (l.erase n) (by rw [List.length_erase_of_mem hn]; omega) fun k hk => (List.mem_erase_of_ne (Nat.ne_of_lt hk)).2 (h k (Nat.lt_succ_of_lt hk))
    rw [List.range_succ]
    exact (List.perm_cons_erase hn).trans ((ih.cons n).trans (List.perm_append_singleton n _).symm)
theorem relaid_ok (t : SetTable) {hs : Array Int} {wanted M : Nat} (hw : SetTable.sizeAbove wanted - 1 = M) (hM : MaskOk M) (hn : hs.size ≤ M) :
    ∃ t' order, t.relaid hs wanted = some (t', order) ∧ order.toList.Perm (List.range hs.size) ∧ TabOk t' (order.toList.map fun i => hs.getD i 0) ∧ t'.mask = M ∧ t'.led = t.led ∧ t'.plain = t.plain ∧ t'.dummies = #[] := by
  obtain ⟨owner, e, W⟩ := layClean_ok hM hn
  have hr : t.relaid hs wanted = some (tabOf t M owner, ((liveOf M owner).map (·.2)).toArray) := by
    rw [relaid_eq, hw, e] <;> rfl
  have ris := ris_live (fun j => owner.getD j none) (List.range (M + 1)) (by
    unfold Ris
    first | exact List.pairwise_lt_range | exact List.pairwise_lt_range _)
  have r1 : Ris ((liveOf M owner).map (·.1)) := ris.1
  have r2 : ∀ x ∈ (liveOf M owner).map (·.1), x ∈ List.range (M + 1) := ris.2
  have nd : ((liveOf M owner).map (·.1)).Nodup := List.Pairwise.imp (fun h => Nat.ne_of_lt h) r1
  have hlen : (liveOf M owner).length = hs.size := by
    obtain ⟨ps, p1, p2⟩ := W.ps
    have a := nat_nodup_len ((liveOf M owner).map (·.1)) ps nd fun x hx => by
      obtain ⟨q, hq, eq1⟩ := List.mem_map.mp hx
      obtain ⟨y, k⟩ := q
      have ey : y = x := eq1
      subst ey
      obtain ⟨b1, b2⟩ := (mem_live W.sz).1 hq
      exact p2 y b1 (by rw [b2]; exact fun z => nomatch z)
    have b := nat_nodup_len (List.range hs.size) ((liveOf M owner).map (·.2)) List.nodup_range fun k hk => by
      obtain ⟨j, b1, b2⟩ := W.all k (by rw [Array.length_toList]; exact List.mem_range.mp hk)
      exact List.mem_map.mpr ⟨(j, k), (mem_live W.sz).2 ⟨b1, b2⟩, rfl⟩
    rw [List.length_map, p1] at a
    rw [List.length_map, List.length_range] at b
    have hz : hs.toList.length = hs.size := rfl
    omega
  refine ⟨tabOf t M owner, ((liveOf M owner).map (·.2)).toArray, hr, ?_, ⟨r1, rfl, ?_, hM, fun x hx => ?_, fun i h j h1 h2 => ?_⟩, rfl, rfl, rfl, rfl⟩
  · refine perm_range hs.size _ ?_ fun k hk => ?_
    · show ((liveOf M owner).map (·.2)).length = hs.size
      rw [List.length_map]
      exact hlen
    · obtain ⟨j, b1, b2⟩ := W.all k (by rw [Array.length_toList]; exact hk)
      exact List.mem_map.mpr ⟨(j, k), (mem_live W.sz).2 ⟨b1, b2⟩, rfl⟩
  · show ((liveOf M owner).map (·.1)).toArray.size = (((liveOf M owner).map (·.2)).map fun i => hs.getD i 0).length
    rw [List.size_toArray, List.length_map, List.length_map, List.length_map]
  · exact Nat.le_of_lt_succ (List.mem_range.mp (r2 x hx))
  · have h1' : (((liveOf M owner).map (·.2)).map fun i => hs.getD i 0)[i]? = some h := h1
    have h2' : ((liveOf M owner).map (·.1))[i]? = some j := h2
    rw [List.getElem?_map, List.getElem?_map] at h1'
    rw [List.getElem?_map] at h2'
    cases hq : (liveOf M owner)[i]? with
    | none =>
      rw [hq] at h2'
      cases h2'
    | some q =>
      obtain ⟨y, k⟩ := q
      rw [hq] at h1' h2'
      have ej : y = j := Option.some.inj h2'
      have eh : hs.getD k 0 = h := Option.some.inj h1'
      subst ej
      obtain ⟨b1, b2⟩ := (mem_live W.sz).1 (List.mem_of_getElem? hq)
      obtain ⟨h0, K, a1, a2, a3⟩ := W.at_ y k b1 b2
      have e0 : hs.getD k 0 = h0 := by
        rw [Array.getD_eq_getD_getElem?, ← Array.getElem?_toList, a1] <;> rfl
      have ehh : h0 = h := e0.symm.trans eh
      subst ehh
      refine ⟨K, a2, fun k' hk' => ?_⟩
      show way M h0 k' ∈ (liveOf M owner).map (·.1)
      cases z : oAt owner (way M h0 k') with
      | none => exact absurd z (a3 k' hk')
      | some k2 => exact List.mem_map.mpr ⟨(way M h0 k', k2), (mem_live W.sz).2 ⟨way_le hM, z⟩, rfl⟩
theorem size_20 : SetTable.sizeAbove (SetTable.grown 5) = 32 := by decide +kernel
theorem size_308 : SetTable.sizeAbove (SetTable.grown 77) = 512 := by decide +kernel
theorem size_76 : SetTable.sizeAbove (SetTable.grown 19) = 128 := by decide +kernel
end STK

/-! ST2: sets of tuples of ints and texts (the roads of HandS.TupSets, by mixKind). -/
namespace STK
open PySem PySem.Spec PyProof.Rows L2
abbrev TK (P : Program) (w : World) : HeapKind P w (List Key) := tupleKind (mixKind P w)
abbrev thash (P : Program) (w : World) (k : List Key) : Int := tupleKeyHash (mixKind P w) k
/-- the tuple at a has the ints k -/
abbrev IsT (P : Program) (w : World) (h : Heap) (k : List Key) (a : Addr) : Prop := IsTupleKey (mixKind P w) h k a

/-! ### the model's words, opened -/
/-- behind a candidate (the model's text from «let some (_, y)» on) -/
def searchRest (a : Addr) (x : Value) (h : Int) (adding : Bool) (fuel : Nat) (es : Array (Int × Value)) (t : SetTable) (j i : Nat) (next : SetTable.Probe) : Sem SetFound := do
  let some (_, y) := es[i]? | unsupported "internal:set-entry"
  let equal ← holding [y] (eqBool y x)
  let (es', _, t') ← setState a
  if adding && equal then return .there none
  let some same := t'.sameMemory t.moves t.mask | unsupported "set.changed-during-lookup:is-the-new-block-at-the-old-address"
  let still ← match (if same then t'.slot j else .empty) with
    | .live i' => match es'[i']? with
      | some (_, y') => do pure (if ← isSame y' y then some i' else none)
      | none => pure none
    | _ => pure none
  match still with
  | none => rule "set.search.anew"; setSearchFrom a x h adding fuel none
  | some i' => if equal then return .there (some i') else setSearchFrom a x h adding fuel (some next)
theorem setSearchFrom_succ (a : Addr) (x : Value) (h : Int) (adding : Bool) (fuel : Nat) (stand : Option SetTable.Probe) : setSearchFrom a x h adding (fuel + 1) stand = (do
    let (es, _, t) ← setState a
    if t.gaveWay then unsupported "set:on-a-table-that-gave-way"
    let some met := t.probe (fun i => (es[i]?.map (·.1)).getD 0) h (stand.getD (t.probeStart h)) | unsupported "internal:set-table-without-an-empty-slot"
    match met with
    | .empty j dummy =>
      match dummy with
      | none => return .free j false
      | some d =>
        if adding && t.slot d != .dummy then rule "set.search.the-dummy-was-taken"; return ← setSearchFrom a x h adding fuel none
        return .free d true
    | .candidate j i next =>
      if !t.led then
        if ← searchCouldBeSeen x ((es.filter (·.1 == h)).toList.map (·.2)) then unsupported "set:the-search-would-show-the-table"
      searchRest a x h adding fuel es t j i next) := by rfl

section
variable {P : Program} {w : World} {A : Around} {E : Value → Shared → Prop} {s : Shared}

/-! ### small questions asked of tuples -/
theorem items_mix {k : List Key} {vs : List Value} (h : ItemsAre (mixKind P w) k vs) : ∀ v ∈ vs, (∃ i t, v = Value.int i t) ∨ ∃ x t, v = Value.str x t := by
  induction h with
  | nil => intro v hv; cases hv
  | @cons k0 v' ks vs h1 _ ih =>
    intro v hv
    rcases List.mem_cons.mp hv with e | hv
    · rcases keyIs_shape h1 with ⟨i, t, _, e2⟩ | ⟨x, t, _, e2⟩
      · exact .inl ⟨i, t, e.trans e2⟩
      · exact .inr ⟨x, t, e.trans e2⟩
    · exact ih v hv
/-- an int is of no class statement, by value -/
theorem ofAClass_int (n : Nat) (i : Int) (t : Tok) : ofAClassStatement n (.int i t) = pure false := by
  cases n <;> rfl
theorem ofAClass_str (n : Nat) (x : Str) (t : Tok) : ofAClassStatement n (.str x t) = pure false := by
  cases n <;> rfl
theorem hashBy_int (n : Nat) (i : Int) (t : Tok) : hashByValue n (.int i t) = pure true := by
  cases n <;> rfl
theorem hashBy_str (n : Nat) (x : Str) (t : Tok) : hashByValue n (.str x t) = pure false := by
  cases n <;> rfl
theorem ofAClass_tup {k : List Key} {b : Addr} {Q : Bool → Shared → Prop} (hk : IsT P w s.heap k b) (h : Q false s) : wpAny (model P w) A (ofAClassStatement 8 (.ref b)) Q E s := by
  have hT := hk.typeIs
  obtain ⟨o, items, n, ho, _, hd, hi⟩ := hk
  unfold ofAClassStatement
  refine wpAny_bind (wpAny_typeOf hT ?_)
  dsimp only
  have e : (("tuple" : String) == "tuple") = true := by decide
  simp only [e, if_true, Bool.not_true, Bool.false_eq_true, if_false]
  try refine wpAny_bind (wpAny_pure ?_)
  try simp only [Bool.not_true, Bool.false_eq_true, if_false]
  show wpAny _ _ (seqItems? (.ref b) >>= _) _ _ s
  refine wpAny_bind (wpAny_seqItems ho hd ?_)
  dsimp only
  refine wpAny_bind ?_
  show wpAny _ _ (forIn items _ _) _ _ s
  rw [← Array.forIn_toList]
  refine wpAny_forIn_list _ (fun rest r s' => r.1 = none ∧ s' = s ∧ ∀ v ∈ rest, (∃ i t, v = Value.int i t) ∨ ∃ x t, v = Value.str x t) _ ?_ ?_ _ _ ⟨rfl, rfl, items_mix hi⟩
  · rintro v rest r s' ⟨hr, rfl, hall⟩
    rcases hall v List.mem_cons_self with ⟨i, t, rfl⟩ | ⟨x, t, rfl⟩
    · rw [ofAClass_int]
      refine wpAny_bind (wpAny_pure ?_)
      simp only [Bool.false_eq_true, if_false]
      exact wpAny_pure ⟨rfl, rfl, fun u hu' => hall u (List.mem_cons_of_mem _ hu')⟩
    · rw [ofAClass_str]
      refine wpAny_bind (wpAny_pure ?_)
      simp only [Bool.false_eq_true, if_false]
      exact wpAny_pure ⟨rfl, rfl, fun u hu' => hall u (List.mem_cons_of_mem _ hu')⟩
  · rintro ⟨r1, r2⟩ s' ⟨hr, rfl, _⟩
    simp only at hr
    subst hr
    exact wpAny_pure h
theorem hashBy_tup {k : List Key} {b : Addr} {Q : Bool → Shared → Prop} (hk : IsT P w s.heap k b) (h : ∀ z, Q z s) : wpAny (model P w) A (hashByValue 8 (.ref b)) Q E s := by
  have hT := hk.typeIs
  obtain ⟨o, items, n, ho, _, hd, hi⟩ := hk
  unfold hashByValue
  refine wpAny_bind (wpAny_specialOf hT F.slot_tuple_hash.lookup ?_)
  show wpAny _ _ (seqItems? (.ref b) >>= _) _ _ s
  refine wpAny_bind (wpAny_seqItems ho hd ?_)
  refine wpAny_bind ?_
  show wpAny _ _ (forIn items _ _) _ _ s
  rw [← Array.forIn_toList]
  refine wpAny_forIn_list _ (fun rest r s' => r.1 = none ∧ s' = s ∧ ∀ v ∈ rest, (∃ i t, v = Value.int i t) ∨ ∃ x t, v = Value.str x t) _ ?_ ?_ _ _ ⟨rfl, rfl, items_mix hi⟩
  · rintro v rest r s' ⟨hr, rfl, hall⟩
    rcases hall v List.mem_cons_self with ⟨i, t, rfl⟩ | ⟨x, t, rfl⟩
    · rw [hashBy_int]
      refine wpAny_bind (wpAny_pure ?_)
      simp only [Bool.not_true, Bool.false_eq_true, if_false]
      exact wpAny_pure ⟨rfl, rfl, fun u hu' => hall u (List.mem_cons_of_mem _ hu')⟩
    · rw [hashBy_str]
      refine wpAny_bind (wpAny_pure ?_)
      simp only [Bool.not_false, if_true]
      exact wpAny_pure (wpAny_pure (h false))
  · rintro ⟨r1, r2⟩ s' ⟨hr, rfl, _⟩
    simp only at hr
    subst hr
    exact wpAny_pure (h true)
/-- a search among tuples shows nothing -/
theorem seen_tup {k : List Key} {b : Addr} {Q : Bool → Shared → Prop} (hk : IsT P w s.heap k b) {ys : List Value} (hy : ∀ y ∈ ys, ∃ k' c, y = Value.ref c ∧ IsT P w s.heap k' c) (h : Q false s) :
    wpAny (model P w) A (searchCouldBeSeen (.ref b) ys) Q E s := by
  unfold searchCouldBeSeen
  refine wpAny_bind ?_
  refine wpAny_forIn_list _ (fun rest r s' => r.1 = none ∧ s' = s ∧ ∀ y ∈ rest, ∃ k' c, y = Value.ref c ∧ IsT P w s.heap k' c) _ ?_ ?_ _ _ ⟨rfl, rfl, hy⟩
  · rintro v rest r s' ⟨hr, rfl, hall⟩
    obtain ⟨k', c, rfl, hc⟩ := hall v List.mem_cons_self
    have rest' : ∀ y ∈ rest, ∃ k' c, y = Value.ref c ∧ IsT P w s'.heap k' c := fun u hu' => hall u (List.mem_cons_of_mem _ hu')
    dsimp only
    by_cases hv : (b == c || (carriedByValue (.ref b) && carriedByValue (.ref c))) = true
    · refine wp_if_pos hv ?_
      exact wpAny_pure ⟨rfl, rfl, rest'⟩
    · refine wp_if_neg hv ?_
      refine wpAny_bind (wpAny_eqIsQuiet_tuple hk ?_)
      simp only [Bool.not_true, Bool.false_eq_true, if_false]
      refine wpAny_bind (wpAny_eqIsQuiet_tuple hc ?_)
      simp only [Bool.not_true, Bool.false_eq_true, if_false]
      refine wpAny_bind (ofAClass_tup hk ?_)
      simp only [Bool.false_eq_true, if_false]
      refine wpAny_bind (ofAClass_tup hc ?_)
      simp only [Bool.false_eq_true, if_false]
      exact wpAny_pure ⟨rfl, rfl, rest'⟩
  · rintro ⟨r1, r2⟩ s' ⟨hr, rfl, _⟩
    simp only at hr
    subst hr
    exact wpAny_pure h

/-! ### the set of tuples -/
def rowsOf (P : Program) (w : World) (L : List (Addr × List Key)) : List (Int × Value) := L.map fun p => (thash P w p.2, Value.ref p.1)
structure SetTR (P : Program) (w : World) (h : Heap) (a : Addr) (L : List (Addr × List Key)) (es : Array (Int × Value)) (ep : Nat) (t : SetTable) : Prop where
  ob : ∃ o, h.get? a = some o ∧ o.ExactSet ∧ o.data = .set es ep t
  rows : es.toList = rowsOf P w L
  tab : TabOk t (L.map fun p => thash P w p.2)
  nd : (L.map (·.2)).Nodup
  tup : ∀ p ∈ L, IsT P w h p.2 p.1
  led : w.params.followText "set-order" = true ∨ t.led = true
  room : L.length * 5 < t.mask * 3
  few : L.length < 300
variable {a : Addr} {L : List (Addr × List Key)} {es : Array (Int × Value)} {ep : Nat} {t : SetTable}
theorem SetTR.size (R : SetTR P w s.heap a L es ep t) : es.size = L.length := by
  have h := congrArg List.length R.rows
  unfold rowsOf at h
  rw [Array.length_toList, List.length_map] at h
  exact h
theorem SetTR.fits (R : SetTR P w s.heap a L es ep t) : t.fits es.size = true := by
  have h1 := R.tab.sz
  rw [List.length_map] at h1
  have h2 := R.size
  have h3 := R.room
  unfold SetTable.fits SetTable.fill
  rw [R.tab.dm, Bool.and_eq_true, beq_iff_eq, decide_eq_true_eq]
  show t.place.size = es.size ∧ t.place.size + 0 ≤ t.mask
  omega
theorem SetTR.entry (R : SetTR P w s.heap a L es ep t) {i : Nat} {p : Addr × List Key} (h : L[i]? = some p) : es[i]? = some (thash P w p.2, Value.ref p.1) := by
  rw [← Array.getElem?_toList, R.rows]
  unfold rowsOf
  rw [List.getElem?_map, h] <;> rfl
theorem SetTR.gw (R : SetTR P w s.heap a L es ep t) : ¬ t.gaveWay = true := by
  unfold SetTable.gaveWay
  rw [mask_odd R.tab.mok]
  decide
theorem sameMem (t : SetTable) : t.sameMemory t.moves t.mask = some true := by
  unfold SetTable.sameMemory
  rw [if_pos (beq_self_eq_true _)]

/-- THE SEARCH: from the c-th step of the way on -/
theorem search_from (R : SetTR P w s.heap a L es ep t) {x : Addr} {k : List Key} (hx : IsT P w s.heap k x) (hu : A.units < cLine) {K : Nat} (hKf : K < 10 * SetTable.turns t.mask)
    (hK : way t.mask (thash P w k) K ∉ t.place.toList) (hKb : ∀ c, c < K → way t.mask (thash P w k) c ∈ t.place.toList) {Q : SetFound → Shared → Prop}
    (hin : k ∈ L.map (·.2) → Q (.there none) s) (hout : k ∉ L.map (·.2) → Q (.free (way t.mask (thash P w k) K) false) s) :
    ∀ (f c : Nat) (stand : Option SetTable.Probe), stand.getD (t.probeStart (thash P w k)) = nth t.mask (runAt t.mask (SetTable.bits (thash P w k) % (t.mask + 1)) (SetTable.bits (thash P w k))) c → c ≤ K → K - c < f →
      (∀ (i : Nat) p, L[i]? = some p → p.2 = k → ∃ c', c ≤ c' ∧ c' < K ∧ t.place.toList[i]? = some (way t.mask (thash P w k) c')) →
      wpAny (model P w) A (setSearchFrom a (.ref x) (thash P w k) true f stand) Q E s
  | 0, c, stand, _, _, hf, _ => absurd hf (Nat.not_lt_zero _)
  | f + 1, c, stand, hst, hc, hf, hre => by
    obtain ⟨o, ho, hex, hd⟩ := R.ob
    rw [setSearchFrom_succ]
    refine wpAny_bind (wpAny_setState_of ho hd R.fits ?_)
    dsimp only
    refine wp_if_neg R.gw ?_
    try refine wpAny_bind (wpAny_pure ?_)
    have hnd : (nth t.mask (runAt t.mask (SetTable.bits (thash P w k) % (t.mask + 1)) (SetTable.bits (thash P w k))) c).dummy = none := by
      have key : ∀ (n : Nat) (p : SetTable.Probe), p.dummy = none → (nth t.mask p n).dummy = none := by
        intro n
        induction n with
        | zero => intro p h; exact h
        | succ n ih =>
          intro p h
          refine ih (adv t.mask p) ?_
          unfold adv
          split <;> exact h
      exact key c _ rfl
    have sh : ∀ q, nth t.mask (nth t.mask (runAt t.mask (SetTable.bits (thash P w k) % (t.mask + 1)) (SetTable.bits (thash P w k))) c) q = nth t.mask (runAt t.mask (SetTable.bits (thash P w k) % (t.mask + 1)) (SetTable.bits (thash P w k))) (c + q) := fun q => (nth_add t.mask c _ q).symm
    have e1 : ∀ q, (nth t.mask (nth t.mask (runAt t.mask (SetTable.bits (thash P w k) % (t.mask + 1)) (SetTable.bits (thash P w k))) c) q).j = way t.mask (thash P w k) (c + q) := fun q => congrArg SetTable.Probe.j (sh q)
    have spec := go_spec t R.tab.ris R.tab.dm (fun i => (es[i]?.map (·.1)).getD 0) (thash P w k) (10 * SetTable.turns t.mask) (K - c) _ hnd (by omega)
      (fun q hq => by rw [e1]; exact hKb (c + q) (by omega)) (by rw [e1, show c + (K - c) = K by omega]; exact hK)
    have hashAt : ∀ (i : Nat) p, L[i]? = some p → (fun i => (es[i]?.map (·.1)).getD 0) i = thash P w p.2 := fun i p hp => by
      show (es[i]?.map (·.1)).getD 0 = _
      rw [R.entry hp] <;> rfl
    rcases spec with ⟨q, i, hq, hi, hh, hno, hpr⟩ | ⟨hno, hpr⟩
    · -- a candidate
      have hpr' : t.probe (fun i => (es[i]?.map (·.1)).getD 0) (thash P w k) (stand.getD (t.probeStart (thash P w k))) = some (.candidate (way t.mask (thash P w k) (c + q)) i (nth t.mask (runAt t.mask (SetTable.bits (thash P w k) % (t.mask + 1)) (SetTable.bits (thash P w k))) (c + (q + 1)))) := by
        rw [hst, ← e1, ← sh]
        exact hpr
      rw [hpr']
      dsimp only
      rw [e1] at hi
      -- the entry
      have hil : i < L.length := by
        have h1 : i < t.place.toList.length := (List.getElem?_eq_some_iff.mp hi).1
        have h2 := R.tab.sz
        rw [List.length_map] at h2
        rw [Array.length_toList] at h1
        omega
      have hp : L[i]? = some L[i] := List.getElem?_eq_getElem hil
      generalize hpe : L[i] = p at hp
      have hmem : p ∈ L := List.mem_of_getElem? hp
      have hpt := R.tup p hmem
      have rest : wpAny (model P w) A (searchRest a (.ref x) (thash P w k) true f es t (way t.mask (thash P w k) (c + q)) i (nth t.mask (runAt t.mask (SetTable.bits (thash P w k) % (t.mask + 1)) (SetTable.bits (thash P w k))) (c + (q + 1)))) Q E s := by
        unfold searchRest
        rw [R.entry hp]
        dsimp only
        refine wpAny_bind (wpAny_holding (wpAny_eqBool_tuple hu hpt hx ?_))
        refine wpAny_bind (wpAny_setState_of ho hd R.fits ?_)
        dsimp only
        by_cases hkk : p.2 = k
        · refine wp_if_pos (by simp [hkk]) ?_
          refine wpAny_pure (hin ?_)
          exact List.mem_map.mpr ⟨p, hmem, hkk⟩
        · refine wp_if_neg (by simp [hkk]) ?_
          try refine wpAny_bind (wpAny_pure ?_)
          rw [sameMem]
          dsimp only
          have hsl : t.slot (way t.mask (thash P w k) (c + q)) = .live i := slot_live R.tab.ris hi
          simp only [if_true, hsl, R.entry hp]
          refine wpAny_bind (wpAny_isSame_ref_self (wpAny_bind (wpAny_pure ?_)))
          simp only [if_true]
          refine wp_if_neg (by simp [hkk]) ?_
          refine search_from R hx hu hKf hK hKb hin hout f (c + (q + 1)) _ rfl (by omega) (by omega) fun i0 p0 h0 hk0 => ?_
          obtain ⟨c', a1, a2, a3⟩ := hre i0 p0 h0 hk0
          refine ⟨c', ?_, a2, a3⟩
          -- it isn't passed
          rcases Nat.lt_or_ge c' (c + q) with z | z
          · exfalso
            refine hno (c' - c) i0 (by omega) (by rw [e1, show c + (c' - c) = c' by omega]; exact a3) ?_
            exact (hashAt i0 p0 h0).trans (congrArg (thash P w) hk0)
          · rcases Nat.lt_or_ge (c + q) c' with y | y
            · omega
            · exfalso
              have ec : c' = c + q := Nat.le_antisymm y z
              rw [ec] at a3
              have s0 := slot_live R.tab.ris a3
              rw [hsl] at s0
              injection s0 with s0
              rw [← s0, hp] at h0
              exact hkk ((congrArg Prod.snd (Option.some.inj h0)).trans hk0)
      by_cases hl : t.led = true
      · refine wp_if_neg (by simp [hl]) ?_
        try refine wpAny_bind (wpAny_pure ?_)
        exact rest
      · refine wp_if_pos (by simp [hl]) ?_
        refine wpAny_bind (seen_tup hx (fun y hy => ?_) ?_)
        · obtain ⟨e, he, ee⟩ := List.mem_map.mp hy
          have he1 : e ∈ es ∧ e.1 = thash P w k := by simpa using he
          have he2 : e ∈ es.toList := by simpa using he1.1
          rw [R.rows] at he2
          obtain ⟨p2, hp2, e2⟩ := List.mem_map.mp he2
          refine ⟨p2.2, p2.1, ?_, R.tup p2 hp2⟩
          rw [← ee, ← e2]
        · refine wp_if_neg (by decide) ?_
          try refine wpAny_bind (wpAny_pure ?_)
          exact rest
    · -- the empty slot
      have hpr' : t.probe (fun i => (es[i]?.map (·.1)).getD 0) (thash P w k) (stand.getD (t.probeStart (thash P w k))) = some (.empty (way t.mask (thash P w k) K) none) := by
        have e2 : way t.mask (thash P w k) K = (nth t.mask (nth t.mask (runAt t.mask (SetTable.bits (thash P w k) % (t.mask + 1)) (SetTable.bits (thash P w k))) c) (K - c)).j := by
          rw [e1, show c + (K - c) = K by omega]
        rw [hst, e2]
        exact hpr
      rw [hpr']
      dsimp only
      refine wpAny_pure (hout fun hm => ?_)
      obtain ⟨p0, h0, hk0⟩ := List.mem_map.mp hm
      obtain ⟨i0, hi0, e0⟩ := List.getElem_of_mem h0
      have h00 : L[i0]? = some p0 := by rw [List.getElem?_eq_getElem hi0, e0]
      obtain ⟨c', a1, a2, a3⟩ := hre i0 p0 h00 hk0
      refine hno (c' - c) i0 (by omega) (by rw [e1, show c + (c' - c) = c' by omega]; exact a3) ?_
      exact (hashAt i0 p0 h00).trans (congrArg (thash P w) hk0)

/-- the search as adding asks for it -/
theorem search_at (R : SetTR P w s.heap a L es ep t) {x : Addr} {k : List Key} (hx : IsT P w s.heap k x) (hu : A.units < cLine) {Q : SetFound → Shared → Prop}
    (hin : k ∈ L.map (·.2) → Q (.there none) s)
    (hout : ∀ K, k ∉ L.map (·.2) → way t.mask (thash P w k) K ∉ t.place.toList → (∀ c, c < K → way t.mask (thash P w k) c ∈ t.place.toList) → Q (.free (way t.mask (thash P w k) K) false) s) :
    wpAny (model P w) A (setSearch a (.ref x) (thash P w k) true) Q E s := by
  have hroom := R.room
  obtain ⟨K, hKf, hK, hKb⟩ := R.tab.first (by rw [List.length_map]; omega) (thash P w k)
  have hbig : K < 100000 := by
    have : 10 * SetTable.turns t.mask ≤ 5260 := by
      unfold SetTable.turns
      rcases R.tab.mok with e | e | e | e <;> omega
    omega
  unfold setSearch
  refine search_from R hx hu hKf hK hKb hin (fun hn => hout K hn hK hKb) 100000 0 none rfl (Nat.zero_le _) (by omega) fun i p hp hk => ?_
  have hi : (L.map fun p => thash P w p.2)[i]? = some (thash P w k) := by rw [List.getElem?_map, hp, ← hk] <;> rfl
  have hil : i < t.place.toList.length := by
    have h1 : i < L.length := (List.getElem?_eq_some_iff.mp hp).1
    have h2 := R.tab.sz
    rw [List.length_map] at h2
    rw [Array.length_toList]
    omega
  have hj := List.getElem?_eq_getElem hil
  obtain ⟨c, hc, e⟩ := R.tab.before hK hi hj
  exact ⟨c, Nat.zero_le _, hc, by rw [hj, e]⟩
end
end STK

namespace STK
open PySem PySem.Spec PyProof.Rows L2
theorem setAddHashedIn_succ (a : Addr) (x : Value) (h : Int) (fuel : Nat) : setAddHashedIn a x h (fuel + 1) = (do
    let (es₀, _, t₀) ← setState a
    if byScan x es₀ then
      match ← setAddByScan a x h es₀ t₀ with
      | some added => return added
      | none => return ← setAddHashedIn a x h fuel
    let .free slot wasDummy ← setSearch a x h (adding := true) | return false
    let (es, _, t) ← setState a
    let (t, p) := t.put slot
    let byValue ← if t.plain then hashByValue 8 x else pure true
    let t := if byValue then t else { t with plain := false }
    storeSet a (SetTable.insertAt es p (h, x)) t
    if !wasDummy && t.tooFull then setRelay a (SetTable.grown (es.size + 1))
    return true) := by rfl
theorem setRelay_eq (a : Addr) (wanted : Nat) : setRelay a wanted = (do
    let (es, _, t) ← setState a
    if SetTable.sizeAbove wanted > sizeLine then unsupported "set:memory"
    let (es, t) ← (do
      let some (t, order) := t.relaid (es.map (·.1)) wanted | unsupported "internal:set-table-without-room"
      let es' := order.filterMap (es[·]?)
      if es'.size != es.size then unsupported "internal:set-table-lost-an-element"
      pure (es', t) : Sem (Array (Int × Value) × SetTable))
    storeSet a es t) := by rfl

section
variable {P : Program} {w : World} {A : Around} {E : Value → Shared → Prop} {s : Shared}
/-- a tuple isn't the set -/
theorem isT_same {h h' : Heap} {k : List Key} {a b : Addr} {o : Obj} {es : Array (Int × Value)} {ep : Nat} {t : SetTable} (hb : IsT P w h k b) (ho : h.get? a = some o) (hd : o.data = .set es ep t) (hs : Heap.SameBut a h h') : IsT P w h' k b := by
  obtain ⟨o', items, n, ho', hc, hd', hi⟩ := hb
  have hne : b ≠ a := by
    rintro rfl
    obtain rfl : o' = o := Option.some.inj (ho'.symm.trans ho)
    rw [hd] at hd'
    exact nomatch hd'
  exact ⟨o', items, n, (hs.2 b hne).trans ho', hc, hd', hi⟩
theorem rows_put (L : List (Addr × List Key)) (p : Nat) (x : Addr) (k : List Key) : rowsOf P w (L.take p ++ (x, k) :: L.drop p) = (rowsOf P w L).take p ++ (thash P w k, Value.ref x) :: (rowsOf P w L).drop p := by
  unfold rowsOf
  rw [List.map_append, List.map_cons, List.map_take, List.map_drop]
theorem put_perm {α : Type} (L : List α) (p : Nat) (x : α) : (L.take p ++ x :: L.drop p).Perm (x :: L) := by
  have h : (L.take p ++ x :: L.drop p).Perm (x :: (L.take p ++ L.drop p)) := List.perm_middle
  rw [List.take_append_drop] at h
  exact h
theorem order_rows (L : List (Addr × List Key)) (es : Array (Int × Value)) (order : Array Nat) (hr : es.toList = rowsOf P w L) (hp : order.toList.Perm (List.range L.length)) :
    ∃ L2, (order.filterMap (es[·]?)).toList = rowsOf P w L2 ∧ L2.Perm L ∧ (L2.map fun p => thash P w p.2) = order.toList.map fun i => (es.map (·.1)).getD i 0 := by
  have hsz : es.size = L.length := by
    have h := congrArg List.length hr
    unfold rowsOf at h
    rw [Array.length_toList, List.length_map] at h
    exact h
  have ent : ∀ i (h : i < L.length), es[i]? = some (thash P w (L[i]).2, Value.ref (L[i]).1) := fun i h => by
    rw [← Array.getElem?_toList, hr]
    unfold rowsOf
    rw [List.getElem?_map, List.getElem?_eq_getElem h] <;> rfl
  have key : ∀ l : List Nat, (∀ i ∈ l, i < L.length) → ∃ L2 : List (Addr × List Key), l.filterMap (fun i => es[i]?) = rowsOf P w L2 ∧ L2 = l.filterMap (fun i => L[i]?) ∧ (L2.map fun p => thash P w p.2) = l.map fun i => (es.map (·.1)).getD i 0 := by
    intro l
    induction l with
    | nil => intro _; exact ⟨[], rfl, rfl, rfl⟩
    | cons i l ih =>
      intro hl
      have hi := hl i List.mem_cons_self
      obtain ⟨L2, e1, e2, e3⟩ := ih fun j hj => hl j (List.mem_cons_of_mem _ hj)
      refine ⟨L[i] :: L2, ?_, ?_, ?_⟩
      · rw [List.filterMap_cons_some (ent i hi), e1] <;> rfl
      · rw [List.filterMap_cons_some (List.getElem?_eq_getElem hi), e2]
      · rw [List.map_cons, List.map_cons, e3]
        have hi2 : i < (es.map (·.1)).size := by rw [Array.size_map, hsz]; exact hi
        have e4 : (es.map (·.1)).getD i 0 = thash P w (L[i]).2 := by
          have e5 : (es.map (·.1))[i]? = some (thash P w (L[i]).2) := by rw [Array.getElem?_map, ent i hi] <;> rfl
          simp [Array.getD_eq_getD_getElem?, e5]
        rw [e4]
  obtain ⟨L2, e1, e2, e3⟩ := key order.toList fun i hi => List.mem_range.mp (hp.mem_iff.mp hi)
  refine ⟨L2, by first | (rw [Array.toList_filterMap]; exact e1) | simpa using e1, ?_, e3⟩
  have h1 : L2.Perm ((List.range L.length).filterMap fun i => L[i]?) := by
    rw [e2]
    exact hp.filterMap _
  have h2 : (List.range L.length).filterMap (fun i => L[i]?) = L := by
    have key2 : ∀ n, n ≤ L.length → (List.range n).filterMap (fun i => L[i]?) = L.take n := by
      intro n
      induction n with
      | zero => intro _; rfl
      | succ n ih =>
        intro hn
        have hlt : n < L.length := hn
        rw [List.range_succ, List.filterMap_append, ih (Nat.le_of_lt hlt), List.take_succ, List.getElem?_eq_getElem hlt]
        rw [List.filterMap_cons_some (List.getElem?_eq_getElem hlt)] <;> rfl
    rw [key2 L.length (Nat.le_refl _), List.take_length]
  rw [h2] at h1
  exact h1

variable {a : Addr} {L : List (Addr × List Key)} {es : Array (Int × Value)} {ep : Nat} {t : SetTable}
/-- the table laid anew, larger -/
theorem relay_at {o : Obj} (ho : s.heap.get? a = some o) (hex : o.ExactSet) (hd : o.data = .set es ep t) (hrows : es.toList = rowsOf P w L) (hsz : t.place.size = es.size) (hdm : t.dummies = #[]) (hfl : es.size ≤ t.mask)
    (nd : (L.map (·.2)).Nodup) (tup : ∀ p ∈ L, IsT P w s.heap p.2 p.1) (ld : w.params.followText "set-order" = true ∨ t.led = true) (few : L.length < 300) {wanted M : Nat}
    (hw : SetTable.sizeAbove wanted - 1 = M) (hM : MaskOk M) (hw2 : SetTable.sizeAbove wanted ≤ 512) (hn : L.length * 5 < M * 3) {Q : Unit → Shared → Prop}
    (hQ : ∀ h' L' es' ep' t', Heap.SameBut a s.heap h' → SetTR P w h' a L' es' ep' t' → L'.Perm L → Q () { s with heap := h' }) : wpAny (model P w) A (setRelay a wanted) Q E s := by
  have hsl : es.size = L.length := by
    have h := congrArg List.length hrows
    unfold rowsOf at h
    rw [Array.length_toList, List.length_map] at h
    exact h
  have hfits : t.fits es.size = true := by
    unfold SetTable.fits SetTable.fill
    rw [hdm, Bool.and_eq_true, beq_iff_eq, decide_eq_true_eq]
    show t.place.size = es.size ∧ t.place.size + 0 ≤ t.mask
    omega
  obtain ⟨t', order, e, hp, T, em, el, ep', ed⟩ := relaid_ok t (hs := es.map (·.1)) (wanted := wanted) hw hM (by rw [Array.size_map, hsl]; omega)
  rw [Array.size_map, hsl] at hp
  obtain ⟨L2, r1, r2, r3⟩ := order_rows L es order hrows hp
  rw [← r3] at T
  have hs2 : (order.filterMap (es[·]?)).size = es.size := by
    have h := congrArg List.length r1
    unfold rowsOf at h
    rw [Array.length_toList, List.length_map, r2.length_eq] at h
    rw [h, hsl]
  rw [setRelay_eq]
  refine wpAny_bind (wpAny_setState_of ho hd hfits ?_)
  dsimp only
  refine wp_if_neg (by rw [sizeLine_eq]; omega) ?_
  try refine wpAny_bind (wpAny_pure ?_)
  rw [e]
  dsimp only
  refine wpAny_bind ?_
  refine wp_if_neg (by rw [hs2]; simp) ?_
  try refine wpAny_bind (wpAny_pure ?_)
  refine wpAny_pure ?_
  dsimp only
  refine wpAny_storeSet_of ho hd ?_ (by rw [hs2, hsl, sizeLine_eq]; omega)
  have sb : Heap.SameBut a s.heap (s.heap.update a (Obj.putSet (order.filterMap (es[·]?)) t')) := Heap.SameBut.update ..
  refine hQ _ L2 (order.filterMap (es[·]?)) (ep + 1) t' sb ?_ r2
  refine ⟨⟨_, store_at ho hd, ⟨hex.1, hex.2.1, hex.2.2⟩, rfl⟩, r1, T, ?_, fun p hpm => isT_same (tup p (r2.mem_iff.mp hpm)) ho hd sb, by rw [el]; exact ld, ?_, by rw [r2.length_eq]; exact few⟩
  · exact (r2.map (·.2)).nodup_iff.mpr nd
  · rw [r2.length_eq, em]
    exact hn

/-- ADDING -/
theorem add_at (R : SetTR P w s.heap a L es ep t) {x : Addr} {k : List Key} (hx : IsT P w s.heap k x) (hu : A.units < cLine) (hfew : L.length + 1 < 300) {Q : Bool → Shared → Prop}
    (hQ : ∀ b h' L' es' ep' t', Heap.SameBut a s.heap h' → SetTR P w h' a L' es' ep' t' → (k ∈ L.map (·.2) → L' = L) → (k ∉ L.map (·.2) → L'.Perm ((x, k) :: L)) → Q b { s with heap := h' }) :
    wpAny (model P w) A (setAddHashed a (.ref x) (thash P w k)) Q E s := by
  obtain ⟨o, ho, hex, hd⟩ := R.ob
  have hsl := R.size
  have hroom := R.room
  unfold setAddHashed
  refine wpAny_holding ?_
  rw [show (100000 : Nat) = 99999 + 1 from rfl, setAddHashedIn_succ]
  refine wpAny_bind (wpAny_setState_of ho hd R.fits ?_)
  dsimp only
  refine wp_if_neg (by simp [byScan, Value.scannable]) ?_
  try refine wpAny_bind (wpAny_pure ?_)
  refine wpAny_bind (search_at R hx hu (fun hm => ?_) fun K hm hK hb => ?_)
  · dsimp only
    exact wpAny_pure (hQ false s.heap L es ep t (Heap.SameBut.refl a s.heap) R (fun _ => rfl) fun z => absurd hm z)
  · dsimp only
    refine wpAny_bind (wpAny_setState_of ho hd R.fits ?_)
    dsimp only
    obtain ⟨q1, q2, q3, q4, q5, q6, q7, q8, q9⟩ := R.tab.put hK hb
    generalize hpt : t.put (way t.mask (thash P w k) K) = pt at q1 q3 q4 q5 q6 q7 q8 q9 ⊢
    obtain ⟨t1, p⟩ := pt
    dsimp only at q1 q3 q4 q5 q6 q7 q8 q9 ⊢
    subst q1
    have both : ∀ {β : Type} {g : Bool → Sem β} {Q1 : β → Shared → Prop}, (∀ z, wpAny (model P w) A (g z) Q1 E s) → wpAny (model P w) A (if t1.plain = true then hashByValue 8 (.ref x) >>= g else pure true >>= g) Q1 E s := fun {β g Q1} hg => by
      by_cases hpl : t1.plain = true
      · rw [if_pos hpl]; exact wpAny_bind (hashBy_tup hx hg)
      · rw [if_neg hpl]; exact wpAny_bind (wpAny_pure (hg true))
    refine both fun z => ?_
    obtain ⟨t2, e2, k3, k4, k5, k9⟩ : ∃ t2, (if z = true then t1 else { t1 with plain := false }) = t2 ∧ TabOk t2 ((L.map fun p => thash P w p.2).take (SetTable.below t.place (way t.mask (thash P w k) K)) ++ thash P w k :: (L.map fun p => thash P w p.2).drop (SetTable.below t.place (way t.mask (thash P w k) K))) ∧ t2.mask = t1.mask ∧ t2.led = t1.led ∧ t2.fill = t1.fill := by
      cases z with
      | true => exact ⟨t1, rfl, q3, rfl, rfl, rfl⟩
      | false => exact ⟨_, rfl, ⟨q3.ris, q3.dm, q3.sz, q3.mok, q3.bd, q3.reach⟩, rfl, rfl, rfl⟩
    rw [e2]
    rw [← k4] at q4
    rw [← k5] at q5
    rw [← k9] at q9
    replace q3 := k3
    have hin : (SetTable.insertAt es (SetTable.below t.place (way t.mask (thash P w k) K)) (thash P w k, Value.ref x)).toList = rowsOf P w (L.take (SetTable.below t.place (way t.mask (thash P w k) K)) ++ (x, k) :: L.drop (SetTable.below t.place (way t.mask (thash P w k) K))) := by
      rw [SetTable.toList_insertAt, rows_put, R.rows]
    generalize hpp : SetTable.below t.place (way t.mask (thash P w k) K) = p at q2 q3 hin ⊢
    have pm := put_perm L p (x, k)
    have hlen : (L.take p ++ (x, k) :: L.drop p).length = L.length + 1 := pm.length_eq
    have hhs : (L.take p ++ (x, k) :: L.drop p).map (fun p => thash P w p.2) = (L.map fun p => thash P w p.2).take p ++ thash P w k :: (L.map fun p => thash P w p.2).drop p := by
      rw [List.map_append, List.map_cons, List.map_take, List.map_drop]
    rw [← hhs] at q3
    have nd1 : ((L.take p ++ (x, k) :: L.drop p).map (·.2)).Nodup := by
      refine (pm.map (·.2)).nodup_iff.mpr ?_
      rw [List.map_cons]
      exact List.nodup_cons.mpr ⟨hm, R.nd⟩
    have hes : (SetTable.insertAt es p (thash P w k, Value.ref x)).size = L.length + 1 := by
      have h := congrArg List.length hin
      unfold rowsOf at h
      rw [Array.length_toList, List.length_map, hlen] at h
      exact h
    generalize SetTable.insertAt es p (thash P w k, Value.ref x) = es1 at hin hes ⊢
    generalize L.take p ++ (x, k) :: L.drop p = L1 at pm hlen q3 nd1 hin
    refine wpAny_bind (wpAny_storeSet_of ho hd ?_ (by rw [hes, sizeLine_eq]; omega))
    have sb : Heap.SameBut a s.heap (s.heap.update a (Obj.putSet es1 t2)) := Heap.SameBut.update ..
    have ho1 := store_at (es' := es1) (t' := t2) ho hd
    generalize s.heap.update a (Obj.putSet es1 t2) = h1 at sb ho1 ⊢
    have tup1 : ∀ p ∈ L1, IsT P w h1 p.2 p.1 := fun p hp => by
      rcases List.mem_cons.mp (pm.mem_iff.mp hp) with e | hp
      · rw [e]; exact isT_same hx ho hd sb
      · exact isT_same (R.tup p hp) ho hd sb
    have ld1 : w.params.followText "set-order" = true ∨ t2.led = true := by rw [q5]; exact R.led
    by_cases hf : t2.tooFull = true
    · first
        | (refine wpAny_bind ?_; refine wp_if_pos (by simp [hf]) ?_)
        | (refine wp_if_pos (by simp [hf]) ?_; refine wpAny_bind ?_)
      have hfull : (L.length + 1) * 5 ≥ t2.mask * 3 := by
        have h := hf
        unfold SetTable.tooFull at h
        rw [decide_eq_true_eq, q9, List.length_map] at h
        exact h
      rw [hsl]
      have hsz1 : t2.place.size = es1.size := by
        have h := q3.sz
        rw [List.length_map, hlen] at h
        rw [h, hes]
      have cases2 : (t.mask = 7 ∧ L.length = 4) ∨ (t.mask = 31 ∧ L.length = 18) ∨ (t.mask = 127 ∧ L.length = 76) := by
        rcases R.tab.mok with e | e | e | e
        · left; rw [q4, e] at hfull; rw [e] at hroom; exact ⟨e, by omega⟩
        · right; left; rw [q4, e] at hfull; rw [e] at hroom; exact ⟨e, by omega⟩
        · right; right; rw [q4, e] at hfull; rw [e] at hroom; exact ⟨e, by omega⟩
        · exfalso; rw [q4, e] at hfull; omega
      have go : ∀ M, SetTable.sizeAbove (SetTable.grown (L.length + 1)) - 1 = M → MaskOk M → SetTable.sizeAbove (SetTable.grown (L.length + 1)) ≤ 512 → (L.length + 1) * 5 < M * 3 →
          wpAny (model P w) A (setRelay a (SetTable.grown (L.length + 1))) (fun _ s' => wpAny (model P w) A (pure true) Q E s') E { s with heap := h1 } := fun M h1' h2' h3' h4' => by
        refine relay_at (s := { s with heap := h1 }) ho1 ⟨hex.1, hex.2.1, hex.2.2⟩ rfl hin hsz1 q3.dm (by rw [hes, q4]; rcases cases2 with ⟨e, e2⟩ | ⟨e, e2⟩ | ⟨e, e2⟩ <;> omega) nd1 tup1 ld1 (by rw [hlen]; exact hfew) h1' h2' h3' (by rw [hlen]; exact h4') ?_
        intro h2 L2 es2 ep2 t3 sb2 R2 pm2
        refine wpAny_pure (hQ true h2 L2 es2 ep2 t3 (sb.trans sb2) R2 (fun z => absurd z hm) fun _ => pm2.trans pm)
      rcases cases2 with ⟨_, e2⟩ | ⟨_, e2⟩ | ⟨_, e2⟩
      · refine go 31 (by rw [e2, size_20]) (.inr (.inl rfl)) (by rw [e2, size_20]; decide) (by omega)
      · refine go 127 (by rw [e2, size_76]) (.inr (.inr (.inl rfl))) (by rw [e2, size_76]; decide) (by omega)
      · refine go 511 (by rw [e2, size_308]) (.inr (.inr (.inr rfl))) (by rw [e2, size_308]; decide) (by omega)
    · first
        | refine wp_if_neg (by simp [hf]) ?_
        | (refine wpAny_bind ?_; refine wp_if_neg (by simp [hf]) ?_; refine wpAny_pure ?_)
      refine wpAny_pure (hQ true h1 L1 es1 (ep + 1) t2 sb ⟨⟨_, ho1, ⟨hex.1, hex.2.1, hex.2.2⟩, rfl⟩, hin, q3, nd1, tup1, ld1, ?_, by rw [hlen]; exact hfew⟩ (fun z => absurd z hm) fun _ => pm)
      have h := hf
      unfold SetTable.tooFull at h
      rw [decide_eq_true_eq, q9, List.length_map] at h
      rw [hlen]
      omega
end
end STK

namespace STK
open PySem PySem.Spec PyProof.Rows L2

theorem nodup_of_map {α β : Type} {f : α → β} {l : List α} (h : (l.map f).Nodup) : l.Nodup := List.Pairwise.of_map f (fun _ _ hne e => hne (congrArg f e)) h
/-- what the set has got from the first i items -/
structure Got (ks : List (Addr × List Key)) (i : Nat) (L : List (Addr × List Key)) : Prop where
  sub : ∀ p ∈ L, p ∈ ks.take i
  all : ∀ p ∈ ks.take i, p.2 ∈ L.map (·.2)
  len : L.length ≤ i
theorem Got.zero (ks : List (Addr × List Key)) : Got ks 0 [] := ⟨fun p h => (by cases h), fun p h => (by simp at h), Nat.le_refl _⟩
theorem take_next {α : Type} {l : List α} {i : Nat} {x : α} (h : l[i]? = some x) : l.take (i + 1) = l.take i ++ [x] := by
  rw [List.take_succ, h] <;> rfl
theorem Got.same {ks L : List (Addr × List Key)} {i : Nat} {x : Addr × List Key} (g : Got ks i L) (h : ks[i]? = some x) (hm : x.2 ∈ L.map (·.2)) : Got ks (i + 1) L := by
  refine ⟨fun p hp => ?_, fun p hp => ?_, Nat.le_succ_of_le g.len⟩
  · rw [take_next h]
    exact List.mem_append_left _ (g.sub p hp)
  · rw [take_next h] at hp
    rcases List.mem_append.mp hp with z | z
    · exact g.all p z
    · rw [List.mem_singleton.mp z]; exact hm
theorem Got.more {ks L L' : List (Addr × List Key)} {i : Nat} {x : Addr × List Key} (g : Got ks i L) (h : ks[i]? = some x) (pm : L'.Perm (x :: L)) : Got ks (i + 1) L' := by
  refine ⟨fun p hp => ?_, fun p hp => ?_, ?_⟩
  · rw [take_next h]
    rcases List.mem_cons.mp (pm.mem_iff.mp hp) with e | z
    · rw [e]; exact List.mem_append_right _ (List.mem_singleton.mpr rfl)
    · exact List.mem_append_left _ (g.sub p z)
  · rw [(pm.map (·.2)).mem_iff, List.map_cons]
    rw [take_next h] at hp
    rcases List.mem_append.mp hp with z | z
    · exact List.mem_cons_of_mem _ (g.all p z)
    · rw [List.mem_singleton.mp z]; exact List.mem_cons_self
  · rw [pm.length_eq, List.length_cons]
    exact Nat.succ_le_succ g.len

section
variable {P : Program} {w : World} {A : Around} {E : Value → Shared → Prop} {s : Shared}
theorem isT_keep {h h' : Heap} {k : List Key} {b : Addr} (x : IsT P w h k b) (hk : ∀ c o, h.get? c = some o → h'.get? c = some o) : IsT P w h' k b := by
  obtain ⟨o, items, n, ho, r⟩ := x
  exact ⟨o, items, n, hk b o ho, r⟩
theorem SetTR.keep {h h' : Heap} {a : Addr} {L : List (Addr × List Key)} {es : Array (Int × Value)} {ep : Nat} {t : SetTable} (R : SetTR P w h a L es ep t) (ha : ∀ o, h.get? a = some o → h'.get? a = some o) (ht : ∀ p ∈ L, IsT P w h' p.2 p.1) : SetTR P w h' a L es ep t := by
  obtain ⟨o, ho, r⟩ := R.ob
  exact ⟨⟨o, ha o ho, r⟩, R.rows, R.tab, R.nd, ht, R.led, R.room, R.few⟩
/-- a new set -/
theorem setTR_fresh {h : Heap} {a : Addr} (ho : h.get? a = some { cls := .type "set", dict := none, data := .set #[] 0 (.fresh 0 0 (!w.params.followText "set-order")) }) : SetTR P w h a [] #[] 0 (.fresh 0 0 (!w.params.followText "set-order")) where
  ob := ⟨_, ho, ⟨rfl, rfl, rfl⟩, rfl⟩
  rows := rfl
  tab := ⟨List.Pairwise.nil, rfl, rfl, .inl rfl, fun x hx => (by cases hx), fun i h j hi => (by simp at hi)⟩
  nd := List.nodup_nil
  tup := fun p hp => (by cases hp)
  led := by
    show _ ∨ (!w.params.followText "set-order") = true
    cases w.params.followText "set-order"
    · exact .inr rfl
    · exact .inl rfl
  room := by
    show 0 * 5 < 7 * 3
    decide
  few := by
    show 0 < 300
    decide

/-- set.update's loop -/
theorem set_update_tups {I : Addr} {fp wr : List Addr} {G : Array GenState → Array GenState → Prop} {n : Nat} {Pv : Nat → Value → Prop} {St : Nat → Shared → Prop} {R : Result → Shared → Prop}
    (W : WalksS P w A.in1 I fp wr G n Pv St) (S : Addr) (hSf : S ∉ fp) (ks : List (Addr × List Key)) (hn : n = ks.length) (hfew : ks.length < 300) (hval : ∀ i v, Pv i v → ∃ p, ks[i]? = some p ∧ v = .ref p.1)
    (h0 : Heap) (hk : ∀ p ∈ ks, IsT P w h0 p.2 p.1) (hS0 : h0.get? S = none) (hw0 : ∀ b ∈ wr, h0.get? b = none) (hu : A.in1.units < cLine) :
    ∀ (k i : Nat) (s : Shared), n - i = k → i ≤ n → St i s → (∀ b o, h0.get? b = some o → s.heap.get? b = some o) → (∃ L es ep t, SetTR P w s.heap S L es ep t ∧ Got ks i L) →
      (∀ s' L es ep t, Moved (S :: wr) G s s' → SetTR P w s'.heap S L es ep t → Got ks n L → (∀ b o, h0.get? b = some o → s'.heap.get? b = some o) → R (.ok (.ret .none)) s') →
      codeAny (model P w) A (.builtin "set.update.loop" ⟨[.ref S, .ref I], []⟩) R s := by
  have hSw : S ∉ wr := fun h => hSf (W.sub _ h)
  have hsub : ∀ b ∈ wr, b ∈ S :: wr := fun b hb => List.mem_cons_of_mem _ hb
  have keepM : ∀ {s s' : Shared}, Moved wr G s s' → (∀ b o, h0.get? b = some o → s.heap.get? b = some o) → ∀ b o, h0.get? b = some o → s'.heap.get? b = some o := fun hm hkp b o e =>
    hm.heap b o (fun hb => by rw [hw0 b hb] at e; cases e) (hkp b o e)
  intro k
  induction k with
  | zero =>
    intro i s hk' hi hst hkp ⟨L, es, ep, t, hS, g⟩ hR
    have hin : i = n := by omega
    subst hin
    refine codeAny_builtin F.entry_set_update_loop ?_
    rw [Around.under_plainId F.plain_set_update_loop _]
    show wpAny _ A.in1 (pyNext (.ref I) >>= _) _ _ s
    refine wpAny_bind (W.done s _ _ hst fun s' hm => ?_)
    show wpAny _ A.in1 (ret Value.none) _ _ s'
    have hkp' := keepM hm hkp
    have sub : ∀ p ∈ L, p ∈ ks := fun p hp => List.mem_of_mem_take (g.sub p hp)
    exact wpAny_pure (hR s' L es ep t (hm.mono hsub) (hS.keep (fun o e => hm.heap S o hSw e) fun p hp => isT_keep (hk p (sub p hp)) hkp') g hkp')
  | succ k ih =>
    intro i s hk' hi hst hkp ⟨L, es, ep, t, hS, g⟩ hR
    have hlt : i < n := by omega
    refine codeAny_builtin F.entry_set_update_loop ?_
    rw [Around.under_plainId F.plain_set_update_loop _]
    show wpAny _ A.in1 (pyNext (.ref I) >>= _) _ _ s
    refine wpAny_bind (W.item i s _ _ hlt hst fun v s' hP hst' hm => ?_)
    obtain ⟨p, hp, rfl⟩ := hval i v hP
    have hkp' := keepM hm hkp
    have sub : ∀ p ∈ L, p ∈ ks := fun p hp => List.mem_of_mem_take (g.sub p hp)
    have hS' : SetTR P w s'.heap S L es ep t := hS.keep (fun o e => hm.heap S o hSw e) fun q hq => isT_keep (hk q (sub q hq)) hkp'
    have hx : IsT P w s'.heap p.2 p.1 := isT_keep (hk p (List.mem_of_getElem? hp)) hkp'
    show wpAny _ A.in1 (holding [Value.ref p.1] (setAdd S (.ref p.1)) >>= _) _ _ s'
    refine wpAny_bind (wpAny_holding ?_)
    unfold setAdd
    refine wpAny_holding ?_
    refine wpAny_bind (wpAny_pyHash_tuple hu hx ?_)
    refine add_at (s := { s' with toks := s'.toks + (p.2.length + 1) }) hS' hx hu (by have := g.len; omega) fun b h' L' es' ep' t' hsb hS2 c1 c2 => ?_
    have g' : Got ks (i + 1) L' := by
      rcases Classical.em (p.2 ∈ L.map (·.2)) with c | c
      · rw [c1 c]; exact g.same hp c
      · exact g.more hp (c2 c)
    have hkp2 : ∀ b o, h0.get? b = some o → h'.get? b = some o := fun b o e => (hsb.2 b (fun z => by rw [z, hS0] at e; cases e)).trans (hkp' b o e)
    refine wpAny_pure ⟨plainId_quiet F.plain_set_update_loop _, ih (i + 1) _ (by omega) hlt (W.frame _ s' _ _ hst' (Nat.le_add_right _ _) fun b hb o e => ?_) hkp2 ⟨L', es', ep', t', hS2, g'⟩ fun s'' L2 es2 ep2 t2 hm'' hS'' g'' hkp'' => ?_⟩
    · rw [hsb.2 b (fun h : b = S => hSf (by rw [← h]; exact hb))]; exact e
    · refine hR s'' L2 es2 ep2 t2 (Moved.trans W.gtrans ((hm.mono hsub).then_heap (Nat.le_add_right _ _) fun b o hb e => ?_) hm'') hS'' g'' hkp''
      rw [hsb.2 b (fun h : b = S => hb (by rw [h]; exact List.mem_cons_self))]; exact e

set_option maxRecDepth 100000 in
set_option maxHeartbeats 3200000 in
/-- set(xs) -/
theorem call_set_tups {l : Addr} {items : Array Value} (ks : List (Addr × List Key)) {Q : Value → Shared → Prop} (hh : A.handled = none) (hl : s.heap.IsList l items) (hit : items.toList = ks.map fun p => Value.ref p.1)
    (hk : ∀ p ∈ ks, IsT P w s.heap p.2 p.1) (hfew : ks.length < 300) (hu : A.units + 3 < cLine)
    (h : ∀ (h' : Heap) (tk : Nat) L es ep t, SetTR P w h' s.heap.objs.size L es ep t → Got ks ks.length L → (∀ b o, s.heap.get? b = some o → h'.get? b = some o) → Q (.ref s.heap.objs.size) { s with heap := h', toks := tk }) :
    wpAny (model P w) A (call (.type "set") [.ref l]) Q E s := by
  have hisz : items.size = ks.length := by
    have q := congrArg List.length hit
    rw [Array.length_toList, List.length_map] at q
    exact q
  obtain ⟨c, tl, hmro⟩ := F.called_set.mro
  have hmade := F.called_set.made
  have hsub := F.called_set.sub
  refine wpAny_call (codeAny_of_tree ?_)
  show wpAny _ _ (callAny (.type "set") _) _ _ _
  refine wpAny_pure ⟨Code.quiet_builtin _ (by decide +kernel), codeAny_builtin F.entry_type_call ?_⟩
  rw [Around.under_plain (weight_type_call_type "set" [.ref l] []) rfl]
  have h1 := F.called_set.notType
  have h2 := F.called_set.canCreate
  have hct := F.typeCall_set_1 (.ref l)
  repeat (any_goals (first | assumption | wp_step))

  refine codeAny_mono (code_set_led1 (.ref l) (E := E) (Q₁ := fun obj s₁ => obj = .ref s.heap.objs.size ∧ s₁ = { s with heap := s.heap.push { cls := .type "set", dict := none, data := .set #[] 0 (.fresh 0 0 (!w.params.followText "set-order")) } }) ⟨rfl, rfl⟩) fun r s₁ hr => ?_
  cases r with
  | error e => exact hr
  | ok fl =>
    cases fl with
    | ret obj =>
      obtain ⟨rfl, rfl⟩ := hr
      have hS : (s.heap.push { cls := .type "set", dict := none, data := .set #[] 0 (.fresh 0 0 (!w.params.followText "set-order")) }).get? s.heap.objs.size = some { cls := .type "set", dict := none, data := .set #[] 0 (.fresh 0 0 (!w.params.followText "set-order")) } := Heap.get?_push_size _ rfl
      have hT : Shared.TypeIs { s with heap := s.heap.push { cls := .type "set", dict := none, data := .set #[] 0 (.fresh 0 0 (!w.params.followText "set-order")) } } (.ref s.heap.objs.size) "set" := ⟨_, hS, rfl⟩
      have hli := F.called_set.init.lookup
      have hbi := F.called_set.init.bind (.ref s.heap.objs.size)
      repeat (any_goals (first | assumption | wp_step))

      refine codeAny_mono (codeAny_call_builtin (R := wants (fun r s₂ => r = .none ∧ ∃ h' tk L es ep t, s₂ = { s with heap := h', toks := tk } ∧ SetTR P w h' s.heap.objs.size L es ep t ∧ Got ks ks.length L ∧
          (∀ b o, s.heap.get? b = some o → h'.get? b = some o)) E) F.called_set.init.plain F.entry_set_init (check_set_init_1 hT ?_)) fun r₂ s₂ hr₂ => ?_
      · obtain ⟨ol, hol, hcl, nl, hdl⟩ := hl
        obtain ⟨ocls, odict, odata, oslots⟩ := ol
        simp only at hcl hdl
        subst hcl; subst hdl
        have hol' : (s.heap.push { cls := .type "set", dict := none, data := .set #[] 0 (.fresh 0 0 (!w.params.followText "set-order")) }).get? l = some { cls := .type "list", dict := odict, data := .seq items nl, slots := oslots } := Heap.get?_push_of_some _ hol
        have hsls := F.sub_list_set
        have hslf := F.sub_list_frozenset
        have hne : (Value.type "list" == Value.type "dict") = false := by decide
        have hl1 : (s.heap.push { cls := .type "set", dict := none, data := .set #[] 0 (.fresh 0 0 (!w.params.followText "set-order")) }).IsList l items := ⟨_, hol', rfl, nl, rfl⟩
        unfold Builtin.«set.__init__» noKeywords Builtin.Frozenset.updateFrom
        generalize hPI : pyIter = PI
        wp_walk
        subst hPI

        refine wpAny_pyIter_list hl1 ?_
        refine wpAny_bind (wpAny_runValue ?_)
        have hlS : l < s.heap.objs.size := Heap.lt_size hol
        have hh3 : A.in1.in1.in1.handled = none := by simp [hh]
        have hz1 : (s.heap.push { cls := .type "set", dict := none, data := .set #[] 0 (.fresh 0 0 (!w.params.followText "set-order")) }).objs.size = s.heap.objs.size + 1 := Heap.size_push ..
        have hneI : l ≠ (s.heap.push { cls := .type "set", dict := none, data := .set #[] 0 (.fresh 0 0 (!w.params.followText "set-order")) }).objs.size := by
          rw [Heap.size_push]; exact Nat.ne_of_lt (Nat.lt_succ_of_lt hlS)
        have hSf : s.heap.objs.size ∉ [(s.heap.push { cls := .type "set", dict := none, data := .set #[] 0 (.fresh 0 0 (!w.params.followText "set-order")) }).objs.size, l] := by
          rw [Heap.size_push]; simp only [List.mem_cons, List.mem_singleton, List.not_mem_nil, or_false, not_or]
          exact ⟨Nat.ne_of_lt (Nat.lt_succ_self _), Nat.ne_of_gt hlS⟩
        have hval : ∀ (i : Nat) (v : Value), items[i]? = some v → ∃ p, ks[i]? = some p ∧ v = .ref p.1 := fun i v hv => by
          have q : items.toList[i]? = some v := by rw [Array.getElem?_toList]; exact hv
          rw [hit, List.getElem?_map] at q
          cases hq : ks[i]? with
          | none => rw [hq] at q; cases q
          | some p =>
            rw [hq] at q
            exact ⟨p, rfl, (Option.some.inj q).symm⟩
        have none_of : ∀ b, s.heap.objs.size ≤ b → s.heap.get? b = none := fun b hb => by
          cases q : s.heap.get? b with
          | none => rfl
          | some o => exact absurd (Nat.lt_of_lt_of_le (Heap.lt_size q) hb) (Nat.lt_irrefl _)
        refine set_update_tups ((Walks.list hh3 _ l hneI items).toS) s.heap.objs.size
          hSf ks hisz hfew hval s.heap hk (none_of _ (Nat.le_refl _)) (fun b hb => none_of b (by
            rw [List.mem_singleton.mp hb, Heap.size_push]
            exact Nat.le_succ _)) hu (items.size - 0) 0 _ (by omega) (Nat.zero_le _)
          ⟨⟨_, Heap.get?_push_size _ rfl, rfl, rfl⟩, (hl1.push _)⟩ (fun b o e => Heap.get?_push_of_some _ (Heap.get?_push_of_some _ e)) ?hS0 ?hR
        case hS0 =>
          have hget : ((s.heap.push { cls := .type "set", dict := none, data := .set #[] 0 (.fresh 0 0 (!w.params.followText "set-order")) }).push { cls := .type "list_iterator", data := .fields #[.ref l, .int 0 0] }).get? s.heap.objs.size
              = some { cls := .type "set", dict := none, data := .set #[] 0 (.fresh 0 0 (!w.params.followText "set-order")) } := Heap.get?_push_of_some _ hS
          exact ⟨[], #[], 0, _, setTR_fresh hget, Got.zero ks⟩
        case hR =>
          intro s' L es ep t hm hS' g' hkp
          obtain ⟨h', g2, d', tk', os'⟩ := s'
          have eg : g2 = s.gens := hm.gens
          have ed : d' = s.drawn := hm.drawn
          have eo : os' = s.os := hm.os
          subst eg; subst ed; subst eo
          show wpAny _ _ _ _ _ _
          refine wpAny_pure ?_
          show wpAny _ _ (ret Value.none) _ _ _
          rw [hisz] at g'
          exact wpAny_pure ⟨rfl, h', tk', L, es, ep, t, rfl, hS', g', hkp⟩

      · cases r₂ with
        | error e => exact hr₂
        | ok fl₂ =>
          cases fl₂ with
          | ret r =>
            obtain ⟨rfl, h', tk, L, es, ep, t, rfl, hS', g', hk'⟩ := hr₂
            repeat (any_goals (first | assumption | wp_step))
            exact h _ _ _ _ _ _ hS' g' hk'
          | _ => exact hr₂.elim
    | _ => exact hr.elim

end
end STK

/-! ST3: sets of tuples of keys on the abstract heap; what adds to a set. -/
namespace STK
open PySem PySem.Spec PyProof.Rows L2
/-- the set at a, without the tuples themselves -/
structure SetT0 (P : Program) (w : World) (h : Heap) (a : Addr) (L : List (Addr × List Key)) : Prop where
  ex : ∃ (es : Array (Int × Value)) (ep : Nat) (t : SetTable), (∃ o, h.get? a = some o ∧ o.ExactSet ∧ o.data = .set es ep t) ∧ es.toList = rowsOf P w L ∧ TabOk t (L.map fun p => thash P w p.2) ∧ (L.map (·.2)).Nodup ∧
    (w.params.followText "set-order" = true ∨ t.led = true) ∧ L.length * 5 < t.mask * 3 ∧ L.length < 300
def SetTO (P : Program) (w : World) (a : Addr) (L : List (Addr × List Key)) : HO := .ext fun h => SetT0 P w h a L
theorem SetTR.t0 {P : Program} {w : World} {h : Heap} {a : Addr} {L : List (Addr × List Key)} {es : Array (Int × Value)} {ep : Nat} {t : SetTable} (R : SetTR P w h a L es ep t) : SetT0 P w h a L :=
  ⟨es, ep, t, R.ob, R.rows, R.tab, R.nd, R.led, R.room, R.few⟩
theorem SetT0.full {P : Program} {w : World} {h : Heap} {a : Addr} {L : List (Addr × List Key)} (R : SetT0 P w h a L) (ht : ∀ p ∈ L, IsT P w h p.2 p.1) : ∃ es ep t, SetTR P w h a L es ep t := by
  obtain ⟨es, ep, t, h1, h2, h3, h4, h6, h7, h8⟩ := R.ex
  exact ⟨es, ep, t, h1, h2, h3, h4, ht, h6, h7, h8⟩
theorem setTO_new {P : Program} {w : World} {H : Hp} {h : Heap} {a : Addr} {L : List (Addr × List Key)} (R : SetT0 P w h a L) : ObjOk P w H h a (SetTO P w a L) := by
  have ⟨es, ep, t, ⟨o, ho, r⟩, q⟩ := R.ex
  refine ⟨R, ⟨o, ho⟩, fun h1 h2 p k => ?_⟩
  have ⟨es', ep', t', ⟨o', ho', r'⟩, q'⟩ := SetT0.ex p
  exact ⟨es', ep', t', ⟨o', k o' ho', r'⟩, q'⟩
theorem items_of_vals {P : Program} {w : World} : ∀ {k : List Key} {us : List Value}, Vals (k.map kV) us → ItemsAre (mixKind P w) k us
  | [], _, .nil => .nil
  | n :: k, _, .cons r t => .cons (kV_is r) (items_of_vals t)
theorem refs_of_vals : ∀ {ks : List (Addr × List Key)} {us : List Value}, Vals (ks.map fun p => V.ref p.1) us → us = ks.map fun p => Value.ref p.1
  | [], _, .nil => rfl
  | p :: ks, _, .cons r t => by
    cases r
    rw [refs_of_vals t] <;> rfl
section
variable {X : Cx}
theorem isT_inv {pins : List (Addr × Obj)} {σ : L2.St} {H : Hp} {s : Shared} {b : Addr} {k : List Key} (I : Inv X pins σ H s) (h : SqT X.K H b (k.map kV)) : IsT X.prog X.w s.heap k b := by
  obtain ⟨its, r, ⟨o, ho, hc, n, hd⟩, _⟩ := I.tuple h
  exact ⟨o, its.toArray, n, ho, hc, hd, by simpa using items_of_vals r⟩
/-- set(xs), xs a list of tuples -/
def rSetOfT (K : PySem.W.Frag) (P : Program) (w : World) : List V → Hp → VK → Prop := fun xs H Q => ∃ (l : Addr) (ks : List (Addr × List Key)), xs = [V.ref l] ∧ SqL K H l (ks.map fun p => V.ref p.1) ∧ (∀ p ∈ ks, SqT K H p.1 (p.2.map kV)) ∧ ks.length < 300 ∧
  ∀ a L, H a = none → (∀ p ∈ L, p ∈ ks) → (∀ p ∈ ks, p.2 ∈ L.map (·.2)) → (L.map (·.2)).Nodup → Q (.ref a) (upd H a (SetTO P w a L))
theorem cr_setOfT (hc : X.calm = true) (hu : X.A.units + 64 < cLine) : CallR X (.type "set") (rSetOfT X.K X.prog X.w) := by
  intro pins s σ H xs us Q I r h
  obtain ⟨l, ks, rfl, hl, hk, hf, q⟩ := h
  rw [Vals.ref1 r]
  obtain ⟨its, rv, pl, hz⟩ := I.list hl
  have hn : H s.heap.objs.size = none := I.hok.fresh (Nat.le_refl _)
  refine call_set_tups (P := X.prog) (w := X.w) ks (I.ok.hd hc) pl.isList (by simpa using refs_of_vals rv) (fun p hp => isT_inv I (hk p hp)) hf (by omega) fun h' tk L es ep t R g k => ?_
  refine ⟨.ref s.heap.objs.size, upd H s.heap.objs.size (SetTO X.prog X.w s.heap.objs.size L), I.laid (t' := tk) k (Nat.le_refl _) (setTO_new R.t0), rfl, q _ L hn (fun p hp => ?_) (fun p hp => ?_) R.nd⟩
  · exact List.mem_of_mem_take (g.sub p hp)
  · exact g.all p (by rw [List.take_length]; exact hp)
theorem call_lenT : CallR X (.builtin "len") (fun xs H Q => ∃ a L, xs = [V.ref a] ∧ H a = some (SetTO X.prog X.w a L) ∧ Q (.int (L.length : Nat)) H) := by
  intro pins s σ H xs us Q I r h
  obtain ⟨a, L, rfl, ha, q⟩ := h
  have hr : us = [Value.ref a] := by cases r with | cons h t => cases t; cases h; rfl
  subst hr
  obtain ⟨⟨es, ep, t, ⟨o, ho, hex, hd⟩, h2, h3, h4, h5, h6, h7⟩⟩ := (show SetT0 X.prog X.w s.heap a L from (I.hok a _ ha).1)
  have hz : es.size = L.length := by
    have h := congrArg List.length h2
    unfold rowsOf at h
    rw [Array.length_toList, List.length_map] at h
    exact h
  have hf : t.fits es.size = true := by
    have h1 := h3.sz
    rw [List.length_map] at h1
    unfold SetTable.fits SetTable.fill
    rw [h3.dm, Bool.and_eq_true, beq_iff_eq, decide_eq_true_eq]
    show t.place.size = es.size ∧ t.place.size + 0 ≤ t.mask
    omega
  rw [← hz] at q
  exact call_len_set ho hex hd hf (by omega) ⟨.int es.size, H, I.tok _, ⟨_, rfl⟩, q⟩
def rLenSetT (K : PySem.W.Frag) (P : Program) (w : World) : V → Hp → VK → Prop := fun x H Q => rSetOfT K P w [x] H fun v H2 => ∃ a L, [v] = [V.ref a] ∧ H2 a = some (SetTO P w a L) ∧ Q (.int (L.length : Nat)) H2
end
end STK
namespace S3
open PySem PySem.Spec L2 STK
/-- distinct ones, in the order of their coming -/
def dedL {α : Type} [DecidableEq α] (xs : List α) : List α := xs.foldl (fun acc x => if x ∈ acc then acc else acc ++ [x]) []
def toKeysL : List D → Option (List (List Key))
  | [] => some []
  | .tup ys :: r => match toKeys ys, toKeysL r with
    | some k, some ks => some (k :: ks)
    | _, _ => none
  | _ :: _ => none
/-- len(set(xs)), xs a list of tuples -/
def opLenSet : D → Option RV
  | .lst xs => if xs.length < 300 then (toKeysL xs).map fun ks => .fz (.int ((dedL ks).length : Nat)) else none
  | _ => none
theorem dedL_aux {α : Type} [DecidableEq α] : ∀ (xs acc : List α), acc.Nodup → (xs.foldl (fun acc x => if x ∈ acc then acc else acc ++ [x]) acc).Nodup ∧ ∀ k, k ∈ xs.foldl (fun acc x => if x ∈ acc then acc else acc ++ [x]) acc ↔ k ∈ acc ∨ k ∈ xs
  | [], acc, h => ⟨h, fun k => by simp⟩
  | x :: xs, acc, h => by
    rw [List.foldl_cons]
    by_cases c : x ∈ acc
    · rw [if_pos c]
      obtain ⟨h1, h2⟩ := dedL_aux xs acc h
      refine ⟨h1, fun k => ?_⟩
      rw [h2 k, List.mem_cons]
      constructor
      · rintro (z | z)
        · exact .inl z
        · exact .inr (.inr z)
      · rintro (z | z | z)
        · exact .inl z
        · rw [z]; exact .inl c
        · exact .inr z
    · rw [if_neg c]
      obtain ⟨h1, h2⟩ := dedL_aux xs (acc ++ [x]) (by
        rw [List.nodup_append]
        refine ⟨h, by simp, fun y hy z hz => ?_⟩
        rw [List.mem_singleton.mp hz]
        exact fun e => c (e ▸ hy))
      refine ⟨h1, fun k => ?_⟩
      rw [h2 k, List.mem_append, List.mem_singleton, List.mem_cons]
      constructor
      · rintro ((z | z) | z)
        · exact .inl z
        · exact .inr (.inl z)
        · exact .inr (.inr z)
      · rintro (z | z | z)
        · exact .inl (.inl z)
        · exact .inl (.inr z)
        · exact .inr z
theorem dedL_nodup {α : Type} [DecidableEq α] (xs : List α) : (dedL xs).Nodup := (dedL_aux xs [] List.nodup_nil).1
theorem dedL_mem {α : Type} [DecidableEq α] (xs : List α) (k : α) : k ∈ dedL xs ↔ k ∈ xs := by
  unfold dedL
  rw [(dedL_aux xs [] List.nodup_nil).2 k]
  simp
theorem dedL_len {α : Type} [DecidableEq α] {xs L : List α} (h : L.Nodup) (m : ∀ k, k ∈ L ↔ k ∈ xs) : L.length = (dedL xs).length :=
  ((List.perm_ext_iff_of_nodup h (dedL_nodup xs)).mpr fun k => (m k).trans (dedL_mem xs k).symm).length_eq
section
variable {Z : Wd} {F H : Hp}
theorem toKeysL_rd : ∀ {ds : List D} {vs : List V} {kss : List (List Key)}, RpA Z F vs ds → toKeysL ds = some kss → ∃ ps : List (Addr × List Key), vs = ps.map (fun p => V.ref p.1) ∧ ps.map (·.2) = kss ∧ ∀ p ∈ ps, F p.1 = some (.tup (p.2.map kV))
  | [], _, _, .nil, h => by cases h; exact ⟨[], rfl, rfl, fun p hp => by cases hp⟩
  | d :: ds, _, kss, .cons r ra, h => by
    cases d <;> simp only [toKeysL] at h <;> try (cases h; done)
    rename_i ys
    cases q1 : toKeys ys with
    | none => rw [q1] at h; cases h
    | some k =>
      cases q2 : toKeysL ds with
      | none => rw [q1, q2] at h; cases h
      | some ks =>
        rw [q1, q2] at h
        cases h
        obtain ⟨ps, e1, e2, e3⟩ := toKeysL_rd ra q2
        cases r with
        | @tup a xs _ ha rb =>
          refine ⟨(a, k) :: ps, by rw [e1]; rfl, by rw [List.map_cons, e2], fun p hp => ?_⟩
          rcases List.mem_cons.mp hp with z | z
          · rw [z]
            rw [← toKeys_rd rb q1]
            exact ha
          · exact e3 p z
theorem s_lenSet : Sound1 Z (rLenSetT Z.K Z.P Z.w) opLenSet := by
  intro F H x dx rr Q l hx ho q
  cases dx <;> simp only [opLenSet] at ho <;> try (cases ho; done)
  rename_i ds
  split at ho
  · rename_i hz
    rw [Option.map_eq_some_iff] at ho
    obtain ⟨kss, hk, rfl⟩ := ho
    obtain ⟨a, xs, rfl, ha, ra⟩ := hx.lst l
    obtain ⟨ps, e1, e2, e3⟩ := toKeysL_rd ra hk
    have lp : ps.length = ds.length := by
      have := ra.length
      rw [e1, List.length_map] at this
      exact this
    refine ⟨a, ps, rfl, by rw [← e1]; exact SqL.of ha, fun p hp => SqT.of (l _ _ (e3 p hp)), by rw [lp]; exact hz, fun b L nb sub all nd => ⟨b, L, rfl, upd_same, ?_⟩⟩
    have hlen : L.length = (dedL kss).length := by
      rw [← List.length_map (f := (·.2))]
      refine dedL_len nd fun k => ?_
      rw [← e2]
      constructor
      · intro hk
        obtain ⟨p, hp, e⟩ := List.mem_map.mp hk
        exact List.mem_map.mpr ⟨p, sub p hp, e⟩
      · intro hk
        obtain ⟨p, hp, e⟩ := List.mem_map.mp hk
        rw [← e]; exact all p hp
    rw [hlen]
    exact q _ F _ (Gr.lay l nb) (.int _)
  · cases ho
end
section
variable {ca : Str → Option Addr} {W : WX} {X : Cx} {e : Expr} {fe : EV} {p p2 q pos : Pos}
theorem ev_lenSet (hm : X.mg "len" = none) (hm2 : X.mg "set" = none) (hu : X.A.units + 64 < cLine) (he : Ev ca W X e fe) (hc : X.calm = true := by rfl) (hg : Gl X "len" := by rfl) (hg2 : Gl X "set" := by rfl)
    (hs : starEach [e] X.env = (false, eval e X.env) :: starEach [] X.env := by rfl) (hs2 : starEach [.Call (.Name "set" p2) [e] [] q] X.env = (false, eval (.Call (.Name "set" p2) [e] [] q) X.env) :: starEach [] X.env := by rfl) :
    Ev ca W X (.Call (.Name "len" p) [.Call (.Name "set" p2) [e] [] q] [] pos) (eOp1 opLenSet fe) :=
  PE_imp (pe_callB call_lenT hg hm boot_len (pa_cons (pe_callTy (STK.cr_setOfT hc hu) hg2 hm2 (by decide +kernel) (pa_cons he pa_nil hs) (by decide) (by decide) hs (by rfl)) pa_nil hs2) (by decide) (by decide) hs2 (by rfl)) fun _ _ _ => one (s_lenSet (Z := zw ca X))
end
end S3

/-! ST4: set comprehensions of one clause, for what adds to a set. -/
namespace STK
open PySem PySem.Spec PyProof.Rows L2
open S3 (SetGO setG_new setG_fresh setG_get setG_add addKey addKey_is)
/-- a kind of set: the new one; what adding asks -/
structure Adder where
  em : Addr → HO
  ad : V → Addr → Hp → (Hp → Prop) → Prop
structure AddOk (P : Program) (w : World) (K : PySem.W.Frag) (A : Adder) : Prop where
  new : ∀ (h : Heap) (a : Addr) (H : Hp), h.get? a = some { cls := .type "set", dict := none, data := .set #[] 0 (.fresh 0 0 (!w.params.followText "set-order")) } → ObjOk P w H h a (A.em a)
  add : ∀ (X : Cx), X.prog = P → X.w = w → X.K = K → X.A.units + 64 < cLine → ∀ (pins : List (Addr × Obj)) (s : Shared) (σ : L2.St) (H : Hp) (D : Addr) (y : V) (v : Value) (N : Hp → Prop) (E : Value → Shared → Prop), Inv X pins σ H s → RelV y v → A.ad y D H N →
    wpAny (model P w) X.A (call (.builtin "set.add") [.ref D, v]) (fun _ s' => ∃ H', Inv X pins σ H' s' ∧ N H') E s
/-- keys -/
def adK (P : Program) (w : World) : Adder where
  em := fun D => SetGO P w D []
  ad := fun y D H N => ∃ k ks, y = kV k ∧ H D = some (SetGO P w D ks) ∧ ks.length + 1 < scanBound ∧ N (upd H D (SetGO P w D (addKey ks k)))
theorem adK_ok (P : Program) (w : World) (K : PySem.W.Frag) : AddOk P w K (adK P w) where
  new := fun h a H e => setG_new (setG_fresh e)
  add := by
    intro X hP hw hK _ pins s σ H D y v N E I r ⟨k, ks, ey, hD, room, n⟩
    subst hP hw hK ey
    exact SX.addG_ok I hD room r fun s' I' => ⟨_, I', n⟩
/-- tuples of keys -/
def adT (P : Program) (w : World) (K : PySem.W.Frag) : Adder where
  em := fun D => SetTO P w D []
  ad := fun y D H N => ∃ T k L, y = .ref T ∧ SqT K H T (k.map kV) ∧ H D = some (SetTO P w D L) ∧ (∀ p ∈ L, SqT K H p.1 (p.2.map kV)) ∧ L.length + 1 < 300 ∧
    ∀ L', (k ∈ L.map (·.2) → L' = L) → (k ∉ L.map (·.2) → L'.Perm ((T, k) :: L)) → N (upd H D (SetTO P w D L'))
theorem adT_ok (P : Program) (w : World) (K : PySem.W.Frag) : AddOk P w K (adT P w K) where
  new := fun h a H e => setTO_new (setTR_fresh e).t0
  add := by
    intro X hP hw hK hu pins s σ H D y v N E I r ⟨T, k, L, ey, hT, hD, hL, room, n⟩
    subst hP hw hK ey
    obtain rfl : v = Value.ref T := r
    have R0 : SetT0 X.prog X.w s.heap D L := (I.hok D _ hD).1
    obtain ⟨es, ep, t, R⟩ := R0.full fun p hp => isT_inv I (hL p hp)
    have hx := isT_inv I hT
    obtain ⟨o, ho, hex, hd⟩ := R.ob
    have ty : s.TypeIs (.ref D) "set" := ⟨o, ho, hex.1⟩
    refine wpAny_call_entry F.slot_set_add ty F.entry_set_add ?_ (F.args_set_add_2 _ _)
    unfold Builtin.«set.add» Builtin.Frozenset.oneOther
    simp only [List.isEmpty_nil, bind_assoc]
    unfold Builtin.Frozenset.addrOf
    refine wpAny_bind (wpAny_pure ?_)
    try dsimp only
    refine wpAny_bind (wpAny_pure ?_)
    try dsimp only
    have hu1 : X.A.in1.units + 1 < cLine := by show X.A.units + 1 + 1 < cLine; omega
    unfold setAdd
    refine wpAny_bind (wpAny_holding (wpAny_bind (wpAny_pyHash_tuple (by first | exact hu1 | omega) hx ?_)))
    refine add_at (s := { s with toks := s.toks + (k.length + 1) }) ⟨R.ob, R.rows, R.tab, R.nd, R.tup, R.led, R.room, R.few⟩ hx (by omega) room fun b h' L' es' ep' t' sb R' c1 c2 => ?_
    show wpAny _ _ (PySem.ret Value.none) _ _ _
    refine wpAny_pure ⟨_, rfl, ?_⟩
    have he : ∃ u, h'.get? D = some u := by
      obtain ⟨o, ho, _⟩ := R'.ob
      exact ⟨o, ho⟩
    refine ⟨_, I.write (e := D) (o := SetTO X.prog X.w D L') (t' := s.toks + (k.length + 1)) (by rw [hD]; trivial) (.inl rfl) (fun b u hb hu => (sb.2 b hb).trans hu) he (setTO_new R'.t0), n L' c1 c2⟩
theorem scTurn1 (elt t0 i0 : Expr) (ifs0 : List Expr) (scope : Scope) (pos : Pos) (it acc : Value) (env : Env) :
    compTurn (.SetComp elt [⟨t0, i0, ifs0, 0⟩] scope pos) 0 it acc env = (do
      standAt i0.pos
      match ← pyNext it with
      | none => pure (.done .next)
      | some v =>
        letOwnedTupleGo t0 it v
        assign t0 env v
        let mut ok := true
        for c in ifs0 do
          if ok then ok ← isTrue c env (eval c env)
        if ok then
          (do let v ← eval elt env; standAt elt.pos; let _ ← call (.builtin "set.add") [acc, v])
        again (.compLoop (.SetComp elt [⟨t0, i0, ifs0, 0⟩] scope pos) 0 it acc env)) := by rfl
section
variable {prog : Program} {w : World} {A : Around} {R : Result → Shared → Prop} {s : Shared} {elt t0 i0 : Expr} {ifs0 : List Expr} {scope : Scope} {pos : Pos} {it acc : Value} {env : Env}
theorem scLoop1 (I : Nat → Shared → Prop)
    (turn : ∀ n s, I n s → wpAny (model prog w) A (pyNext it) (fun r s₁ => match r with
      | none => R (.ok .next) s₁
      | some v => wpAny (model prog w) A (letOwnedTupleGo t0 it v) (fun _ s₁' => wpAny (model prog w) A (assign t0 env v) (fun _ s₂ =>
          wpAny (model prog w) A (forIn ifs0 true fun c r => if r = true then do let ok ← isTrue c env (eval c env); pure (ForInStep.yield ok) else pure (ForInStep.yield r)) (fun ok s₃ =>
            if ok = true then wpAny (model prog w) A (eval elt env) (fun x s₄ =>
              wpAny (model prog w) A (call (.builtin "set.add") [acc, x]) (fun _ s₅ => ∃ m, m < n ∧ I m s₅) (notedBy (model prog w) A env fun e s' => R (.error e) s') s₄) (notedBy (model prog w) A env fun e s' => R (.error e) s') s₃
            else ∃ m, m < n ∧ I m s₃) (notedBy (model prog w) A env fun e s' => R (.error e) s') s₂) (notedBy (model prog w) A env fun e s' => R (.error e) s') s₁') (notedBy (model prog w) A env fun e s' => R (.error e) s') s₁) (notedBy (model prog w) A env fun e s' => R (.error e) s') s)
    (n : Nat) (h : I n s) :
    codeAny (model prog w) A (.compLoop (.SetComp elt [⟨t0, i0, ifs0, 0⟩] scope pos) 0 it acc env) R s := by
  refine codeAny_loop rfl I (fun n s hI => ?_) n h
  show wpAny _ A ((compTurn (.SetComp elt [⟨t0, i0, ifs0, 0⟩] scope pos) 0 it acc env).onRaise (fun x => do noteFrame x env; theTreesLotGoes x)) _ _ s
  refine wpAny_noted ?_
  rw [scTurn1]
  refine wpAny_bind (wpAny_standAt (wpAny_bind (wpAny_mono (turn n s hI) (fun r s₁ h₁ => ?_) fun _ _ h' => h')))
  cases r with
  | none => exact wpAny_pure h₁
  | some v =>
    refine wpAny_bind (wpAny_mono h₁ (fun _ s₁' h₁' => ?_) fun _ _ h' => h')
    refine wpAny_bind (wpAny_mono h₁' (fun _ s₂ h₂ => wpAny_bind (wpAny_mono h₂ (fun ok s₃ h₃ => ?_) fun _ _ h' => h')) fun _ _ h' => h')
    cases ok with
    | false => exact wpAny_pure ⟨rfl, h₃⟩
    | true =>
      exact wpAny_bind (wpAny_bind (wpAny_mono h₃ (fun x s₄ h₄ => wpAny_bind (wpAny_standAt (wpAny_bind (wpAny_mono h₄ (fun _ s₅ h₅ => wpAny_pure (wpAny_pure ⟨rfl, h₅⟩)) fun _ _ h' => h')))) fun _ _ h' => h'))
end
section
variable {X : Cx}
def tSc1 (AA : Adder) (wi : TI) (g : TG) (tt : TT) (te : TE) (vs : List Nat) : TE := fun σ H Q => wi σ H fun J H1 => ∀ D, H1 D = none → ∃ W : Nat → Nat → Hp → Prop, (∃ m, W 0 m (upd H1 D (AA.em D))) ∧ ∀ i m H, W i m H →
  (J.stop i H ∧ Q (.ref D) H) ∨ (J.go i H ∧ ∃ Nx : Hp → Prop, (∀ H', Nx H' → ∃ m', m' < m ∧ W (i + 1) m' H') ∧ ∀ x H', J.yld i H x H' → g x (wipe σ vs) H' fun σ2 H2 => wipe σ2 vs = wipe σ vs ∧ tt σ2 H2 fun b H3 =>
    if b = true then te σ2 H3 fun y H4 => AA.ad y D H4 Nx else Nx H3)
theorem pe_sc1 {AA : Adder} (OK : AddOk X.prog X.w X.K AA) (hu : X.A.units + 64 < cLine) {elt tg iter : Expr} {ifs : List Expr} {scope : Scope} {own : List (Str × Nat)} {pos : Pos} {wi : TI} {g : TG} {tt : TT} {te : TE} (hc : X.calm = true) (hN : X.N.Nodup) (hi : PI X tg iter wi) (ok : BlkOk X.N X.env.scope scope own)
    (hg : ∀ (s : Shared) (H : Hp) (C : Addr) (cl : List (Str × Addr)) (fp : List Addr), PG (X.blk s H scope (compEnvC scope cl C X.env) fp) tg g) (ht : ∀ (s : Shared) (H : Hp) (C : Addr) (cl : List (Str × Addr)) (fp : List Addr), PTs (X.blk s H scope (compEnvC scope cl C X.env) fp) ifs tt)
    (he : ∀ (s : Shared) (H : Hp) (C : Addr) (cl : List (Str × Addr)) (fp : List Addr), PE (X.blk s H scope (compEnvC scope cl C X.env) fp) elt te) (hs : ∀ x, foldedSetIterable iter X.env x = pure x := by intro _; rfl) :
    PE X (.SetComp elt [⟨tg, iter, ifs, 0⟩] scope pos) (tSc1 AA wi g tt te (own.map (·.2))) := by
  refine ⟨fun pins s σ H Q I h => ?_⟩
  rw [PpSet.eval_SetComp]
  have hfree : ∀ y ∈ scope.names, y.2 = .free → ∃ c, X.env.cells.lookup y.1 = some c := fun y hy e => by
    rcases ok.free y hy e with k | k
    · exact I.ok.has _ (.inl k)
    · exact I.ok.has _ (.inr k)
  refine wpAny_comprehension_free rfl hs (closure_ok hfree) ok.kind (fun y hy e => by rw [ok.uniq y hy, e])
    (thn (hi.run pins s σ H _ I h) fun xv s1 hx => thn hx fun itv s2 h2 => ?_)
  obtain ⟨it, fp, tn, J, H2, e, I2, T, st2, f2, q⟩ := h2
  subst e
  refine PpSet.newSet_ok (newEnv_comp ?_)
  generalize hD : s2.heap.objs.size = D
  have hDn : H2 D = none := I2.hok.fresh (Nat.le_of_eq hD)
  obtain ⟨W, ⟨m0, w0⟩, turn⟩ := q D hDn
  generalize hs3 : ({ s2 with heap := s2.heap.push { cls := .type "set", dict := none, data := .set #[] 0 (.fresh 0 0 (!X.w.params.followText "set-order")) } } : Shared) = s3
  have I3 : Inv X pins σ (upd H2 D (AA.em D)) s3 := by
    rw [← hs3]
    refine I2.laid (t' := s2.toks) (fun b o e => Heap.get?_push_of_some _ e) (Nat.le_of_eq hD) ?_
    rw [← hD]
    exact OK.new _ _ _ (Heap.get?_push_size _ rfl)
  have h3 : s3.heap = s2.heap.push { cls := .type "set", dict := none, data := .set #[] 0 (.fresh 0 0 (!X.w.params.followText "set-order")) } := by rw [← hs3]
  have sz : ∀ b ∈ fp, b < s2.heap.objs.size := fun b hb => by
    obtain ⟨o, e, _⟩ := T.obj _ _ st2 b hb
    exact Heap.lt_size e
  have f3 : ∀ b ∈ fp, FpOk X pins (upd H2 D (AA.em D)) b ∧ b < s3.heap.objs.size := fun b hb => by
    have hlt := sz b hb
    refine ⟨⟨?_, (f2 b hb).2⟩, by rw [h3, Heap.size_push]; exact Nat.lt_succ_of_lt hlt⟩
    rw [upd_ne (by rw [← hD]; exact Nat.ne_of_lt hlt)]
    exact (f2 b hb).1
  have st3 : tn 0 s3.heap := T.keep _ _ _ st2 fun b _ o e => by rw [h3]; exact Heap.get?_push_of_some _ e
  have I4 := block_start I3 ok hN f3
  have pg := hg s3 (upd H2 D (AA.em D)) s3.heap.objs.size (cellsFrom (s3.heap.objs.size + 1) scope.names (cloFrom X.env.cells scope.names [])) fp
  have pt := ht s3 (upd H2 D (AA.em D)) s3.heap.objs.size (cellsFrom (s3.heap.objs.size + 1) scope.names (cloFrom X.env.cells scope.names [])) fp
  have pe := he s3 (upd H2 D (AA.em D)) s3.heap.objs.size (cellsFrom (s3.heap.objs.size + 1) scope.names (cloFrom X.env.cells scope.names [])) fp
  show codeAny _ _ (.compStart (.SetComp elt [⟨tg, iter, ifs, 0⟩] scope pos) 0 (.ref it) (.ref D) (compEnvC scope (cellsFrom (s3.heap.objs.size + 1) scope.names (cloFrom X.env.cells scope.names [])) s3.heap.objs.size X.env)) (compPost (model X.prog X.w) X.A X.xe none (EP X pins σ Q) (.ref D) s3.heap.objs.size) { s3 with heap := pushCells (s3.heap.push { cls := .type "dict", data := .dict #[] }) scope.names }
  have nfp : ∀ b ∈ fp, (upd H2 D (AA.em D)) b = none := fun b hb => (f3 b hb).1.1
  generalize hce : compEnvC scope (cellsFrom (s3.heap.objs.size + 1) scope.names (cloFrom X.env.cells scope.names [])) s3.heap.objs.size X.env = ce at I4 pg pt pe ⊢
  have cL : ce.locals = s3.heap.objs.size := by subst hce; rfl
  generalize hH3 : upd H2 D (AA.em D) = H3 at I3 I4 pg pt pe w0 nfp f3
  generalize hs4 : ({ s3 with heap := pushCells (s3.heap.push { cls := .type "dict", data := .dict #[] }) scope.names } : Shared) = s4 at I4 ⊢
  have st4 : tn 0 s4.heap := T.keep _ _ _ st3 fun b _ o e => by rw [← hs4]; exact pushCells_keeps _ _ _ _ (Heap.get?_push_of_some _ e)
  have stat : ∀ {σ' : L2.St} {H' : Hp} {s' : Shared}, Inv (X.blk s3 H3 scope ce fp) [] σ' H' s' → (∀ b ∈ fp, H' b = none) → ∀ b ∈ fp, FpOk (X.blk s3 H3 scope ce fp) [] H' b := fun {σ' H' s'} I' hn b hb =>
    ⟨hn b hb, (I'.ok.exf b hb).1, I'.ok.exfs b hb, .inl hb, fun x c e => (I'.ok.exf b hb).2 x c e, fun p hp => absurd (show p ∈ ([] : List (Addr × Obj)) ++ [] from hp) (by simp)⟩
  have loop : codeAny (model X.prog X.w) X.A (.compLoop (.SetComp elt [⟨tg, iter, ifs, 0⟩] scope pos) 0 (.ref it) (.ref D) ce) (compPost (model X.prog X.w) X.A X.xe none (EP X pins σ Q) (.ref D) s3.heap.objs.size) s4 := by
    refine scLoop1 (fun n s' => ∃ i H', Inv (X.blk s3 H3 scope ce fp) [] (wipe σ (own.map (·.2))) H' s' ∧ tn i s'.heap ∧ (∀ b ∈ fp, H' b = none) ∧ W i n H') ?_ m0 ⟨0, H3, I4, st4, nfp, w0⟩
    rintro n s5 ⟨i, H5, I5, st5, n5, w5⟩
    rcases turn i n H5 w5 with ⟨stop, qq⟩ | ⟨go, Nx, hNx, step⟩
    · have td := T.done (X.blk s3 H3 scope ce fp) rfl rfl rfl hc i [] s5 _ H5 (fun _ _ => False) I5 (stat I5 n5) st5 stop
      refine thnF td fun r s6 ⟨hr, I6⟩ => ?_
      subst hr
      have I7 : Inv X pins σ H5 s6 := I3.call' (ch := fp) I6.os I6.base I6.hok I6.bare fun b hb => ⟨(f3 b hb).1.2.2.2.1, (f3 b hb).1.2.1, (f3 b hb).1.2.2.2.2.1, (f3 b hb).1.2.2.2.2.2⟩
      have nC : H5 s3.heap.objs.size = none := by
        have z : H5 ce.locals = none := I6.free
        rw [cL] at z
        exact z
      obtain ⟨m, hn, _⟩ := I6.loc
      have hn : s6.heap.Ns ce.locals m := hn
      rw [cL] at hn
      have f := I3.fpOk (Nat.le_refl _) nC
      refine ⟨m, hn, fun h'' sb => ?_⟩
      obtain ⟨f0, f1, f2', f3', f4, f5⟩ := f
      exact ⟨.ref D, H5, I7.turned (t' := s6.toks) (fun b o hb e => (sb.2 b hb).trans e) f0 f1 f3' f4 f5, rfl, qq⟩
    · have ti := T.item (X.blk s3 H3 scope ce fp) rfl rfl rfl hc i [] s5 _ H5 (fun _ _ => False) I5 (stat I5 n5) st5 go
      refine thnF ti fun r s6 ⟨u, hr, h6⟩ => ?_
      subst hr
      refine thnF h6 fun _ s7 ⟨x, H7, I7, r7, y7, st7, n7⟩ => ?_
      have I7' := I7.pinned (stat I7 n7) (T.obj _ _ st7)
      refine thnF (pg.run _ s7 _ H7 x u _ I7' r7 (step x H7 y7)) fun _ s8 ⟨σ8, H8, I8, hw8, q8⟩ => ?_
      refine thnF (pt.run _ s8 σ8 H8 _ I8 q8) fun b s9 ⟨H9, I9, q9⟩ => ?_
      have fin : ∀ {s' : Shared} {H' : Hp}, Inv (X.blk s3 H3 scope ce fp) ([] ++ pinsAt fp s7.heap) σ8 H' s' → Nx H' →
          ∃ m, m < n ∧ ∃ i H', Inv (X.blk s3 H3 scope ce fp) [] (wipe σ (own.map (·.2))) H' s' ∧ tn i s'.heap ∧ (∀ b ∈ fp, H' b = none) ∧ W i m H' := fun {s' H'} I' nx => by
        obtain ⟨m', hm, w'⟩ := hNx H' nx
        have pin' : ∀ b ∈ fp, ∀ o, s7.heap.get? b = some o → s'.heap.get? b = some o ∧ H' b = none := fun b hb o e =>
          let z := I'.pin (b, o) (List.mem_append_right _ (List.mem_append_right _ (mem_pinsAt hb e)))
          ⟨z.1, z.2.1⟩
        refine ⟨m', hm, i + 1, H', (I'.unpinned (pins := [])).weak (by rw [← hw8, wipe_length]) (fun j v e => by rw [← hw8] at e; exact (wipe_some e).1), T.keep _ _ _ st7 fun b hb o e => (pin' b hb o e).1, fun b hb => ?_, w'⟩
        obtain ⟨o, e, _⟩ := T.obj _ _ st7 b hb
        exact (pin' b hb o e).2
      cases b with
      | false =>
        simp only [Bool.false_eq_true, if_false] at q9 ⊢
        exact fin I9 q9
      | true =>
        simp only [if_true] at q9 ⊢
        refine thnF (pe.run _ s9 σ8 H9 _ I9 q9) fun z s10 ⟨yv, H10, I10, r10, nx⟩ => ?_
        refine wpAny_mono (OK.add (X.blk s3 H3 scope ce fp) rfl rfl rfl hu _ s10 σ8 H10 D yv z Nx (fun _ _ => False) I10 r10 nx) (fun _ s11 ⟨H11, I11, n11⟩ => fin I11 n11) fun _ _ z => z.elim
  exact PpSet.codeAny_compStart_set loop (T.self X.A 0 _ _ _ st4 loop)
end
end STK

/-! ST5: set and dict comprehensions of one clause, as terms. -/
namespace S3
open PySem PySem.Spec L2 STK
/-! ### terms -/
section
variable {β : Type}
def cpG (t : Tg) (c : TV) (bd : Env → β → Option β) : List D → Env → β → Option β
  | [], _, acc => some acc
  | d :: ds, e, acc => (match tgt t d e with
    | some e1 => (match c e1 with
      | .ok true e2 => (match bd e2 acc with
        | some acc' => cpG t c bd ds e acc'
        | none => none)
      | .ok false _ => cpG t c bd ds e acc
      | _ => none)
    | none => none)
def bdE (f : EV) (add : β → D → Option β) : Env → β → Option β := fun e acc => match f e with
  | .ok r e3 => (match stl r e3 with
    | some (x, _) => add acc x
    | none => none)
  | _ => none
end
def bdD (f g : EV) : Env → List (Key × D) → Option (List (Key × D)) := fun e acc => match f e with
  | .ok r e3 => (match (rd r e3).bind toKey with
    | some k => (match g e3 with
      | .ok q e4 => (match stl q e4 with
        | some (x, _) => if acc.length < BIG then some (dPut acc k x) else none
        | none => none)
      | _ => none)
    | none => none)
  | _ => none
def memK (k : List Key) (ks : List (List Key)) : Bool := ks.any fun j => decide (j = k)
theorem memK_iff {k : List Key} {ks : List (List Key)} : memK k ks = true ↔ k ∈ ks := by
  unfold memK
  rw [List.any_eq_true]
  constructor
  · rintro ⟨j, h1, h2⟩
    rw [← of_decide_eq_true h2]; exact h1
  · exact fun h => ⟨k, h, decide_eq_true rfl⟩
def addT (ks : List (List Key)) (x : D) : Option (List (List Key)) := match x with
  | .tup ys => (match toKeys ys with
    | some k => if ks.length + 1 < 300 then some (if memK k ks then ks else ks ++ [k]) else none
    | none => none)
  | _ => none
/-- {f for t in w if c} -/
def eSc1 (own : List Nat) (t : Tg) (w : WV) (c : TV) (f : EV) : EV := fun e => match w e with
  | .ok xs e1 => (match cpG t c (bdE f addS) xs (wipeE (lock e1) own) [] with
    | some ys => .ok (.nw (.st ys)) e1
    | none => .no)
  | .ex x e1 => .ex x e1
  | .no => .no
/-- len({f for t in w if c}), f a tuple -/
def eLenSc (own : List Nat) (t : Tg) (w : WV) (c : TV) (f : EV) : EV := fun e => match w e with
  | .ok xs e1 => (match cpG t c (bdE f addT) xs (wipeE (lock e1) own) [] with
    | some ys => .ok (.fz (.int (ys.length : Nat))) e1
    | none => .no)
  | .ex x e1 => .ex x e1
  | .no => .no
/-- {f: g for t in w if c} -/
def eDc (own : List Nat) (t : Tg) (w : WV) (c : TV) (f g : EV) : EV := fun e => match w e with
  | .ok xs e1 => (match cpG t c (bdD f g) xs (wipeE (lock e1) own) [] with
    | some ys => .ok (.nw (.dk ys)) e1
    | none => .no)
  | .ex x e1 => .ex x e1
  | .no => .no
section
variable {Z : Wd} {F F' H H' : Hp} {N : En} {σ : L2.St} {e e' : Env} {v x y : V} {W : WX} {E : Ends}
/-- one clause: the core -/
theorem cpG_sound {β : Type} {Acc : Hp → β → HO → Prop} {Bd : L2.St → Hp → (Hp → Prop) → Prop} {bd : Env → β → Option β} {A : Addr} {acc0 ys : β} {o0 : HO} {g : TG} {t : Tg} {own : List Nat} {c : TV} {J : It} {ds : List D} {Q : VK}
    (mono : ∀ F F' acc o, Same F F' → Acc F acc o → Acc F' acc o)
    (hNT : ∀ F acc o, Acc F acc o → NT o)
    (hB : ∀ N3 F3 H3 σ3 e3 acc acc' o Nx, SOk Z N3 F3 H3 σ3 e3 → N3.H A = some o → N3.F A = none → N3.M = [] → Acc F3 acc o → bd e3 acc = some acc' → (∀ F6 H6 e6 o', Same F3 F6 → SOk Z N3 F6 H6 σ3 e6 → Acc F6 acc' o' → Nx (upd H6 A o')) → Bd σ3 H3 Nx)
    (tk : TgOk Z g t) (sub : ∀ i ∈ tgIx t, i ∈ own) (S : SOk Z N F H σ e) (wk : WalkOk Z N F J ds)
    (hl : cpG t c bd ds (wipeE (lock e) own) acc0 = some ys) (h0 : Acc F acc0 o0) (hA : H A = none) (P : ∀ F' Hm o, Same F F' → SOk Z N F' Hm σ e → Hm A = none → Acc F' ys o → Q (.ref A) (upd Hm A o)) :
    ∃ Wm : Nat → Nat → Hp → Prop, (∃ m, Wm 0 m (upd H A o0)) ∧ ∀ i m H, Wm i m H → (J.stop i H ∧ Q (.ref A) H) ∨ (J.go i H ∧ ∃ Nx : Hp → Prop, (∀ H', Nx H' → ∃ m', m' < m ∧ Wm (i + 1) m' H') ∧
      ∀ x H', J.yld i H x H' → g x (wipe σ own) H' fun σ2 H2 => wipe σ2 own = wipe σ own ∧ tTv Z W0 c σ2 H2 fun b H3 => if b = true then Bd σ2 H3 Nx else Nx H3) := by
  refine ⟨fun i m Hx => m = ds.length - i ∧ i ≤ ds.length ∧ ∃ F' Hm acc o, Same F F' ∧ SOk Z N F' Hm σ e ∧ Hm A = none ∧ Hx = upd Hm A o ∧ Acc F' acc o ∧ cpG t c bd (ds.drop i) (wipeE (lock e) own) acc = some ys,
    ⟨ds.length, rfl, Nat.zero_le _, F, H, acc0, o0, Same.refl _, S, hA, rfl, h0, hl⟩, ?_⟩
  rintro i m _ ⟨rfl, hi, F1, Hm, acc, o, f1', S1, nA, rfl, ra, hl1⟩
  have SH : SOk Z N F1 (upd Hm A o) σ e := S1.gr (Gr.lay S1.le nA)
  obtain ⟨w1, w2⟩ := wk F1 _ σ e SH f1' i
  by_cases hlt : i < ds.length
  · have ed : ds.drop i = ds[i] :: ds.drop (i + 1) := List.drop_eq_getElem_cons hlt
    have ei : ds[i]? = some ds[i] := List.getElem?_eq_getElem hlt
    rw [ed] at hl1
    generalize ds[i] = d at hl1 ei
    obtain ⟨go, yl⟩ := w1 d ei
    refine .inr ⟨go, fun Hx => ∃ F' Hm acc o, Same F F' ∧ SOk Z N F' Hm σ e ∧ Hm A = none ∧ Hx = upd Hm A o ∧ Acc F' acc o ∧ cpG t c bd (ds.drop (i + 1)) (wipeE (lock e) own) acc = some ys,
      fun H' h => ⟨ds.length - (i + 1), by omega, rfl, hlt, h⟩, fun x H2 hy => ?_⟩
    obtain ⟨F2, g2, r2⟩ := yl x H2 hy
    have S2 := SH.gr g2
    have S3' := S2.lockd.wipe2 own
    unfold cpG at hl1
    cases q : tgt t d (wipeE (lock e) own) with
    | none => rw [q] at hl1; cases hl1
    | some e2 =>
      rw [q] at hl1
      dsimp only at hl1
      refine tk ⟨F2, H2, [], fun _ => none⟩ F2 H2 (wipe σ own) (wipeE (lock e) own) x d e2 _ S3' r2 q fun σ2 S4 off => ⟨by rw [wipe_off off sub, wipe_wipe], ⟨F2, H2, [], fun _ => none⟩, F2, e2, S4, ?_⟩
      have A2 : H2 A = some o := g2.h _ _ upd_same
      have FA : F2 A = none := g2.nf A _ upd_same (hNT _ _ _ ra) (none_le S1.le nA)
      cases q2 : c e2 with
      | no => rw [q2] at hl1; cases hl1
      | ex z e3 => rw [q2] at hl1; cases hl1
      | ok b e3 =>
        rw [q2] at hl1
        intro F3 H3 f3 T3
        cases b with
        | false =>
          refine iteF ?_
          obtain ⟨k1, k2, k3, bk⟩ := back_all (hNT _ _ _ ra) nA S1.le g2 T3
          exact ⟨F3, cutA H3 A, acc, o, f1'.trans k3, bk S1, cutA_self, cutA_in k1, mono _ _ _ _ k3 ra, hl1⟩
        | true =>
          dsimp only at hl1
          refine iteT ?_
          cases q3 : bd e3 acc with
          | none => rw [q3] at hl1; cases hl1
          | some acc' =>
            rw [q3] at hl1
            dsimp only at hl1
            refine hB ⟨F2, H2, [], fun _ => none⟩ F3 H3 σ2 e3 acc acc' o _ T3 A2 FA rfl (mono _ _ _ _ (g2.f.trans f3) ra) q3 fun F6 H6 e6 o' f6 T6 ra' => ?_
            obtain ⟨k1, k2, k3, bk⟩ := back_all (hNT _ _ _ ra) nA S1.le g2 T6
            exact ⟨F6, cutA H6 A, acc', o', f1'.trans k3, bk S1, cutA_self, cutA_upd o', ra', hl1⟩
  · have e0 : ds.drop i = [] := List.drop_eq_nil_of_le (Nat.le_of_not_lt hlt)
    rw [e0] at hl1
    unfold cpG at hl1
    cases hl1
    exact .inl ⟨w2 (Nat.le_of_not_lt hlt), P F1 Hm o f1' S1 nA ra⟩
theorem sc1_post {g : TG} {t : Tg} {own : List Nat} {w : WV} {c : TV} {f : EV} {Q : VK} (tk : TgOk Z g t) (sub : ∀ i ∈ tgIx t, i ∈ own) (S : SOk Z N F H σ e) (P : PostE Z N F σ W Q (eSc1 own t w c f e)) : tSc1 (adK Z.P Z.w) (fun _ _ R => PostW Z N F σ W R (w e)) g (tTv Z W0 c) (tEv Z W0 f) own σ H Q := by
  unfold eSc1 at P
  show PostW Z N F σ W _ (w e)
  cases q : w e with
  | no => rw [q] at P; exact P
  | ex z e1 => rw [q] at P; exact P
  | ok xs e1 =>
    rw [q] at P
    dsimp only at P
    cases q1 : cpG t c (bdE f addS) xs (wipeE (lock e1) own) [] with
    | none => rw [q1] at P; exact P.elim
    | some ys =>
      rw [q1] at P
      dsimp only at P
      intro J F1 H1 fs S1 wk A hA
      refine cpG_sound (Acc := fun F ks o => o = SetGO Z.P Z.w A ks ∧ kOk ks) (Bd := fun σ H Nx => tEv Z W0 f σ H fun y H7 => (adK Z.P Z.w).ad y A H7 Nx) (acc0 := []) (o0 := SetGO Z.P Z.w A []) ?_ ?_ ?_ tk sub S1 wk q1 ⟨rfl, fun x hx => by cases hx⟩ hA ?_
      · rintro F F' acc o f r
        exact r
      · rintro F acc o ⟨rfl, r⟩ _ z; cases z
      · rintro N3 F3 H3 σ3 e3 ks ks' o Nx T3 hN hF hM ⟨rfl, r⟩ hb hn
        refine ⟨N3, F3, e3, T3, ?_⟩
        unfold bdE at hb
        cases q3 : f e3 with
        | no => rw [q3] at hb; cases hb
        | ex z e4 => rw [q3] at hb; cases hb
        | ok rr e4 =>
          rw [q3] at hb
          dsimp only at hb
          cases q4 : stl rr e4 with
          | none => rw [q4] at hb; cases hb
          | some pr =>
            obtain ⟨x', e5⟩ := pr
            rw [q4] at hb
            intro v F5 H5 f5 T5 R5
            obtain ⟨F6, f6, T6, r6⟩ := RvOk.stl T5 R5 q4
            have ha : addS ks x' = some ks' := hb
            unfold addS at ha
            cases hk : toKey x' with
            | none => rw [hk] at ha; cases ha
            | some k =>
              rw [hk] at ha
              dsimp only at ha
              split at ha
              · rename_i hz
                cases ha
                have kk : kOk [k] := toKeys_ok (ds := [x']) (.cons r6 .nil) (by simp only [toKeys, hk])
                exact ⟨k, ks, toKey_rd (H := H5) (.inl r6) hk, T6.h0 A _ hN (by rw [hM]; simp), by unfold PySem.scanBound; omega, hn F6 H5 e5 _ (f5.trans f6) T6 ⟨rfl, kOk_add r kk⟩⟩
              · cases ha
      · rintro F' Hm o f' S' nA ⟨rfl, r⟩
        exact P (.ref A) F' _ (fs.trans f') (S'.gr (Gr.lay S'.le nA)) (S'.rvok (Gr.lay S'.le nA) ⟨A, rfl, nA, none_le S'.le nA, upd_same, r⟩)
theorem sc1_rd {g : TG} {t : Tg} {own : List Nat} {w : WV} {c : TV} {f : EV} {Q : VK} (tk : TgOk Z g t) (sub : ∀ i ∈ tgIx t, i ∈ own) (h : tEv Z W (eSc1 own t w c f) σ H Q) : tSc1 (adK Z.P Z.w) (tWv Z W w) g (tTv Z W0 c) (tEv Z W0 f) own σ H Q :=
  let ⟨N, F, e, S, P⟩ := h
  ⟨N, F, e, S, sc1_post tk sub S P⟩
theorem lenSc_post {g : TG} {t : Tg} {own : List Nat} {w : WV} {c : TV} {f : EV} {Q : VK} (tk : TgOk Z g t) (sub : ∀ i ∈ tgIx t, i ∈ own) (S : SOk Z N F H σ e) (P : PostE Z N F σ W Q (eLenSc own t w c f e)) :
    tSc1 (adT Z.P Z.w Z.K) (fun _ _ R => PostW Z N F σ W R (w e)) g (tTv Z W0 c) (tEv Z W0 f) own σ H fun v H2 => ∃ a L, [v] = [V.ref a] ∧ H2 a = some (STK.SetTO Z.P Z.w a L) ∧ Q (.int (L.length : Nat)) H2 := by
  unfold eLenSc at P
  show PostW Z N F σ W _ (w e)
  cases q : w e with
  | no => rw [q] at P; exact P
  | ex z e1 => rw [q] at P; exact P
  | ok xs e1 =>
    rw [q] at P
    dsimp only at P
    cases q1 : cpG t c (bdE f addT) xs (wipeE (lock e1) own) [] with
    | none => rw [q1] at P; exact P.elim
    | some ys =>
      rw [q1] at P
      dsimp only at P
      intro J F1 H1 fs S1 wk A hA
      refine cpG_sound (Acc := fun F (ks : List (List Key)) o => ∃ L : List (Addr × List Key), o = STK.SetTO Z.P Z.w A L ∧ (L.map (·.2)).Perm ks ∧ ∀ p ∈ L, F p.1 = some (.tup (p.2.map kV))) (Bd := fun σ H Nx => tEv Z W0 f σ H fun y H7 => (adT Z.P Z.w Z.K).ad y A H7 Nx) (acc0 := []) (o0 := STK.SetTO Z.P Z.w A []) (Q := fun v H2 => ∃ a L, [v] = [V.ref a] ∧ H2 a = some (STK.SetTO Z.P Z.w a L) ∧ Q (.int (L.length : Nat)) H2) ?_ ?_ ?_ tk sub S1 wk q1 ⟨[], rfl, .nil, fun p hp => by cases hp⟩ hA ?_
      · rintro F F' acc o f ⟨L, h1, h2, h3⟩
        exact ⟨L, h1, h2, fun p hp => f _ _ (h3 p hp)⟩
      · rintro F acc o ⟨L, rfl, _⟩ _ z; unfold STK.SetTO at z; cases z
      · rintro N3 F3 H3 σ3 e3 ks ks' o Nx T3 hN hF hM ⟨L, rfl, pm, hL⟩ hb hn
        refine ⟨N3, F3, e3, T3, ?_⟩
        unfold bdE at hb
        cases q3 : f e3 with
        | no => rw [q3] at hb; cases hb
        | ex z e4 => rw [q3] at hb; cases hb
        | ok rr e4 =>
          rw [q3] at hb
          dsimp only at hb
          cases q4 : stl rr e4 with
          | none => rw [q4] at hb; cases hb
          | some pr =>
            obtain ⟨x', e5⟩ := pr
            rw [q4] at hb
            intro v F5 H5 f5 T5 R5
            obtain ⟨F6, f6, T6, r6⟩ := RvOk.stl T5 R5 q4
            have ha : addT ks x' = some ks' := hb
            unfold addT at ha
            cases x' <;> try (cases ha; done)
            rename_i zs
            dsimp only at ha
            cases hk : toKeys zs with
            | none => rw [hk] at ha; cases ha
            | some k =>
              rw [hk] at ha
              dsimp only at ha
              split at ha
              · rename_i hz
                cases ha
                cases r6 with
                | @tup a xs _ hta rb =>
                  have ex : xs = k.map kV := toKeys_rd rb hk
                  rw [ex] at hta
                  have f36 : Same F3 F6 := f5.trans f6
                  refine ⟨a, k, L, rfl, SqT.of (T6.le _ _ hta), T6.h0 A _ hN (by rw [hM]; simp), fun p hp => SqT.of (T6.le _ _ (f36 _ _ (hL p hp))), by have := pm.length_eq; rw [List.length_map] at this; omega, fun L' c1 c2 => ?_⟩
                  refine hn F6 H5 e5 _ f36 T6 ⟨L', rfl, ?_, fun p hp => ?_⟩
                  · by_cases cm : k ∈ ks
                    · rw [if_pos (memK_iff.mpr cm), c1 (pm.mem_iff.mpr cm)]; exact pm
                    · rw [if_neg fun z => cm (memK_iff.mp z)]
                      have := (c2 fun z => cm (pm.mem_iff.mp z)).map (·.2)
                      refine this.trans ?_
                      rw [List.map_cons]
                      exact (pm.cons k).trans (List.perm_append_comm (l₁ := [k]) (l₂ := ks))
                  · by_cases cm : k ∈ ks
                    · rw [c1 (pm.mem_iff.mpr cm)] at hp; exact f36 _ _ (hL p hp)
                    · have := (c2 fun z => cm (pm.mem_iff.mp z)).mem_iff.mp hp
                      rcases List.mem_cons.mp this with z | z
                      · rw [z]; exact hta
                      · exact f36 _ _ (hL p z)
              · cases ha
      · rintro F' Hm o f' S' nA ⟨L, rfl, pm, hL⟩
        refine ⟨A, L, rfl, upd_same, ?_⟩
        have : L.length = ys.length := by have := pm.length_eq; rw [List.length_map] at this; exact this
        rw [this]
        exact P (.int _) F' _ (fs.trans f') (S'.gr (Gr.lay S'.le nA)) (.int _)
theorem lenSc_rd {g : TG} {t : Tg} {own : List Nat} {w : WV} {c : TV} {f : EV} {Q : VK} (tk : TgOk Z g t) (sub : ∀ i ∈ tgIx t, i ∈ own) (h : tEv Z W (eLenSc own t w c f) σ H Q) :
    tSc1 (adT Z.P Z.w Z.K) (tWv Z W w) g (tTv Z W0 c) (tEv Z W0 f) own σ H fun v H2 => ∃ a L, [v] = [V.ref a] ∧ H2 a = some (STK.SetTO Z.P Z.w a L) ∧ Q (.int (L.length : Nat)) H2 :=
  let ⟨N, F, e, S, P⟩ := h
  ⟨N, F, e, S, lenSc_post tk sub S P⟩
theorem dc_post {g : TG} {t : Tg} {own : List Nat} {w : WV} {c : TV} {f fv : EV} {Q : VK} (tk : TgOk Z g t) (sub : ∀ i ∈ tgIx t, i ∈ own) (S : SOk Z N F H σ e) (P : PostE Z N F σ W Q (eDc own t w c f fv e)) : tDc (fun _ _ R => PostW Z N F σ W R (w e)) g (tTv Z W0 c) (tEv Z W0 f) (tEv Z W0 fv) own σ H Q := by
  unfold eDc at P
  show PostW Z N F σ W _ (w e)
  cases q : w e with
  | no => rw [q] at P; exact P
  | ex z e1 => rw [q] at P; exact P
  | ok xs e1 =>
    rw [q] at P
    dsimp only at P
    cases q1 : cpG t c (bdD f fv) xs (wipeE (lock e1) own) [] with
    | none => rw [q1] at P; exact P.elim
    | some ys =>
      rw [q1] at P
      dsimp only at P
      intro J F1 H1 fs S1 wk A hA
      refine cpG_sound (Acc := fun F (ks : List (Key × D)) o => ∃ vs, o = .dK vs ∧ kOk (ks.map (·.1)) ∧ RpP Z F vs ks) (Bd := fun σ H Nx => tEv Z W0 f σ H fun y H4 => tEv Z W0 fv σ H4 fun z H5 => ∃ kvs k, y = kV k ∧ H5 A = some (.dK kvs) ∧ kvs.length < sizeLine ∧ Nx (upd H5 A (.dK (putK kvs k z)))) (acc0 := []) (o0 := .dK []) ?_ ?_ ?_ tk sub S1 wk q1 ⟨[], rfl, (fun x hx => by cases hx), .nil⟩ hA ?_
      · rintro F F' acc o f ⟨vs, rfl, qk, r⟩
        exact ⟨vs, rfl, qk, r.mono f⟩
      · rintro F acc o ⟨vs, rfl, _⟩ _ z; cases z
      · rintro N3 F3 H3 σ3 e3 ks ks' o Nx T3 hN hF hM ⟨vs, rfl, qk, ra⟩ hb hn
        refine ⟨N3, F3, e3, T3, ?_⟩
        unfold bdD at hb
        cases q3 : f e3 with
        | no => rw [q3] at hb; cases hb
        | ex z e4 => rw [q3] at hb; cases hb
        | ok rr e4 =>
          rw [q3] at hb
          dsimp only at hb
          intro y F4 H4 f4 T4 R4
          cases d1 : S3.rd rr e4 with
          | none => rw [d1] at hb; cases hb
          | some dy =>
            rw [d1] at hb
            dsimp only [Option.bind] at hb
            cases hk : toKey dy with
            | none => rw [hk] at hb; cases hb
            | some k =>
              rw [hk] at hb
              dsimp only at hb
              obtain ⟨Fh, fh, Th, hh⟩ := RvOk.hold T4 R4
              have ey : y = kV k := toKey_rd (hh.rd Th d1) hk
              have kk : kOk [k] := toKey_okR (hh.rd Th d1) hk
              refine ⟨N3, Fh, e4, Th, ?_⟩
              cases q5 : fv e4 with
              | no => rw [q5] at hb; cases hb
              | ex z e5 => rw [q5] at hb; cases hb
              | ok qq e5 =>
                rw [q5] at hb
                dsimp only at hb
                intro z F5 H5 f5 T5 R5
                cases q6 : stl qq e5 with
                | none => rw [q6] at hb; cases hb
                | some pr =>
                  obtain ⟨x', e6⟩ := pr
                  rw [q6] at hb
                  dsimp only at hb
                  split at hb
                  · rename_i hz
                    cases hb
                    obtain ⟨F6, f6, T6, r6⟩ := RvOk.stl T5 R5 q6
                    have ff : Same F3 F6 := f4.trans (fh.trans (f5.trans f6))
                    exact ⟨vs, k, ey, T6.h0 A _ hN (by rw [hM]; simp), by rw [ra.length, sizeLine_eq]; exact hz, hn F6 H5 e6 _ ff T6 ⟨_, rfl, kOk_put qk kk, (ra.mono ff).put k r6⟩⟩
                  · cases hb
      · rintro F' Hm o f' S' nA ⟨vs, rfl, qk, r⟩
        exact P (.ref A) F' _ (fs.trans f') (S'.gr (Gr.lay S'.le nA)) (S'.rvok (Gr.lay S'.le nA) ⟨A, rfl, nA, none_le S'.le nA, qk, vs, upd_same, r⟩)
theorem dc_rd {g : TG} {t : Tg} {own : List Nat} {w : WV} {c : TV} {f fv : EV} {Q : VK} (tk : TgOk Z g t) (sub : ∀ i ∈ tgIx t, i ∈ own) (h : tEv Z W (eDc own t w c f fv) σ H Q) : tDc (tWv Z W w) g (tTv Z W0 c) (tEv Z W0 f) (tEv Z W0 fv) own σ H Q :=
  let ⟨N, F, e, S, P⟩ := h
  ⟨N, F, e, S, dc_post tk sub S P⟩
end
section
variable {ca : Str → Option Addr} {W : WX} {X : Cx} {fe fv : EV} {w : WV} {c : TV} {elt vx tg iter : Expr} {ifs : List Expr} {scope : Scope} {own : List (Str × Nat)} {pos p q : Pos} {g : TG} {t : Tg}
theorem ev_sc1 (hu : X.A.units + 64 < cLine) (hc : X.calm = true) (hN : X.N.Nodup) (hi : Wv ca W X tg iter w) (ok : BlkOk X.N X.env.scope scope own) (tk : TgOk (zw ca X) g t) (sub : ∀ i ∈ tgIx t, i ∈ own.map (·.2))
    (hg : ∀ (s : Shared) (H : Hp) (C : Addr) (cl : List (Str × Addr)) (fp : List Addr), PG (X.blk s H scope (compEnvC scope cl C X.env) fp) tg g)
    (ht : ∀ (s : Shared) (H : Hp) (C : Addr) (cl : List (Str × Addr)) (fp : List Addr), PTs (X.blk s H scope (compEnvC scope cl C X.env) fp) ifs (tTv (zw ca X) W0 c))
    (he : ∀ (s : Shared) (H : Hp) (C : Addr) (cl : List (Str × Addr)) (fp : List Addr), Ev ca W0 (X.blk s H scope (compEnvC scope cl C X.env) fp) elt fe) (hs : ∀ x, foldedSetIterable iter X.env x = pure x := by intro _; rfl) :
    Ev ca W X (.SetComp elt [⟨tg, iter, ifs, 0⟩] scope pos) (eSc1 (own.map (·.2)) t w c fe) :=
  PE_imp (pe_sc1 (adK_ok X.prog X.w X.K) hu hc hN hi ok hg ht he hs) fun _ _ _ => sc1_rd (Z := zw ca X) tk sub
theorem ev_lenSc (hm : X.mg "len" = none) (hu : X.A.units + 64 < cLine) (hc : X.calm = true) (hN : X.N.Nodup) (hi : Wv ca W X tg iter w) (ok : BlkOk X.N X.env.scope scope own) (tk : TgOk (zw ca X) g t) (sub : ∀ i ∈ tgIx t, i ∈ own.map (·.2))
    (hg : ∀ (s : Shared) (H : Hp) (C : Addr) (cl : List (Str × Addr)) (fp : List Addr), PG (X.blk s H scope (compEnvC scope cl C X.env) fp) tg g)
    (ht : ∀ (s : Shared) (H : Hp) (C : Addr) (cl : List (Str × Addr)) (fp : List Addr), PTs (X.blk s H scope (compEnvC scope cl C X.env) fp) ifs (tTv (zw ca X) W0 c))
    (he : ∀ (s : Shared) (H : Hp) (C : Addr) (cl : List (Str × Addr)) (fp : List Addr), Ev ca W0 (X.blk s H scope (compEnvC scope cl C X.env) fp) elt fe) (hs : ∀ x, foldedSetIterable iter X.env x = pure x := by intro _; rfl) (hgl : Gl X "len" := by rfl)
    (hs2 : starEach [.SetComp elt [⟨tg, iter, ifs, 0⟩] scope q] X.env = (false, eval (.SetComp elt [⟨tg, iter, ifs, 0⟩] scope q) X.env) :: starEach [] X.env := by rfl) :
    Ev ca W X (.Call (.Name "len" p) [.SetComp elt [⟨tg, iter, ifs, 0⟩] scope q] [] pos) (eLenSc (own.map (·.2)) t w c fe) :=
  PE_imp (pe_callB call_lenT hgl hm boot_len (pa_cons (pe_sc1 (adT_ok X.prog X.w X.K) hu hc hN hi ok hg ht he hs) pa_nil hs2) (by decide) (by decide) hs2 (by rfl)) fun _ _ _ => lenSc_rd (Z := zw ca X) tk sub
theorem ev_dc (hc : X.calm = true) (hN : X.N.Nodup) (hi : Wv ca W X tg iter w) (ok : BlkOk X.N X.env.scope scope own) (tk : TgOk (zw ca X) g t) (sub : ∀ i ∈ tgIx t, i ∈ own.map (·.2))
    (hg : ∀ (s : Shared) (H : Hp) (C : Addr) (cl : List (Str × Addr)) (fp : List Addr), PG (X.blk s H scope (compEnvC scope cl C X.env) fp) tg g)
    (ht : ∀ (s : Shared) (H : Hp) (C : Addr) (cl : List (Str × Addr)) (fp : List Addr), PTs (X.blk s H scope (compEnvC scope cl C X.env) fp) ifs (tTv (zw ca X) W0 c))
    (hk : ∀ (s : Shared) (H : Hp) (C : Addr) (cl : List (Str × Addr)) (fp : List Addr), Ev ca W0 (X.blk s H scope (compEnvC scope cl C X.env) fp) elt fe)
    (he : ∀ (s : Shared) (H : Hp) (C : Addr) (cl : List (Str × Addr)) (fp : List Addr), Ev ca W0 (X.blk s H scope (compEnvC scope cl C X.env) fp) vx fv) (hs : ∀ x, foldedSetIterable iter X.env x = pure x := by intro _; rfl) :
    Ev ca W X (.DictComp elt vx [⟨tg, iter, ifs, 0⟩] scope pos) (eDc (own.map (·.2)) t w c fe fv) :=
  PE_imp (pe_dc hc hN hi ok hg ht hk he hs) fun _ _ _ => dc_rd (Z := zw ca X) tk sub
end
end S3

/-! J1: walks over dicts. A dict that is walked stands locked meanwhile. -/
namespace L2
open PySem PySem.Spec PyProof.Rows
/-- the thing that e answers is locked, or was -/
def tLockA (H0 : Hp) (t : TE) : TE := fun σ H Q => t σ H fun x H1 => ∃ d u, x = .ref d ∧ H1 d = some u ∧ ((Mut (some u) ∧ ∀ od, (∀ o' u', H0 d ≠ some (.frz o' u')) → Q x (upd H1 d (.frz od u))) ∨ Q x H1)
/-- in the end it is unlocked, or not -/
def unQ (H0 : Hp) (Q : VK) : VK := fun v H' => Q v H' ∨ ∃ d od u, H' d = some (.frz od u) ∧ (∀ o' u', H0 d ≠ some (.frz o' u')) ∧ Q v (upd H' d u)
def unN (H0 : Hp) (Q : St → Hp → Prop) : St → Hp → Prop := fun v H' => Q v H' ∨ ∃ d od u, H' d = some (.frz od u) ∧ (∀ o' u', H0 d ≠ some (.frz o' u')) ∧ Q v (upd H' d u)
def unE (H0 : Hp) (D : Ends) : Ends := ⟨unN H0 D.nx, unQ H0 D.rt, unN H0 D.bk, unN H0 D.ct⟩
section
variable {X : Cx}
theorem pe_lockA {e : Expr} {t : TE} (h : PE X e t) : PE X e (tLockA X.H_0 t) := by
  refine ⟨fun pins s σ H Q I hw => ?_⟩
  refine thn (h.run pins s σ _ _ I hw) fun v s1 ⟨x, H1, I1, r, d, u, ex, hd, q⟩ => ?_
  rcases q with ⟨mu, q⟩ | q
  · obtain ⟨od, I2⟩ := I1.lock hd mu
    exact ⟨x, _, I2, r, q od (I1.nofrz hd mu)⟩
  · exact ⟨x, H1, I1, r, q⟩
theorem unQ_inv {Q : VK} {pins : List (Addr × Obj)} {σ : St} {H : Hp} {s : Shared} {v : V} (I : Inv X pins σ H s) (q : unQ X.H_0 Q v H) : ∃ H', Inv X pins σ H' s ∧ Q v H' := by
  rcases q with q | ⟨d, od, u, h, n, q⟩
  · exact ⟨H, I, q⟩
  · exact ⟨_, I.unlock h n, q⟩
theorem unN_inv {Q : St → Hp → Prop} {pins : List (Addr × Obj)} {σ v : St} {H : Hp} {s : Shared} (I : Inv X pins σ H s) (q : unN X.H_0 Q v H) : ∃ H', Inv X pins σ H' s ∧ Q v H' := by
  rcases q with q | ⟨d, od, u, h, n, q⟩
  · exact ⟨H, I, q⟩
  · exact ⟨_, I.unlock h n, q⟩
theorem pe_unl {e : Expr} {t : TE} (h : PE X e t) : PE X e fun σ H Q => t σ H (unQ X.H_0 Q) := by
  refine ⟨fun pins s σ H Q I hw => ?_⟩
  refine thn (h.run pins s σ _ _ I hw) fun v s1 ⟨x, H1, I1, r, q⟩ => ?_
  obtain ⟨H2, I2, q2⟩ := unQ_inv I1 q
  exact ⟨x, H2, I2, r, q2⟩
theorem ps_unl {st : Stmt} {t : TS} (h : PS X st t) : PS X st fun D σ H => t (unE X.H_0 D) σ H := by
  refine ⟨fun pins s σ H D I hw => ?_⟩
  refine thn (h.run pins s σ _ _ I hw) fun f s1 q => ?_
  cases f with
  | next => obtain ⟨σ', H', I2, q⟩ := q; obtain ⟨H3, I3, q3⟩ := unN_inv I2 q; exact ⟨σ', _, I3, q3⟩
  | brk => obtain ⟨σ', H', I2, q⟩ := q; obtain ⟨H3, I3, q3⟩ := unN_inv I2 q; exact ⟨σ', _, I3, q3⟩
  | cont => obtain ⟨σ', H', I2, q⟩ := q; obtain ⟨H3, I3, q3⟩ := unN_inv I2 q; exact ⟨σ', _, I3, q3⟩
  | ret v => obtain ⟨x, σ', H', I2, r, q⟩ := q; obtain ⟨H3, I3, q3⟩ := unQ_inv I2 q; exact ⟨x, σ', _, I3, r, q3⟩
end
end L2
namespace S3
open PySem L2
/-- a dict -/
def IsD : HO → Prop
  | .dK _ => True
  | .dT _ => True
  | _ => False
theorem IsD.mut {u : HO} (h : IsD u) : Mut (some u) := by cases u <;> simp [IsD] at h <;> exact trivial
/-- the same, but for locks on dicts -/
def LkS (F F' : Hp) : Prop := ∀ b o, F b = some o → F' b = some o ∨ (IsD o ∧ ∃ od, F' b = some (.frz od o)) ∨ ∃ od u, o = .frz od u ∧ IsD u ∧ F' b = some u
section
variable {Z : Wd} {F F' H H' : Hp}
theorem LkS.at (k : LkS F F') {b : Addr} {o : HO} (h : F b = some o) (n : ¬ IsD o) (nf : ∀ od u, o = .frz od u → ¬ IsD u) : F' b = some o := by
  rcases k b o h with z | ⟨z, _⟩ | ⟨od, u, z, i, _⟩
  · exact z
  · exact (n z).elim
  · exact (nf od u z i).elim
theorem LkS.rd (k : LkS F F') {b : Addr} {o : HO} (h : L2.Rd F b o) (n : ∀ od u, o ≠ .frz od u) : L2.Rd F' b o := by
  rcases h with h | ⟨od, h⟩
  · rcases k b o h with z | ⟨_, od, z⟩ | ⟨od, u, z, _⟩
    · exact .inl z
    · exact .inr ⟨od, z⟩
    · exact (n od u z).elim
  · rcases k b _ h with z | ⟨i, _⟩ | ⟨od', u, z, i, z2⟩
    · exact .inr ⟨od, z⟩
    · exact i.elim
    · cases z; exact .inl z2
theorem LkS.seqL (k : LkS F F') {K : PySem.W.Frag} {a : Addr} {xs : List V} (h : SqL K F a xs) : SqL K F' a xs := h.imp (fun h => k.rd h fun _ _ z => by cases z) id
theorem LkS.seqT (k : LkS F F') {K : PySem.W.Frag} {a : Addr} {xs : List V} (h : SqT K F a xs) : SqT K F' a xs := h.imp (fun h => k.rd h fun _ _ z => by cases z) id
mutual
theorem Rp.lk (k : LkS F F') : ∀ {v : V} {d : D}, Rp Z F v d → Rp Z F' v d
  | _, _, .non => .non
  | _, _, .bl b => .bl b
  | _, _, .int i => .int i
  | _, _, .str x h => .str x h
  | _, _, .lst h r => .lst (k.at h (fun z => z) fun _ _ z => by cases z) (RpA.lk k r)
  | _, _, .scr h r => .scr (k.seqL h) (RpA.lk k r)
  | _, _, .tup h r => .tup (k.at h (fun z => z) fun _ _ z => by cases z) (RpA.lk k r)
  | _, _, .kt h r => .kt (k.seqT h) (RpA.lk k r)
  | _, _, .dk h q r => .dk (k.rd h fun _ _ z => by cases z) q (RpP.lk k r)
  | _, _, .dt h q r => .dt (k.rd h fun _ _ z => by cases z) q (RpP.lk k r)
  | _, _, .st h n => .st (k.at h (fun z => z) fun _ _ z => by unfold SetGO at z; cases z) n
  | _, _, .obj c h r => .obj c (k.at h (fun z => z) fun _ _ z => by cases z) (RpP.lk k r)
  | _, _, .xn a b c kk h r => .xn a b c kk (h.imp id fun ⟨dd, x, y⟩ => ⟨dd, x, k.at y (fun z => z) fun _ _ z => by cases z⟩) (RpP.lk k r)
theorem RpA.lk (k : LkS F F') : ∀ {v : List V} {d : List D}, RpA Z F v d → RpA Z F' v d
  | _, _, .nil => .nil
  | _, _, .cons h r => .cons (Rp.lk k h) (RpA.lk k r)
theorem RpP.lk (k : LkS F F') : ∀ {κ : Type} {v : List (κ × V)} {d : List (κ × D)}, RpP Z F v d → RpP Z F' v d
  | _, _, _, .nil => .nil
  | _, _, _, .cons h r => .cons (Rp.lk k h) (RpP.lk k r)
end
theorem Top.lk {a : Addr} {d : D} (h : Top Z F H a d) (e : LkS F F') (k : ∀ o, H a = some o → H' a = some o) : Top Z F' H' a d := by
  cases d <;> simp only [Top] at h ⊢
  case lst => obtain ⟨_, h, r⟩ := h; exact ⟨_, k _ h, r.lk e⟩
  case dk => obtain ⟨q, _, h, r⟩ := h; exact ⟨q, _, k _ h, r.lk e⟩
  case dt => obtain ⟨q, _, h, r⟩ := h; exact ⟨q, _, k _ h, r.lk e⟩
  case st => exact ⟨k _ h.1, h.2⟩
  case obj => obtain ⟨_, _, _, c, h, r⟩ := h; exact ⟨_, _, _, c, k _ h, r.lk e⟩
/-- the object at d is another one -/
def lkH (G : Hp) (d : Addr) (f : HO → HO) : Hp := fun b => if b = d then (G d).map f else G b
theorem lkH_d {G : Hp} {d : Addr} {f : HO → HO} : lkH G d f d = (G d).map f := if_pos rfl
theorem lkH_ne {G : Hp} {d b : Addr} {f : HO → HO} (h : b ≠ d) : lkH G d f b = G b := if_neg h
/-- two entries that differ at d alone -/
structure NLk (d : Addr) (N N' : En) : Prop where
  m : N'.M = N.M
  mi : N'.mi = N.mi
  f : ∀ b, b ≠ d → N'.F b = N.F b
  h : ∀ b, b ≠ d → N'.H b = N.H b
  fn : N'.F d = none ↔ N.F d = none
  hn : N'.H d = none ↔ N.H d = none
variable {N N' : En} {σ : L2.St} {e : Env}
theorem SOk.relock (S : SOk Z N F H σ e) {d : Addr} {u u' : HO} (k : LkS F F') (nk : NLk d N N') (hF : ∀ b, b ≠ d → F' b = F b) (hH : ∀ b, b ≠ d → H' b = H b) (fd : F d = some u) (nu : NT u) (fd' : F' d = some u') (hd' : H' d = some u')
    (f0 : ∀ o, N'.F d = some o → o = u') (h0 : ∀ o, N'.H d = some o → o = u') : SOk Z N' F' H' σ e := by
  have hd : H d = some u := S.le _ _ fd
  have nf : ∀ a, F a = none → a ≠ d := fun a h z => by rw [z, fd] at h; cases h
  have nM : ∀ a ∈ N.M, a ≠ d := fun a m => nf a (S.mh a m).1
  have hN : ∀ b, N'.H b = none ↔ N.H b = none := fun b => by
    by_cases z : b = d
    · rw [z]; exact nk.hn
    · rw [nk.h b z]
  have hs : ∀ b, (∃ o, N.H b = some o) → ∃ o, N'.H b = some o := fun b ⟨o, h⟩ => by
    cases q : N'.H b with
    | some o => exact ⟨o, rfl⟩
    | none => rw [(hN b).mp q] at h; cases h
  refine ⟨fun b o h => ?_, fun b o h => ?_, fun b o h m => ?_, fun b o h nt fn => ?_, S.len, fun i s hi => ?_, fun i j s t a g1 g2 ne o l1 l2 => ?_, fun a ha => ?_, fun i t hi => ?_⟩
  · by_cases z : b = d
    · subst z; rw [fd'] at h; cases h; exact hd'
    · rw [hF b z] at h; rw [hH b z]; exact S.le _ _ h
  · by_cases z : b = d
    · subst z; rw [f0 o h]; exact fd'
    · rw [nk.f b z] at h; rw [hF b z]; exact S.f0 _ _ h
  · by_cases z : b = d
    · subst z; rw [h0 o h]; exact hd'
    · rw [nk.h b z] at h; rw [nk.m] at m; rw [hH b z]; exact S.h0 _ _ h m
  · by_cases z : b = d
    · subst z
      exfalso
      have n1 := nk.fn.mp fn
      cases q : N.H b with
      | none => rw [nk.hn.mpr q] at h; cases h
      | some o2 =>
        have e2 := S.h0 b o2 q fun m => nM b m rfl
        rw [hd] at e2
        cases e2
        rw [S.nf b u q nu n1] at fd; cases fd
    · rw [nk.h b z] at h; rw [nk.f b z] at fn; rw [hF b z]; exact S.nf b o h nt fn
  · obtain ⟨o, h1, h2⟩ := S.slot i s hi
    refine ⟨o, h1, ?_⟩
    cases s with
    | no => trivial
    | fz t => obtain ⟨v, e, r⟩ := h2; exact ⟨v, e, r.lk k⟩
    | ow t => obtain ⟨a, e, x, y, r⟩ := h2; have z := nf a x; exact ⟨a, e, by rw [hF a z]; exact x, (hN a).mpr y, r.lk k fun o q => by rw [hH a z]; exact q⟩
    | mu t => obtain ⟨a, e, x, y, r⟩ := h2; have z := nf a x; exact ⟨a, e, by rw [hF a z]; exact x, by rw [nk.m]; exact y, r.lk k fun o q => by rw [hH a z]; exact q⟩
    | bo t =>
      obtain ⟨v, e, r⟩ := h2
      refine ⟨v, e, ?_⟩
      rcases r with r | ⟨a, e2, x, y, m, r⟩
      · exact .inl (r.lk k)
      · have z := nf a x
        exact .inr ⟨a, e2, by rw [hF a z]; exact x, hs a y, by rw [nk.m]; exact m, r.lk k fun o q => by rw [hH a z]; exact q⟩
  · have lv : ∀ {o : Option V} {s : Sl}, Live Z F' o s a → Live Z F o s a := fun {o s} l => by
      cases s <;> simp only [Live] at l ⊢ <;> try exact l
      exact ⟨l.1, fun r => l.2 (r.lk k)⟩
    exact S.sep i j s t a g1 g2 ne o (lv l1) (lv l2)
  · rw [nk.m] at ha
    obtain ⟨x, ⟨o, y, ny⟩, z⟩ := S.mh a ha
    have ne := nM a ha
    exact ⟨by rw [hF a ne]; exact x, ⟨o, by rw [hH a ne]; exact y, ny⟩, hs a z⟩
  · obtain ⟨a, h1, h2⟩ := S.mus i t hi
    exact ⟨a, h1, by rw [nk.mi]; exact h2⟩
/-- the entry with d locked -/
def lkN (N : En) (d : Addr) (od : Obj) : En := ⟨lkH N.F d (.frz od), lkH N.H d (.frz od), N.M, N.mi⟩
theorem IsD.nt {u : HO} (h : IsD u) : NT u := fun xs z => by rw [z] at h; exact h
theorem lk_lock {d : Addr} {od : Obj} {u : HO} (fd : F d = some u) (i : IsD u) : LkS F (upd F d (.frz od u)) := fun b o h => by
  by_cases z : b = d
  · subst z; rw [fd] at h; cases h; exact .inr (.inl ⟨i, od, upd_same⟩)
  · exact .inl (by rw [upd_ne z]; exact h)
theorem lk_unlock {d : Addr} {od : Obj} {u : HO} (fd : F d = some (.frz od u)) (i : IsD u) : LkS F (upd F d u) := fun b o h => by
  by_cases z : b = d
  · subst z; rw [fd] at h; cases h; exact .inr (.inr ⟨od, u, rfl, i, upd_same⟩)
  · exact .inl (by rw [upd_ne z]; exact h)
theorem SOk.lockD (S : SOk Z N F H σ e) {d : Addr} {od : Obj} {u : HO} (fd : F d = some u) (i : IsD u) : SOk Z (lkN N d od) (upd F d (.frz od u)) (upd H d (.frz od u)) σ e := by
  have nM : d ∉ N.M := fun m => by rw [(S.mh d m).1] at fd; cases fd
  refine S.relock (d := d) (lk_lock fd i) ⟨rfl, rfl, fun b z => lkH_ne z, fun b z => lkH_ne z, ?_, ?_⟩ (fun b z => upd_ne z) (fun b z => upd_ne z) fd i.nt upd_same upd_same (fun o h => ?_) fun o h => ?_
  · show lkH N.F d _ d = none ↔ _
    rw [lkH_d, Option.map_eq_none_iff]
  · show lkH N.H d _ d = none ↔ _
    rw [lkH_d, Option.map_eq_none_iff]
  · have h : lkH N.F d (.frz od) d = some o := h
    rw [lkH_d, Option.map_eq_some_iff] at h
    obtain ⟨x, h1, rfl⟩ := h
    have := S.f0 _ _ h1
    rw [fd] at this; cases this; rfl
  · have h : lkH N.H d (.frz od) d = some o := h
    rw [lkH_d, Option.map_eq_some_iff] at h
    obtain ⟨x, h1, rfl⟩ := h
    have := S.h0 _ _ h1 nM
    rw [S.le _ _ fd] at this; cases this; rfl
theorem frz_nt {od : Obj} {u : HO} : NT (.frz od u) := fun _ z => by cases z
theorem SOk.unlockD {d : Addr} {od : Obj} {u : HO} (S : SOk Z (lkN N d od) F' H' σ e) (fd' : F' d = some (.frz od u)) (i : IsD u) : SOk Z N (upd F' d u) (upd H' d u) σ e := by
  have nM : d ∉ N.M := fun m => by rw [(S.mh d m).1] at fd'; cases fd'
  refine S.relock (d := d) (lk_unlock fd' i) ⟨rfl, rfl, fun b z => (lkH_ne z).symm, fun b z => (lkH_ne z).symm, ?_, ?_⟩ (fun b z => upd_ne z) (fun b z => upd_ne z) fd' frz_nt upd_same upd_same (fun o h => ?_) fun o h => ?_
  · show _ ↔ lkH N.F d _ d = none
    rw [lkH_d, Option.map_eq_none_iff]
  · show _ ↔ lkH N.H d _ d = none
    rw [lkH_d, Option.map_eq_none_iff]
  · have := S.f0 d (.frz od o) (by show lkH N.F d _ d = _; rw [lkH_d, h]; rfl)
    rw [fd'] at this; cases this; rfl
  · have := S.h0 d (.frz od o) (by show lkH N.H d _ d = _; rw [lkH_d, h]; rfl) nM
    rw [S.le _ _ fd'] at this; cases this; rfl
theorem same_unlock {d : Addr} {od : Obj} {u : HO} {F3 : Hp} (fd : F d = some u) (f : Same (upd F d (.frz od u)) F3) : F3 d = some (.frz od u) ∧ Same F (upd F3 d u) := by
  have f3 : F3 d = some (.frz od u) := f _ _ upd_same
  refine ⟨f3, fun b o h => ?_⟩
  by_cases z : b = d
  · subst z; rw [fd] at h; cases h; exact upd_same
  · rw [upd_ne z]; exact f _ _ (by rw [upd_ne z]; exact h)
theorem RvOk.unlockD {d : Addr} {od : Obj} {u : HO} {v : V} {r : RV} (S : SOk Z (lkN N d od) F' H' σ e) (R : RvOk Z (lkN N d od) F' H' σ e v r) (fd' : F' d = some (.frz od u)) (i : IsD u) : RvOk Z N (upd F' d u) (upd H' d u) σ e v r := by
  have k := lk_unlock fd' i
  cases r with
  | fz t => exact Rp.lk k R
  | nw t =>
    obtain ⟨a, rfl, fa, na, tt, ap⟩ := R
    have z : a ≠ d := fun z => by rw [z, fd'] at fa; cases fa
    refine ⟨a, rfl, by rw [upd_ne z]; exact fa, ?_, tt.lk k fun o q => by rw [upd_ne z]; exact q, fun j s hj l => ap j s hj ?_⟩
    · have : lkH N.H d (.frz od) a = none := na
      rw [lkH_ne z] at this; exact this
    · cases s <;> simp only [Live] at l ⊢ <;> try exact l
      exact ⟨l.1, fun r => l.2 (r.lk k)⟩
  | «at» j => exact R
end
end S3

/-! J2: walks over dicts: the rules. -/
namespace S3
open PySem PySem.Spec L2 STK
def kyD : Key → D
  | .inl i => .int i
  | .inr x => .str x
/-- a dict is walked: its keys, its pairs, its values -/
def wDict (f : EV) : WV := fun e => match f e with
  | .ok r e1 => (match stl r e1 with
    | some (.dk ds, e2) => .ok (ds.map fun p => kyD p.1) e2
    | some (.dt ds, e2) => .ok (ds.map fun p => .tup (p.1.map kyD)) e2
    | _ => .no)
  | .ex x e1 => .ex x e1
  | .no => .no
def wItems (f : EV) : WV := fun e => match f e with
  | .ok r e1 => (match stl r e1 with
    | some (.dk ds, e2) => .ok (ds.map fun p => .tup [kyD p.1, p.2]) e2
    | _ => .no)
  | .ex x e1 => .ex x e1
  | .no => .no
def wVals (f : EV) : WV := fun e => match f e with
  | .ok r e1 => (match stl r e1 with
    | some (.dk ds, e2) => .ok (ds.map fun p => p.2) e2
    | _ => .no)
  | .ex x e1 => .ex x e1
  | .no => .no
/-- no exception leaves -/
def noX : RS → RS
  | .ex _ _ => .no
  | r => r
/-- for over a dict -/
def sForD (tmp : List Nat) (t : Tg) (w : WV) (b : SV) : SV := fun e => noX (sFor tmp t w b e)
section
variable {Z : Wd} {F F' H H' : Hp} {N : En} {σ : L2.St} {e e' : Env} {v x y : V} {W : WX} {E : Ends} {H0 : Hp}
def PostL (Z : Wd) (N : En) (F : Hp) (σ : L2.St) (W : WX) (H0 : Hp) (R : It → Hp → Prop) : RW → Prop
  | .no => False
  | .ok xs e => ∀ J F' H', Same F F' → SOk Z N F' H' σ e → (WalkOk Z N F' J xs → R J H') ∧ ∀ d u od, F' d = some u → IsD u → (∀ o' u', H0 d ≠ some (.frz o' u')) → WalkOk Z (lkN N d od) (upd F' d (.frz od u)) J xs → R J (upd H' d (.frz od u))
  | .ex x e => ∀ cls d F' H', Same F F' → SOk Z N F' H' σ e → ExOk Z F' H' x cls d → W cls d σ H'
def tWl (Z : Wd) (W : WX) (H0 : Hp) (w : WV) : TI := fun σ H R => ∃ N F e, SOk Z N F H σ e ∧ PostL Z N F σ W H0 R (w e)
theorem PostE.un {Q : VK} {r : RE} (P : PostE Z N F σ W Q r) : PostE Z N F σ W (unQ H0 Q) r := by
  cases r with
  | no => exact P
  | ok r e => exact fun v F1 H1 f1 S1 R1 => .inl (P v F1 H1 f1 S1 R1)
  | ex x e => exact P
theorem PostE.unl {Q : VK} {r : RE} {d : Addr} {u : HO} {od : Obj} (P : PostE Z N F σ W Q r) (fd : F d = some u) (i : IsD u) (nf : ∀ o' u', H0 d ≠ some (.frz o' u')) (nx : ∀ x e', r ≠ .ex x e') :
    PostE Z (lkN N d od) (upd F d (.frz od u)) σ W (unQ H0 Q) r := by
  cases r with
  | no => exact P
  | ok r e =>
    intro v F3 H3 f3 S3 R3
    obtain ⟨g1, g2⟩ := same_unlock fd f3
    exact .inr ⟨d, od, u, S3.le _ _ g1, nf, P v _ _ g2 (S3.unlockD g1 i) (R3.unlockD S3 g1 i)⟩
  | ex x e => exact (nx x e rfl).elim
theorem PostS.un {r : RS} (P : PostS Z N F W E r) : PostS Z N F W (unE H0 E) r := by
  cases r with
  | no => exact P
  | nx e => exact fun F1 H1 σ1 f1 S1 => .inl (P F1 H1 σ1 f1 S1)
  | rt r e => exact fun v F1 H1 σ1 f1 S1 R1 => .inl (P v F1 H1 σ1 f1 S1 R1)
  | bk e => exact fun F1 H1 σ1 f1 S1 => .inl (P F1 H1 σ1 f1 S1)
  | ct e => exact fun F1 H1 σ1 f1 S1 => .inl (P F1 H1 σ1 f1 S1)
  | ex x e => exact P
theorem PostS.unl {r : RS} {d : Addr} {u : HO} {od : Obj} (P : PostS Z N F W E r) (fd : F d = some u) (i : IsD u) (nf : ∀ o' u', H0 d ≠ some (.frz o' u')) (nx : ∀ x e', r ≠ .ex x e') :
    PostS Z (lkN N d od) (upd F d (.frz od u)) W (unE H0 E) r := by
  cases r with
  | no => exact P
  | nx e => exact fun F3 H3 σ3 f3 S3 => let ⟨g1, g2⟩ := same_unlock fd f3; .inr ⟨d, od, u, S3.le _ _ g1, nf, P _ _ σ3 g2 (S3.unlockD g1 i)⟩
  | bk e => exact fun F3 H3 σ3 f3 S3 => let ⟨g1, g2⟩ := same_unlock fd f3; .inr ⟨d, od, u, S3.le _ _ g1, nf, P _ _ σ3 g2 (S3.unlockD g1 i)⟩
  | ct e => exact fun F3 H3 σ3 f3 S3 => let ⟨g1, g2⟩ := same_unlock fd f3; .inr ⟨d, od, u, S3.le _ _ g1, nf, P _ _ σ3 g2 (S3.unlockD g1 i)⟩
  | rt r e =>
    intro v F3 H3 σ3 f3 S3 R3
    obtain ⟨g1, g2⟩ := same_unlock fd f3
    exact .inr ⟨d, od, u, S3.le _ _ g1, nf, P v _ _ σ3 g2 (S3.unlockD g1 i) (R3.unlockD S3 g1 i)⟩
  | ex x e => exact (nx x e rfl).elim
/-- an expression that walks a dict -/
theorem lock_e {TL : TI → TE} {G : WV → EV} {w : WV} {Q : VK} (hTL : ∀ σ (Q : VK), ∃ Rs, ∀ (T : TI) H, TL T σ H Q = T σ H Rs)
    (post : ∀ N F H σ e w Q, SOk Z N F H σ e → PostE Z N F σ W Q (G w e) → TL (fun _ _ R => PostW Z N F σ W R (w e)) σ H Q)
    (hG : ∀ e, (∀ xs e1, w e = .ok xs e1 → G w e = G (fun e => .ok xs e) e1 ∧ ∀ x e', G w e ≠ .ex x e') ∧ (∀ x e1, w e = .ex x e1 → G w e = .ex x e1) ∧ (w e = .no → G w e = .no))
    (h : tEv Z W (G w) σ H Q) : TL (tWl Z W H0 w) σ H (unQ H0 Q) := by
  obtain ⟨N, F, e, S, P⟩ := h
  obtain ⟨Rs, hR⟩ := hTL σ (unQ H0 Q)
  rw [hR]
  refine ⟨N, F, e, S, ?_⟩
  obtain ⟨g1, g2, g3⟩ := hG e
  cases q : w e with
  | no => rw [g3 q] at P; exact P
  | ex x e1 => rw [g2 x e1 q] at P; exact P
  | ok xs e1 =>
    obtain ⟨ge, gx⟩ := g1 xs e1 q
    rw [ge] at P gx
    intro J F1 H1 f1 S1
    have P1 := PostE.shift P f1
    refine ⟨fun wk => ?_, fun d u od fd i nf wk => ?_⟩
    · have k := post N F1 H1 σ e1 (fun e => .ok xs e) (unQ H0 Q) S1 (PostE.un P1)
      rw [hR] at k
      exact k J F1 H1 (Same.refl _) S1 wk
    · have S2 := S1.lockD (od := od) fd i
      have k := post _ _ _ σ e1 (fun e => .ok xs e) (unQ H0 Q) S2 (PostE.unl (H0 := H0) P1 fd i nf gx)
      rw [hR] at k
      exact k J _ _ (Same.refl _) S2 wk
theorem lock_s {TL : TI → TS} {G : WV → SV} {w : WV} (hTL : ∀ σ E, ∃ Rs, ∀ (T : TI) H, TL T E σ H = T σ H Rs)
    (post : ∀ N F H σ e w E, SOk Z N F H σ e → PostS Z N F W E (G w e) → TL (fun _ _ R => PostW Z N F σ W R (w e)) E σ H)
    (hG : ∀ e, (∀ xs e1, w e = .ok xs e1 → G w e = G (fun e => .ok xs e) e1 ∧ ∀ x e', G w e ≠ .ex x e') ∧ (∀ x e1, w e = .ex x e1 → G w e = .no) ∧ (w e = .no → G w e = .no))
    (h : tSv Z W (G w) E σ H) : TL (tWl Z W H0 w) (unE H0 E) σ H := by
  obtain ⟨N, F, e, S, P⟩ := h
  obtain ⟨Rs, hR⟩ := hTL σ (unE H0 E)
  rw [hR]
  refine ⟨N, F, e, S, ?_⟩
  obtain ⟨g1, g2, g3⟩ := hG e
  cases q : w e with
  | no => rw [g3 q] at P; exact P
  | ex x e1 => rw [g2 x e1 q] at P; exact P.elim
  | ok xs e1 =>
    obtain ⟨ge, gx⟩ := g1 xs e1 q
    rw [ge] at P gx
    intro J F1 H1 f1 S1
    have P1 := PostS.shift P f1
    refine ⟨fun wk => ?_, fun d u od fd i nf wk => ?_⟩
    · have k := post N F1 H1 σ e1 (fun e => .ok xs e) (unE H0 E) S1 (PostS.un P1)
      rw [hR] at k
      exact k J F1 H1 (Same.refl _) S1 wk
    · have S2 := S1.lockD (od := od) fd i
      have k := post _ _ _ σ e1 (fun e => .ok xs e) (unE H0 E) S2 (PostS.unl (H0 := H0) P1 fd i nf gx)
      rw [hR] at k
      exact k J _ _ (Same.refl _) S2 wk
/-! ### the walkers -/
theorem rp_key {k : Key} (h : kOk [k]) : Rp Z F (kV k) (kyD k) := by
  cases k with
  | inl i => exact .int i
  | inr x => exact .str x (h x List.mem_cons_self)
theorem kOk_at {ks : List Key} {k : Key} (h : kOk ks) (m : k ∈ ks) : kOk [k] := fun x hx => h x (by rw [List.mem_singleton] at hx; rw [hx]; exact m)
theorem rpa_keys : ∀ {ks : List Key}, kOk ks → RpA Z F (ks.map kV) (ks.map kyD)
  | [], _ => .nil
  | k :: ks, h => .cons (rp_key (kOk_at h List.mem_cons_self)) (rpa_keys fun x hx => h x (List.mem_cons_of_mem _ hx))
theorem RpP.get {κ : Type} : ∀ {vs : List (κ × V)} {ds : List (κ × D)} {i : Nat} {k : κ} {v : V}, RpP Z F vs ds → vs[i]? = some (k, v) → ∃ d, ds[i]? = some (k, d) ∧ Rp Z F v d
  | _, _, _, _, _, .nil, h => by simp at h
  | _, _, 0, _, _, .cons h _, q => by simp at q; obtain ⟨rfl, rfl⟩ := q; exact ⟨_, rfl, h⟩
  | _, _, i + 1, _, _, .cons _ r, q => by
    obtain ⟨v, h1, h2⟩ := RpP.get (i := i) r (by simpa using q)
    exact ⟨v, by simpa using h1, h2⟩
theorem walk_Itk {d : Addr} {o : Obj} {kvs : List (Key × V)} {ds : List (Key × D)} (fd : F d = some (.frz o (.dK kvs))) (qk : kOk (ds.map (·.1))) (r : RpP Z F kvs ds) : WalkOk Z N F (Itk d o kvs) (ds.map fun p => kyD p.1) := fun F' H' σ' e' S' f i => by
  have hd := S'.le _ _ (f _ _ fd)
  refine ⟨fun t ht => ?_, fun hl => ⟨hd, by rw [r.length]; simpa using hl⟩⟩
  rw [List.getElem?_map, Option.map_eq_some_iff] at ht
  obtain ⟨p, hp, rfl⟩ := ht
  refine ⟨⟨hd, by rw [r.length]; exact (List.getElem?_eq_some_iff.mp hp).1⟩, fun x H2 ⟨eH, k, v, hk, ex⟩ => ?_⟩
  subst eH ex
  obtain ⟨t, h1, _⟩ := r.get hk
  rw [hp] at h1
  cases h1
  exact ⟨F', Gr.refl S'.le, rp_key (kOk_at qk (List.mem_map.mpr ⟨_, List.mem_of_getElem? hp, rfl⟩))⟩
theorem walk_Itd {d : Addr} {o : Obj} {kvs : List (Key × V)} {ds : List (Key × D)} (fd : F d = some (.frz o (.dK kvs))) (r : RpP Z F kvs ds) : WalkOk Z N F (Itd d o kvs) (ds.map fun p => p.2) := fun F' H' σ' e' S' f i => by
  have hd := S'.le _ _ (f _ _ fd)
  refine ⟨fun t ht => ?_, fun hl => ⟨hd, by rw [r.length]; simpa using hl⟩⟩
  rw [List.getElem?_map, Option.map_eq_some_iff] at ht
  obtain ⟨p, hp, rfl⟩ := ht
  refine ⟨⟨hd, by rw [r.length]; exact (List.getElem?_eq_some_iff.mp hp).1⟩, fun x H2 ⟨eH, k, hk⟩ => ?_⟩
  subst eH
  obtain ⟨t, h1, h2⟩ := r.get hk
  rw [hp] at h1
  cases h1
  exact ⟨F', Gr.refl S'.le, h2.mono f⟩
theorem walk_Iti {d : Addr} {o : Obj} {kvs : List (Key × V)} {ds : List (Key × D)} (fd : F d = some (.frz o (.dK kvs))) (qk : kOk (ds.map (·.1))) (r : RpP Z F kvs ds) : WalkOk Z N F (Iti d o kvs) (ds.map fun p => .tup [kyD p.1, p.2]) := fun F' H' σ' e' S' f i => by
  have hd := S'.le _ _ (f _ _ fd)
  refine ⟨fun t ht => ?_, fun hl => ⟨hd, by rw [r.length]; simpa using hl⟩⟩
  rw [List.getElem?_map, Option.map_eq_some_iff] at ht
  obtain ⟨p, hp, rfl⟩ := ht
  refine ⟨⟨hd, by rw [r.length]; exact (List.getElem?_eq_some_iff.mp hp).1⟩, fun x H2 ⟨T, k, v, hk, ex, hT, eH⟩ => ?_⟩
  subst eH ex
  obtain ⟨t, h1, h2⟩ := r.get hk
  rw [hp] at h1
  cases h1
  have g := Gr.layF S'.le (o := .tup [kV k, v]) hT
  exact ⟨_, g, .tup upd_same (.cons (rp_key (kOk_at qk (List.mem_map.mpr ⟨_, List.mem_of_getElem? hp, rfl⟩))) (.cons ((h2.mono f).mono g.f) .nil))⟩
theorem walk_Itkt {d : Addr} {o : Obj} {kvs : List (List Key × V)} {ds : List (List Key × D)} (fd : F d = some (.frz o (.dT kvs))) (qk : ∀ p ∈ ds, kOk p.1) (r : RpP Z F kvs ds) : WalkOk Z N F (Itkt d o kvs) (ds.map fun p => .tup (p.1.map kyD)) := fun F' H' σ' e' S' f i => by
  have hd := S'.le _ _ (f _ _ fd)
  refine ⟨fun t ht => ?_, fun hl => ⟨hd, by rw [r.length]; simpa using hl⟩⟩
  rw [List.getElem?_map, Option.map_eq_some_iff] at ht
  obtain ⟨p, hp, rfl⟩ := ht
  refine ⟨⟨hd, by rw [r.length]; exact (List.getElem?_eq_some_iff.mp hp).1⟩, fun x H2 ⟨eH, k, v, q, hk, ex, hq⟩ => ?_⟩
  subst eH ex
  obtain ⟨t, h1, h2⟩ := r.get hk
  rw [hp] at h1
  cases h1
  have rk : ∀ F, RpA Z F (k.map kV) (k.map kyD) := fun F => rpa_keys (qk _ (List.mem_of_getElem? hp))
  cases fq : F' q with
  | some w =>
    have := S'.le _ _ fq
    rw [hq] at this
    cases this
    exact ⟨F', Gr.refl S'.le, .tup fq (rk _)⟩
  | none =>
    refine ⟨upd F' q (.tup (k.map kV)), ⟨same_upd fq, Same.refl _, upd_le S'.le hq, fun b u hb nt fb => ?_⟩, .tup upd_same (rk _)⟩
    have z : b ≠ q := fun z => by subst z; rw [hq] at hb; cases hb; exact nt _ rfl
    rw [upd_ne z]; exact fb
theorem wl_keys_rd {f : EV} {R : It → Hp → Prop} (h : tWl Z W H0 (wDict f) σ H R) : iKeys (tLockA H0 (tEv Z W f)) σ H R := by
  obtain ⟨N, F, e, S, P⟩ := h
  unfold wDict at P
  refine ⟨N, F, e, S, ?_⟩
  cases q : f e with
  | no => rw [q] at P; exact P
  | ex x e1 => rw [q] at P; exact P
  | ok r e1 =>
    rw [q] at P
    dsimp only at P
    intro v F1 H1 f1 S1 R1
    cases q1 : stl r e1 with
    | none => rw [q1] at P; exact P.elim
    | some pr =>
      obtain ⟨t, e2⟩ := pr
      rw [q1] at P
      obtain ⟨F2, f2, S2, r2⟩ := RvOk.stl S1 R1 q1
      cases t <;> try exact P.elim
      · rename_i ds
        cases r2 with
        | @dk a xs _ hr qk rr =>
          rcases hr with hr | ⟨o, hr⟩
          · refine ⟨a, _, rfl, S2.le _ _ hr, .inl ⟨trivial, fun od nf => ⟨a, od, rfl, .inl ⟨xs, upd_same, ?_⟩⟩⟩⟩
            refine (P (Itk a od xs) F2 H1 (f1.trans f2) S2).2 a _ od hr trivial nf (walk_Itk upd_same qk (rr.lk (lk_lock hr trivial)))
          · exact ⟨a, _, rfl, S2.le _ _ hr, .inr ⟨a, o, rfl, .inl ⟨xs, S2.le _ _ hr, (P (Itk a o xs) F2 H1 (f1.trans f2) S2).1 (walk_Itk hr qk rr)⟩⟩⟩
      · rename_i ds
        cases r2 with
        | @dt a xs _ hr qk rr =>
          rcases hr with hr | ⟨o, hr⟩
          · refine ⟨a, _, rfl, S2.le _ _ hr, .inl ⟨trivial, fun od nf => ⟨a, od, rfl, .inr ⟨xs, upd_same, ?_⟩⟩⟩⟩
            refine (P (Itkt a od xs) F2 H1 (f1.trans f2) S2).2 a _ od hr trivial nf (walk_Itkt upd_same qk (rr.lk (lk_lock hr trivial)))
          · exact ⟨a, _, rfl, S2.le _ _ hr, .inr ⟨a, o, rfl, .inr ⟨xs, S2.le _ _ hr, (P (Itkt a o xs) F2 H1 (f1.trans f2) S2).1 (walk_Itkt hr qk rr)⟩⟩⟩
theorem wl_items_rd {f : EV} {R : It → Hp → Prop} (h : tWl Z W H0 (wItems f) σ H R) : iItems (tLockA H0 (tEv Z W f)) σ H R := by
  obtain ⟨N, F, e, S, P⟩ := h
  unfold wItems at P
  refine ⟨N, F, e, S, ?_⟩
  cases q : f e with
  | no => rw [q] at P; exact P
  | ex x e1 => rw [q] at P; exact P
  | ok r e1 =>
    rw [q] at P
    dsimp only at P
    intro v F1 H1 f1 S1 R1
    cases q1 : stl r e1 with
    | none => rw [q1] at P; exact P.elim
    | some pr =>
      obtain ⟨t, e2⟩ := pr
      rw [q1] at P
      obtain ⟨F2, f2, S2, r2⟩ := RvOk.stl S1 R1 q1
      cases t <;> try exact P.elim
      rename_i ds
      cases r2 with
      | @dk a xs _ hr qk rr =>
        rcases hr with hr | ⟨o, hr⟩
        · refine ⟨a, _, rfl, S2.le _ _ hr, .inl ⟨trivial, fun od nf => ⟨a, od, xs, rfl, upd_same, ?_⟩⟩⟩
          refine (P (Iti a od xs) F2 H1 (f1.trans f2) S2).2 a _ od hr trivial nf (walk_Iti upd_same qk (rr.lk (lk_lock hr trivial)))
        · exact ⟨a, _, rfl, S2.le _ _ hr, .inr ⟨a, o, xs, rfl, S2.le _ _ hr, (P (Iti a o xs) F2 H1 (f1.trans f2) S2).1 (walk_Iti hr qk rr)⟩⟩
theorem wl_vals_rd {f : EV} {R : It → Hp → Prop} (h : tWl Z W H0 (wVals f) σ H R) : iVals (tLockA H0 (tEv Z W f)) σ H R := by
  obtain ⟨N, F, e, S, P⟩ := h
  unfold wVals at P
  refine ⟨N, F, e, S, ?_⟩
  cases q : f e with
  | no => rw [q] at P; exact P
  | ex x e1 => rw [q] at P; exact P
  | ok r e1 =>
    rw [q] at P
    dsimp only at P
    intro v F1 H1 f1 S1 R1
    cases q1 : stl r e1 with
    | none => rw [q1] at P; exact P.elim
    | some pr =>
      obtain ⟨t, e2⟩ := pr
      rw [q1] at P
      obtain ⟨F2, f2, S2, r2⟩ := RvOk.stl S1 R1 q1
      cases t <;> try exact P.elim
      rename_i ds
      cases r2 with
      | @dk a xs _ hr qk rr =>
        rcases hr with hr | ⟨o, hr⟩
        · refine ⟨a, _, rfl, S2.le _ _ hr, .inl ⟨trivial, fun od nf => ⟨a, od, xs, rfl, upd_same, ?_⟩⟩⟩
          refine (P (Itd a od xs) F2 H1 (f1.trans f2) S2).2 a _ od hr trivial nf (walk_Itd upd_same (rr.lk (lk_lock hr trivial)))
        · exact ⟨a, _, rfl, S2.le _ _ hr, .inr ⟨a, o, xs, rfl, S2.le _ _ hr, (P (Itd a o xs) F2 H1 (f1.trans f2) S2).1 (walk_Itd hr rr)⟩⟩
theorem noX_post {r : RS} (P : PostS Z N F W E (noX r)) : PostS Z N F W E r := by
  cases r <;> first | exact P | exact P.elim
end
/-! ### the rules -/
abbrev Wl (ca : Str → Option Addr) (W : WX) (X : Cx) (tg iter : Expr) (w : WV) : Prop := PI X tg iter (tWl (zw ca X) W X.H_0 w)
section
variable {ca : Str → Option Addr} {W : WX} {X : Cx} {fe fv : EV} {w : WV} {c : TV} {a elt vx tg iter : Expr} {ifs : List Expr} {scope : Scope} {own : List (Str × Nat)} {pos p q apos cpos : Pos} {g : TG} {t : Tg}
theorem wl_keys (h : Ev ca W X a fe) : Wl ca W X tg a (wDict fe) := PI_imp (pi_keys (pe_lockA h)) fun _ _ _ => wl_keys_rd
theorem wl_items {elts : List Expr} {kk : Nat} {tpos : Pos} (h : Ev ca W X a fe) (hbase : attributeBase a "items" X.env (eval a X.env) = eval a X.env := by rfl) (hline : (apos.endLine == cpos.line) = true := by rfl) :
    Wl ca W X (.Tuple elts kk tpos) (.Call (.Attribute a "items" apos) [] [] cpos) (wItems fe) := PI_imp (pi_items (pe_lockA h) hbase hline) fun _ _ _ => wl_items_rd
theorem wl_vals (h : Ev ca W X a fe) (hbase : attributeBase a "values" X.env (eval a X.env) = eval a X.env := by rfl) (hline : (apos.endLine == cpos.line) = true := by rfl) :
    Wl ca W X tg (.Call (.Attribute a "values" apos) [] [] cpos) (wVals fe) := PI_imp (pi_values (pe_lockA h) hbase hline) fun _ _ _ => wl_vals_rd
theorem sv_forD {tmp : List Nat} {tt : Tg} {tg' : TG} {s1 : List Stmt} {f : SV} (hp : PassesOwn (model X.prog X.w) X.A X.env X.xe) (hc : X.calm = true) (hg : PG X tg tg') (tk : TgOk (zw ca X) tg' tt) (h : Wl ca W X tg a w) (hb : Bv ca W X s1 f)
    (hs : ∀ x, foldedSetIterable a X.env x = pure x := by intro _; rfl) : Sv ca W X (.For tg a s1 [] pos) (sForD tmp tt w f) :=
  PS_imp (ps_unl (ps_for hp hc h hg hb hs)) fun D σ H h => by
    refine lock_s (G := fun w => sForD tmp tt w f) (TL := fun T => tFor T tg' (tSv (zw ca X) W f)) (fun σ E => ⟨_, fun _ _ => rfl⟩) (fun N F H σ e w E S P => for_post tk S (noX_post P)) (fun e => ⟨fun xs e1 q => ?_, fun x e1 q => ?_, fun q => ?_⟩) h
    · have : sForD tmp tt w f e = sForD tmp tt (fun e => .ok xs e) f e1 := by unfold sForD sFor; rw [q]
      refine ⟨this, fun x e' z => ?_⟩
      change noX _ = _ at z
      cases hh : sFor tmp tt w f e <;> rw [hh] at z <;> cases z
    · show noX (sFor tmp tt w f e) = _; unfold sFor; rw [q]; rfl
    · show noX (sFor tmp tt w f e) = _; unfold sFor; rw [q]; rfl
theorem ev_lcD (hc : X.calm = true) (hN : X.N.Nodup) (hi : Wl ca W X tg iter w) (ok : BlkOk X.N X.env.scope scope own) (tk : TgOk (zw ca X) g t) (sub : ∀ i ∈ tgIx t, i ∈ own.map (·.2))
    (hg : ∀ (s : Shared) (H : Hp) (C : Addr) (cl : List (Str × Addr)) (fp : List Addr), PG (X.blk s H scope (compEnvC scope cl C X.env) fp) tg g)
    (ht : ∀ (s : Shared) (H : Hp) (C : Addr) (cl : List (Str × Addr)) (fp : List Addr), PTs (X.blk s H scope (compEnvC scope cl C X.env) fp) ifs (tTv (zw ca X) W0 c))
    (he : ∀ (s : Shared) (H : Hp) (C : Addr) (cl : List (Str × Addr)) (fp : List Addr), Ev ca W0 (X.blk s H scope (compEnvC scope cl C X.env) fp) elt fe) (hs : ∀ x, foldedSetIterable iter X.env x = pure x := by intro _; rfl) :
    Ev ca W X (.ListComp elt [⟨tg, iter, ifs, 0⟩] scope pos) (eLc (own.map (·.2)) t w c fe) :=
  PE_imp (pe_unl (pe_lc hc hN hi ok hg ht he hs)) fun σ H Q h => by
    refine lock_e (G := fun w => eLc (own.map (·.2)) t w c fe) (TL := fun T => tLc T g (tTv (zw ca X) W0 c) (tEv (zw ca X) W0 fe) (own.map (·.2))) (fun σ E => ⟨_, fun _ _ => rfl⟩) (fun N F H σ e w E S P => lc_post tk sub S P) (fun e => ⟨fun xs e1 q => ?_, fun x e1 q => ?_, fun q => ?_⟩) h
    · have : eLc (own.map (·.2)) t w c fe e = eLc (own.map (·.2)) t (fun e => .ok xs e) c fe e1 := by unfold eLc; rw [q]
      refine ⟨this, fun x e' => ?_⟩
      unfold eLc
      rw [q]
      dsimp only
      split <;> (try split) <;> exact fun z => by cases z
    · unfold eLc; rw [q]
    · unfold eLc; rw [q]
theorem sv_setLcD (i : Nat) {y : Str} {py spos : Pos} (hc : X.calm = true) (hN : X.N.Nodup) (hyl : X.env.scope.names.lookup y = some .local) (hsw : swapsWith (.ListComp elt [⟨tg, iter, ifs, 0⟩] scope pos) (some (.Name y py)) spos.line X.env = pure true)
    (hi : Wl ca W X tg iter w) (ok : BlkOk X.N X.env.scope scope own) (tk : TgOk (zw ca X) g t) (sub : ∀ i ∈ tgIx t, i ∈ own.map (·.2))
    (hg : ∀ (s : Shared) (H : Hp) (C : Addr) (cl : List (Str × Addr)) (fp : List Addr), PG (X.blk s H scope (compEnvC scope cl C X.env) fp) tg g)
    (ht : ∀ (s : Shared) (H : Hp) (C : Addr) (cl : List (Str × Addr)) (fp : List Addr), PTs (X.blk s H scope (compEnvC scope cl C X.env) fp) ifs (tTv (zw ca X) W0 c))
    (he : ∀ (s : Shared) (H : Hp) (C : Addr) (cl : List (Str × Addr)) (fp : List Addr), Ev ca W0 (X.blk s H scope (compEnvC scope cl C X.env) fp) elt fe) (hy : X.N[i]? = some y := by rfl) (hs : ∀ x, foldedSetIterable iter X.env x = pure x := by intro _; rfl) :
    Sv ca W X (.Assign [.Name y py] (.ListComp elt [⟨tg, iter, ifs, 0⟩] scope pos) spos) (sSet i (eLc (own.map (·.2)) t w c fe)) :=
  PS_imp (ps_unl (ps_setLc hc hN hy hyl hsw hi ok hg ht he hs)) fun D σ H h => by
    have h2 : tEv (zw ca X) W (eLc (own.map (·.2)) t w c fe) σ H fun v H1 => gName i v σ H1 D.nx := st_set h
    refine lock_e (H0 := X.H_0) (G := fun w => eLc (own.map (·.2)) t w c fe) (TL := fun T => tLc T g (tTv (zw ca X) W0 c) (tEv (zw ca X) W0 fe) (own.map (·.2))) (fun σ E => ⟨_, fun _ _ => rfl⟩) (fun N F H σ e w E S P => lc_post tk sub S P) (fun e => ⟨fun xs e1 q => ?_, fun x e1 q => ?_, fun q => ?_⟩) h2
    · have : eLc (own.map (·.2)) t w c fe e = eLc (own.map (·.2)) t (fun e => .ok xs e) c fe e1 := by unfold eLc; rw [q]
      refine ⟨this, fun x e' => ?_⟩
      unfold eLc
      rw [q]
      dsimp only
      split <;> (try split) <;> exact fun z => by cases z
    · unfold eLc; rw [q]
    · unfold eLc; rw [q]
theorem ev_sc1D (hu : X.A.units + 64 < cLine) (hc : X.calm = true) (hN : X.N.Nodup) (hi : Wl ca W X tg iter w) (ok : BlkOk X.N X.env.scope scope own) (tk : TgOk (zw ca X) g t) (sub : ∀ i ∈ tgIx t, i ∈ own.map (·.2))
    (hg : ∀ (s : Shared) (H : Hp) (C : Addr) (cl : List (Str × Addr)) (fp : List Addr), PG (X.blk s H scope (compEnvC scope cl C X.env) fp) tg g)
    (ht : ∀ (s : Shared) (H : Hp) (C : Addr) (cl : List (Str × Addr)) (fp : List Addr), PTs (X.blk s H scope (compEnvC scope cl C X.env) fp) ifs (tTv (zw ca X) W0 c))
    (he : ∀ (s : Shared) (H : Hp) (C : Addr) (cl : List (Str × Addr)) (fp : List Addr), Ev ca W0 (X.blk s H scope (compEnvC scope cl C X.env) fp) elt fe) (hs : ∀ x, foldedSetIterable iter X.env x = pure x := by intro _; rfl) :
    Ev ca W X (.SetComp elt [⟨tg, iter, ifs, 0⟩] scope pos) (eSc1 (own.map (·.2)) t w c fe) :=
  PE_imp (pe_unl (pe_sc1 (adK_ok X.prog X.w X.K) hu hc hN hi ok hg ht he hs)) fun σ H Q h => by
    refine lock_e (Z := zw ca X) (G := fun w => eSc1 (own.map (·.2)) t w c fe) (TL := fun T => tSc1 (adK X.prog X.w) T g (tTv (zw ca X) W0 c) (tEv (zw ca X) W0 fe) (own.map (·.2))) (fun σ E => ⟨_, fun _ _ => rfl⟩) (fun N F H σ e w E S P => sc1_post tk sub S P) (fun e => ⟨fun xs e1 q => ?_, fun x e1 q => ?_, fun q => ?_⟩) h
    · have : eSc1 (own.map (·.2)) t w c fe e = eSc1 (own.map (·.2)) t (fun e => .ok xs e) c fe e1 := by unfold eSc1; rw [q]
      refine ⟨this, fun x e' => ?_⟩
      unfold eSc1
      rw [q]
      dsimp only
      split <;> exact fun z => by cases z
    · unfold eSc1; rw [q]
    · unfold eSc1; rw [q]
theorem ev_dcD (hc : X.calm = true) (hN : X.N.Nodup) (hi : Wl ca W X tg iter w) (ok : BlkOk X.N X.env.scope scope own) (tk : TgOk (zw ca X) g t) (sub : ∀ i ∈ tgIx t, i ∈ own.map (·.2))
    (hg : ∀ (s : Shared) (H : Hp) (C : Addr) (cl : List (Str × Addr)) (fp : List Addr), PG (X.blk s H scope (compEnvC scope cl C X.env) fp) tg g)
    (ht : ∀ (s : Shared) (H : Hp) (C : Addr) (cl : List (Str × Addr)) (fp : List Addr), PTs (X.blk s H scope (compEnvC scope cl C X.env) fp) ifs (tTv (zw ca X) W0 c))
    (hk : ∀ (s : Shared) (H : Hp) (C : Addr) (cl : List (Str × Addr)) (fp : List Addr), Ev ca W0 (X.blk s H scope (compEnvC scope cl C X.env) fp) elt fe)
    (he : ∀ (s : Shared) (H : Hp) (C : Addr) (cl : List (Str × Addr)) (fp : List Addr), Ev ca W0 (X.blk s H scope (compEnvC scope cl C X.env) fp) vx fv) (hs : ∀ x, foldedSetIterable iter X.env x = pure x := by intro _; rfl) :
    Ev ca W X (.DictComp elt vx [⟨tg, iter, ifs, 0⟩] scope pos) (eDc (own.map (·.2)) t w c fe fv) :=
  PE_imp (pe_unl (pe_dc hc hN hi ok hg ht hk he hs)) fun σ H Q h => by
    refine lock_e (Z := zw ca X) (G := fun w => eDc (own.map (·.2)) t w c fe fv) (TL := fun T => tDc T g (tTv (zw ca X) W0 c) (tEv (zw ca X) W0 fe) (tEv (zw ca X) W0 fv) (own.map (·.2))) (fun σ E => ⟨_, fun _ _ => rfl⟩) (fun N F H σ e w E S P => dc_post tk sub S P) (fun e => ⟨fun xs e1 q => ?_, fun x e1 q => ?_, fun q => ?_⟩) h
    · have : eDc (own.map (·.2)) t w c fe fv e = eDc (own.map (·.2)) t (fun e => .ok xs e) c fe fv e1 := by unfold eDc; rw [q]
      refine ⟨this, fun x e' => ?_⟩
      unfold eDc
      rw [q]
      dsimp only
      split <;> exact fun z => by cases z
    · unfold eDc; rw [q]
    · unfold eDc; rw [q]
end
end S3

/-! ST6: set(a dict). -/
namespace S3
open PySem PySem.Spec PyProof.Rows L2
theorem sizeAbove_le (n : Nat) : SetTable.sizeAbove n ≤ max 8 (2 * n) := by
  have go : ∀ fuel size, SetTable.sizeAbove.go n fuel size ≤ max size (2 * n) := by
    intro fuel
    induction fuel with
    | zero => intro size; unfold SetTable.sizeAbove.go; omega
    | succ f ih =>
      intro size
      unfold SetTable.sizeAbove.go
      split
      · have := ih (size * 2); omega
      · omega
  exact go 64 8
theorem liveOf_none (m : Nat) : liveOf m (Array.replicate (m + 1) none) = [] := by
  unfold liveOf
  rw [List.filterMap_eq_nil_iff]
  intro j _
  have : (Array.replicate (m + 1) (none : Option Nat)).getD j none = none := by
    rw [Array.getD_eq_getD_getElem?, Array.getElem?_replicate]
    split <;> rfl
  rw [this]; rfl
theorem relaid_nil (t : SetTable) (wanted : Nat) : ∃ t', t.relaid #[] wanted = some (t', #[]) ∧ t'.place = #[] ∧ t'.dummies = #[] ∧ t'.led = t.led := by
  have e : SetTable.layClean (SetTable.sizeAbove wanted - 1) #[] = some (Array.replicate (SetTable.sizeAbove wanted - 1 + 1) none) := rfl
  refine ⟨tabOf t (SetTable.sizeAbove wanted - 1) (Array.replicate (SetTable.sizeAbove wanted - 1 + 1) none), ?_, ?_, rfl, rfl⟩
  · rw [relaid_eq, e]
    show some (_, ((liveOf _ _).map _).toArray) = _
    rw [liveOf_none] <;> rfl
  · show ((liveOf _ _).map _).toArray = _
    rw [liveOf_none] <;> rfl
section
variable {P : Program} {w : World} {κ : Type} [DecidableEq κ] {knd : PySem.KeyKind P w κ} {A : Around} {E : Value → Shared → Prop} {s : Shared} {a : Addr} {ks : List κ}
/-- room is made in an empty set -/
theorem setG_room {n : Nat} {Q : Unit → Shared → Prop} (hn : n < 4096) (ho : s.heap.get? a = some { cls := .type "set", dict := none, data := .set #[] 0 (.fresh 0 0 (!w.params.followText "set-order")) })
    (hQ : ∀ h', Heap.SameBut a s.heap h' → SetG knd h' a [] → Q () { s with heap := h' }) : wpAny (model P w) A (setRoomFor a n) Q E s := by
  have R : SetG knd s.heap a [] := setG_fresh ho
  unfold setRoomFor
  refine wpAny_bind (wpAny_setState_of ho rfl rfl ?_)
  dsimp only
  unfold SetTable.roomFor
  split
  · rename_i wanted hw
    split at hw
    · cases hw
      rw [setRelay_eq]
      refine wpAny_bind (wpAny_setState_of ho rfl rfl ?_)
      dsimp only
      obtain ⟨t', e, h1, h2, h3⟩ := relaid_nil (.fresh 0 0 (!w.params.followText "set-order")) ((0 + n) * 2)
      have hz : ¬ SetTable.sizeAbove (((SetTable.fresh 0 0 (!w.params.followText "set-order")).place.size + n) * 2) > sizeLine := by
        have := sizeAbove_le ((0 + n) * 2)
        have e2 : (SetTable.fresh 0 0 (!w.params.followText "set-order")).place.size = 0 := rfl
        have e3 : sizeLine = 16777216 := by decide +kernel
        rw [e2, e3]
        omega
      rw [if_neg hz]
      have e' : (SetTable.fresh 0 0 (!w.params.followText "set-order")).relaid ((#[] : Array (Int × Value)).map (·.1)) (((SetTable.fresh 0 0 (!w.params.followText "set-order")).place.size + n) * 2) = some (t', #[]) := by
        rw [show ((#[] : Array (Int × Value)).map (·.1)) = #[] from by simp]; exact e
      have ef : (Array.filterMap (fun x => (#[] : Array (Int × Value))[x]?) (#[] : Array Nat)) = #[] := by simp
      rw [e']
      simp only [pure_bind, ef]
      refine wpAny_bind (wpAny_pure ?_)
      refine wpAny_storeSet_of ho rfl ?_ (Nat.zero_le _)
      refine hQ _ (Heap.SameBut.update s.heap a _) ?_
      have ho1 := store_at (es' := (#[] : Array (Int × Value))) (t' := t') ho rfl
      refine ⟨_, #[], _, t', ho1, ⟨rfl, rfl, rfl⟩, rfl, (fun e he => by simp at he), (by simp), (by simp), (by decide), ?_, ?_, ?_⟩
      · simp [SetTable.fits, SetTable.fill, h1, h2]
      · rw [h1]; exact List.Pairwise.nil
      · rw [h3]
        show _ ∨ (!w.params.followText "set-order") = true
        cases w.params.followText "set-order"
        · exact .inr rfl
        · exact .inl rfl
    · cases hw
  · exact wpAny_pure (hQ s.heap (Heap.SameBut.refl a s.heap) R)
theorem setG_dictLoop {S l : Addr} {o : Obj} {es : Array DictEntry} {ep : Nat} {nm : String} {kvs : List (κ × Value)} {Q : Unit → Shared → Prop} (R : SetG knd s.heap S []) (ho : s.heap.get? l = some o) (hd : o.data = .dict es ep) (ne : l ≠ S)
    (hkeys : PySem.KeysOf knd es) (hpairs : Pairs knd es.toList kvs) (hnd : (kvs.map (·.1)).Nodup) (hsc : ∀ (k : κ) (v : Value), knd.is k v = true → v.scannable = true) (hb : kvs.length + 1 < scanBound)
    (h : ∀ h', Heap.SameBut S s.heap h' → SetG knd h' S (kvs.map (·.1)) → Q () { s with heap := h' }) :
    wpAny (model P w) A (do
      let l' ← dictEntries l
      forIn [:l'.size] PUnit.unit fun i (_ : PUnit) => (do
          let l' ← dictEntries l
          match l'[i]? with
            | some e => do
              let _ ← holding [e.key] (setAddHashed S e.key e.hash)
              let ep' ← dictEpoch l
              if (ep' != ep) = true then do
                  (unsupported (toString nm ++ toString ":changed-during-callback") : Sem PUnit)
                  pure (ForInStep.yield PUnit.unit)
                else pure (ForInStep.yield PUnit.unit)
            | _ => do
              (unsupported "internal:set-from-dict" : Sem PUnit)
              pure (ForInStep.yield PUnit.unit) : Sem (ForInStep PUnit))
      pure ()) Q E s := by
  have hlen : es.size = kvs.length := by have := hpairs.length; rw [Array.length_toList] at this; exact this
  refine wpAny_bind (wpAny_dictEntries ho hd ?_)
  refine wpAny_bind ?_
  refine PySem.SeqAt.wpAny_forIn_span 0 es.size _ (fun i _ s' => ∃ h', s' = { s with heap := h' } ∧ SetG knd h' S ((kvs.map (·.1)).take i) ∧ Heap.SameBut S s.heap h') _ ?_ ?_ _ ⟨s.heap, rfl, by rw [List.take_zero]; exact R, Heap.SameBut.refl _ _⟩
  · rintro i c s' _ hi ⟨h', rfl, R', sb⟩
    have ho' : h'.get? l = some o := (sb.2 l ne).trans ho
    refine wpAny_bind (wpAny_dictEntries (s := { s with heap := h' }) ho' hd ?_)
    rw [Array.getElem?_eq_getElem hi]
    obtain ⟨kv, hkv⟩ : ∃ kv, kvs[i]? = some kv := ⟨kvs[i]'(by rw [← hlen]; exact hi), List.getElem?_eq_getElem _⟩
    obtain ⟨k, v⟩ := kv
    obtain ⟨hkey, hval⟩ := hpairs.get? (e := es[i]) (by simp [hi]) hkv
    obtain ⟨k', hkey', hhash⟩ := hkeys es[i] (Array.getElem_mem hi)
    obtain rfl : k' = k := knd.inj _ _ _ hkey' hkey
    show wpAny _ _ (holding [es[i].key] (setAddHashed S es[i].key es[i].hash) >>= _) _ _ _
    rw [hhash]
    have hk : (kvs.map (·.1))[i]? = some k' := by rw [List.getElem?_map, hkv]; rfl
    have hlt : (((kvs.map (·.1)).take i)).length ≤ kvs.length := by rw [List.length_take, List.length_map]; omega
    refine wpAny_bind (wpAny_holding (setG_add_hashed (s := { s with heap := h' }) hkey (hsc _ _ hkey) R' (by omega) fun h'' b sb2 R2 => ?_))
    have ho'' : h''.get? l = some o := (sb2.2 l ne).trans ho'
    refine wpAny_bind (wpAny_dictEpoch (s := { s with heap := h'' }) ho'' hd ?_)
    rw [if_neg (by simp)]
    have hnk : k' ∉ (kvs.map (·.1)).take i := fun z => by
      obtain ⟨j, hj, e⟩ := List.getElem_of_mem z
      have hj2 : j < i := by have := hj; rw [List.length_take] at this; omega
      have e2 : (kvs.map (·.1))[j]? = some k' := by
        rw [← e, List.getElem_take]; exact List.getElem?_eq_getElem _
      have := (List.getElem?_inj (List.getElem?_eq_some_iff.mp e2).1 hnd).mp (e2.trans hk.symm)
      omega
    have et : addK ((kvs.map (·.1)).take i) k' = (kvs.map (·.1)).take (i + 1) := by
      unfold addK
      rw [if_neg hnk, List.take_add_one, hk]; rfl
    rw [et] at R2
    exact wpAny_pure ⟨h'', rfl, R2, sb.trans sb2⟩
  · rintro c s' ⟨h', rfl, R', sb⟩
    have e : max 0 es.size = (kvs.map (·.1)).length := by rw [List.length_map, ← hlen]; omega
    rw [e, List.take_length] at R'
    exact wpAny_pure (h h' sb R')
end
end S3

/-! ST7: set(a dict): the call. -/
namespace S3
open PySem PySem.Spec PyProof.Rows L2
section
variable {P : Program} {w : World} {κ : Type} [DecidableEq κ] {knd : PySem.KeyKind P w κ} {A : Around} {E : Value → Shared → Prop} {s : Shared} {a : Addr} {ks : List κ}
set_option maxHeartbeats 3200000 in
theorem call_set_dictG {l : Addr} {kvs : List (κ × Value)} {ep : Nat} {Q : Value → Shared → Prop} (hl : s.heap.DictAt knd l kvs ep) (hs : (l == sysModules) = false) (hsc : ∀ (k : κ) (v : Value), knd.is k v = true → v.scannable = true) (hb : kvs.length + 1 < scanBound)
    (h : ∀ (h' : Heap) (tk : Nat), SetG knd h' s.heap.objs.size (kvs.map (·.1)) → (∀ b o, s.heap.get? b = some o → h'.get? b = some o) → Q (.ref s.heap.objs.size) { s with heap := h', toks := tk }) :
    wpAny (model P w) A (call (.type "set") [.ref l]) Q E s := by
  obtain ⟨c, tl, hmro⟩ := F.called_set.mro
  have hmade := F.called_set.made
  have hsub := F.called_set.sub
  refine wpAny_call (codeAny_of_tree ?_)
  show wpAny _ _ (callAny (.type "set") _) _ _ _
  refine wpAny_pure ⟨Code.quiet_builtin _ (by decide +kernel), codeAny_builtin F.entry_type_call ?_⟩
  rw [Around.under_plain (weight_type_call_type "set" [.ref l] []) rfl]
  have h1 := F.called_set.notType
  have h2 := F.called_set.canCreate
  have hct := F.typeCall_set_1 (.ref l)
  repeat (any_goals (first | assumption | wp_step))

  refine codeAny_mono (code_set_led1 (.ref l) (E := E) (Q₁ := fun obj s₁ => obj = .ref s.heap.objs.size ∧ s₁ = { s with heap := s.heap.push { cls := .type "set", dict := none, data := .set #[] 0 (.fresh 0 0 (!w.params.followText "set-order")) } }) ⟨rfl, rfl⟩) fun r s₁ hr => ?_
  cases r with
  | error e => exact hr
  | ok fl =>
    cases fl with
    | ret obj =>
      obtain ⟨rfl, rfl⟩ := hr
      have hS : (s.heap.push { cls := .type "set", dict := none, data := .set #[] 0 (.fresh 0 0 (!w.params.followText "set-order")) }).get? s.heap.objs.size = some { cls := .type "set", dict := none, data := .set #[] 0 (.fresh 0 0 (!w.params.followText "set-order")) } := Heap.get?_push_size _ rfl
      have hT : Shared.TypeIs { s with heap := s.heap.push { cls := .type "set", dict := none, data := .set #[] 0 (.fresh 0 0 (!w.params.followText "set-order")) } } (.ref s.heap.objs.size) "set" := ⟨_, hS, rfl⟩
      have hli := F.called_set.init.lookup
      have hbi := F.called_set.init.bind (.ref s.heap.objs.size)
      repeat (any_goals (first | assumption | wp_step))

      refine codeAny_mono (codeAny_call_builtin (R := wants (fun r s₂ => r = .none ∧ ∃ h' tk, s₂ = { s with heap := h', toks := tk } ∧ SetG knd h' s.heap.objs.size (kvs.map (·.1)) ∧
          (∀ b o, s.heap.get? b = some o → h'.get? b = some o)) E) F.called_set.init.plain F.entry_set_init (check_set_init_1 hT ?_)) fun r₂ s₂ hr₂ => ?_
      · obtain ⟨ol, es, hol, hex, hdl, hkeys, hpairs, hnd⟩ := hl
        obtain ⟨hcl, hdn, hsn⟩ := id hex
        obtain ⟨ocls, odict, odata, oslots⟩ := ol
        simp only at hcl hdl hdn hsn
        subst hcl; subst hdl
        have hlS : l < s.heap.objs.size := Heap.lt_size hol
        have hne : l ≠ s.heap.objs.size := Nat.ne_of_lt hlS
        have hol' : (s.heap.push { cls := .type "set", dict := none, data := .set #[] 0 (.fresh 0 0 (!w.params.followText "set-order")) }).get? l = some { cls := .type "dict", dict := odict, data := .dict es ep, slots := oslots } := Heap.get?_push_of_some _ hol
        have hsls := F.sub_dict_set
        have hslf := F.sub_dict_frozenset
        have hne2 : (Value.type "dict" == Value.type "dict") = true := by decide
        unfold Builtin.«set.__init__» noKeywords Builtin.Frozenset.updateFrom
        generalize hPI : setRoomFor = PI
        wp_walk
        subst hPI
        refine setG_room (knd := knd) (s := { s with heap := s.heap.push { cls := .type "set", dict := none, data := .set #[] 0 (.fresh 0 0 (!w.params.followText "set-order")) } }) (by have e1 := hpairs.length; rw [Array.length_toList] at e1; unfold scanBound at hb; omega) hS (fun h1 sb1 R1 => ?_)
        refine setG_dictLoop (kvs := kvs) (s := { s with heap := h1 }) R1 ((sb1.2 l hne).trans hol') rfl hne hkeys hpairs hnd hsc hb (fun h2 sb2 R2 => ?_)
        show wpAny _ _ (PySem.ret Value.none) _ _ _
        refine wpAny_pure ⟨rfl, h2, s.toks, rfl, R2, fun b o e => ?_⟩
        have hb1 : b ≠ s.heap.objs.size := Nat.ne_of_lt (Heap.lt_size e)
        exact (sb2.2 b hb1).trans ((sb1.2 b hb1).trans (Heap.get?_push_of_some _ e))

      · cases r₂ with
        | error e => exact hr₂
        | ok fl₂ =>
          cases fl₂ with
          | ret r =>
            obtain ⟨rfl, h', tk, rfl, hS', hk'⟩ := hr₂
            repeat (any_goals (first | assumption | wp_step))
            exact h _ _ hS' hk'
          | _ => exact hr₂.elim
    | _ => exact hr.elim
end
end S3

/-! ST8: set(a dict) over the abstract heap; the rule. -/
namespace S3
open PySem PySem.Spec PyProof.Rows L2
section
variable {X : Cx}
theorem Inv.rdK {pins : List (Addr × Obj)} {σ : L2.St} {H : Hp} {s : Shared} {d : Addr} {kvs : List (Key × V)} (I : Inv X pins σ H s) (h : L2.Rd H d (.dK kvs)) :
    (d == sysModules) = false ∧ ∃ (ep : Nat) (vs : List (Key × Value)), KV kvs vs ∧ s.heap.DictAt (mixKind X.prog X.w) d vs ep := by
  rcases h with h | ⟨o, h⟩
  · obtain ⟨z, hs, vs, kv, o', es, ep, r⟩ := I.hok d _ h
    exact ⟨hs, ep, vs, kv, o', es, r⟩
  · obtain ⟨hs, hd, hx, es, ep, vs, hdt, hsz, kv, hm⟩ := I.frzK h
    exact ⟨hs, ep, vs, kv, hm⟩
theorem kv_keys {κ : Type} {kvs : List (κ × V)} {vs : List (κ × Value)} (h : KV kvs vs) : vs.map (·.1) = kvs.map (·.1) := by
  unfold KV at h
  induction h with
  | nil => rfl
  | cons r t ih => rw [List.map_cons, List.map_cons, ih, r.1]
def rSetD (P : Program) (w : World) : List V → Hp → VK → Prop := fun vs H Q => ∃ (a : Addr) (kvs : List (Key × V)), vs = [V.ref a] ∧ L2.Rd H a (.dK kvs) ∧ kvs.length + 1 < scanBound ∧
  ∀ p, H p = none → Q (.ref p) (upd H p (SetGO P w p (kvs.map (·.1))))
theorem mix_scan {P : Program} {w : World} (k : Key) (v : Value) (h : (mixKind P w).is k v = true) : v.scannable = true := key_scan (relV_key (show keyIs k v = true from h))
theorem cr_setD : CallR X (.type "set") (rSetD X.prog X.w) := by
  intro pins s σ H vs us Q I r h
  obtain ⟨a, kvs, rfl, hs, hb, q⟩ := h
  rw [Vals.ref1 r]
  obtain ⟨h1, ep, xs, kv, hm⟩ := Inv.rdK I hs
  have hl : xs.length = kvs.length := (Paired.length kv).symm
  refine call_set_dictG (knd := mixKind X.prog X.w) hm h1 mix_scan (by rw [hl]; exact hb) fun h' tk R k => ?_
  rw [kv_keys kv] at R
  have hn : H s.heap.objs.size = none := I.hok.fresh (Nat.le_refl _)
  exact ⟨.ref _, upd H s.heap.objs.size (SetGO X.prog X.w s.heap.objs.size (kvs.map (·.1))), I.laid (t' := tk) k (Nat.le_refl _) (setG_new R), rfl, q _ hn⟩
end
section
variable {X : Cx}
theorem cr_setA (hc : X.calm = true) : CallR X (.type "set") (fun vs H Q => rSetG X.K X.prog X.w vs H Q ∨ rSetD X.prog X.w vs H Q) := (cr_setG hc).or cr_setD
/-- set(x): a list, a tuple, a dict -/
def opSetA : D → Option RV
  | .dk ds => if ds.length < 4000 then some (.nw (.st (ds.map (·.1)))) else none
  | d => opSet d
variable {Z : Wd}
theorem s_setA : Sound1 Z (fun x H Q => rSetG Z.K Z.P Z.w [x] H Q ∨ rSetD Z.P Z.w [x] H Q) opSetA := by
  intro F H x dx rr Q l hx ho q
  cases dx
  case dk ds =>
    unfold opSetA at ho
    dsimp only at ho
    split at ho
    · rename_i hz
      cases ho
      have hk := hx.dkk
      obtain ⟨a, xs, rfl, hr, rr⟩ := hx.dk l
      refine .inr ⟨a, xs, rfl, hr, by rw [rr.length]; unfold PySem.scanBound; omega, ?_⟩
      have e : xs.map (·.1) = ds.map (·.1) := by
        have : ∀ {κ : Type} {xs : List (κ × V)} {ds : List (κ × D)}, RpP Z F xs ds → xs.map (·.1) = ds.map (·.1) := by
          intro κ xs
          induction xs with
          | nil => intro ds h; cases h; rfl
          | cons x xs ih => intro ds h; cases h with | cons h r => rw [List.map_cons, List.map_cons, ih r]
        exact this rr
      rw [e]
      exact fin_st l q hk
    · cases ho
  all_goals exact .inl (s_set F H x _ rr Q l hx ho q)
end
end S3

/-! J3: == of dicts, both answers. -/
namespace L2
open PySem PySem.Spec PyProof.Rows
def HitsB (F : V → V → Bool → Prop) (ls : List (Key × V)) : List (Key × V) → Bool → Prop
  | [], b => b = true
  | p :: r, b => (valV ls p.1 = none ∧ b = false) ∨ ∃ u e b', valV ls p.1 = some u ∧ F p.2 u e ∧ HitsB F ls r b' ∧ b = (e && b')
def EqDk (H : Hp) (F : V → V → Bool → Prop) (x y : V) (b : Bool) : Prop :=
  ∃ a c ks ls, x = .ref a ∧ y = .ref c ∧ Rd H a (.dK ks) ∧ Rd H c (.dK ls) ∧ (a = c → b = true) ∧ ((ks.length ≠ ls.length ∧ b = false) ∨ (ks.length = ls.length ∧ HitsB F ls ks b))
/-- x == y is b, of dicts nested below n -/
def EqB (K : PySem.W.Frag) (H : Hp) : Nat → V → V → Bool → Prop
  | 0 => fun x y b => ∃ d e, Dp K H x d ∧ Dp K H y e ∧ SeqAt.shaped d = true ∧ SeqAt.shaped e = true ∧ b = PyData.eqv d e
  | n + 1 => fun x y b => EqB K H 0 x y b ∨ EqDk H (EqB K H n) x y b
section
variable {P : Program} {w : World} {A : Around} {s : Shared}
theorem hitsB_run {F : V → V → Bool → Prop} (ih : ∀ x y b v u, F x y b → RelV x v → RelV y u → SeqAt.EqP P w A s v u b) {ls : List (Key × V)} {vb : List (Key × Value)} (rb : KV ls vb) {ks : List (Key × V)} {va : List (Key × Value)}
    (ra : KV ks va) : ∀ {b}, HitsB F ls ks b → PySem.W.KeqHitsP P w A s vb va b := by
  unfold KV at ra
  induction ra with
  | nil => intro b h; cases (show b = true from h); exact .nil
  | @cons p q ps qs h t k =>
    intro b hh
    obtain ⟨h1, h2⟩ := h
    obtain ⟨key, v⟩ := q
    have h1' : p.1 = key := h1
    rcases hh with ⟨hn, rfl⟩ | ⟨u, e, b', hv, hf, hr, rfl⟩
    · have rr : RelO none (valueAt vb p.1) := by rw [← hn]; exact rb.val p.1
      rw [h1'] at rr
      refine .miss ?_
      cases q : valueAt vb key with
      | none => rfl
      | some z => rw [q] at rr; exact rr.elim
    · have rr : RelO (some u) (valueAt vb p.1) := by rw [← hv]; exact rb.val p.1
      obtain ⟨y, hy, ry⟩ := rr.some_of
      rw [h1'] at hy
      exact .hit hy (ih _ _ _ _ _ hf h2 ry) (k hr)
end
section
variable {X : Cx} {pins : List (Addr × Obj)} {σ : St} {H : Hp} {s : Shared}
theorem eqDk_run (I : Inv X pins σ H s) {A : Around} {F : V → V → Bool → Prop} (hu : A.units < cLine) (ih : ∀ x y b v u, F x y b → RelV x v → RelV y u → SeqAt.EqP X.prog X.w A.in1 s v u b) {x y : V} {b : Bool} {v u : Value} (h : EqDk H F x y b) (rx : RelV x v) (ry : RelV y u)
    (E Q : Value → Shared → Prop) (q : Q (.bool b) s) : wpAny (model X.prog X.w) A (richCompare .Eq v u) Q E s := by
  obtain ⟨a, c, ks, ls, rfl, rfl, ha, hc, _, h⟩ := h
  cases (show v = Value.ref a from rx)
  cases (show u = Value.ref c from ry)
  obtain ⟨ya, epa, va, ra, da⟩ := S3.Inv.rdK I ha
  obtain ⟨yb, epb, vb, rb, db⟩ := S3.Inv.rdK I hc
  have la : ks.length = va.length := Paired.length ra
  have lb : ls.length = vb.length := Paired.length rb
  rcases h with ⟨hl, rfl⟩ | ⟨hl, h⟩
  · refine PySem.W.rcP_dicts (knd := mixKind X.prog X.w) (r := true) ya yb da.dictOf db.dictOf hu (fun z => (hl (by omega)).elim) E Q ?_
    rw [show (va.length == vb.length && true) = false from by rw [Bool.and_true]; exact beq_eq_false_iff_ne.mpr (by omega)]
    exact q
  · refine PySem.W.rcP_dicts (knd := mixKind X.prog X.w) (r := b) ya yb da.dictOf db.dictOf hu (fun _ => hitsB_run ih rb ra h) E Q ?_
    rw [show (va.length == vb.length && b) = b from by rw [show va.length = vb.length from by omega]; simp]
    exact q
theorem eqB_run (I : Inv X pins σ H s) : ∀ (n : Nat) (A : Around), A.units + n + 64 < cLine → ∀ (x y : V) (b : Bool) (v u : Value), EqB X.K H n x y b → RelV x v → RelV y u → SeqAt.EqP X.prog X.w A s v u b
  | 0, A, hu, x, y, b, v, u, h, rx, ry => by
    unfold EqB at h
    obtain ⟨d, e, hd, he, sd, se, rfl⟩ := h
    obtain ⟨as, r1⟩ := Dp.reads I d x v hd rx
    obtain ⟨bs, r2⟩ := Dp.reads I e y u he ry
    exact (SeqAt.eqAt_reads d e A s v u as bs r1 r2 (SeqAt.canLay_of_shaped sd) (SeqAt.canLay_of_shaped se) (SeqAt.room_of_shaped sd (by omega))).eqP
  | n + 1, A, hu, x, y, b, v, u, h, rx, ry => by
    unfold EqB at h
    rcases h with h | h
    · exact eqB_run I 0 A (by omega) x y b v u h rx ry
    · have step := eqDk_run I (A := A) (by omega) (eqB_run I n A.in1 (by show A.units + 1 + n + 64 < cLine; omega)) h rx ry
      obtain ⟨a, c, _, _, rfl, rfl, _, _, same, _⟩ := h
      cases (show v = Value.ref a from rx)
      cases (show u = Value.ref c from ry)
      by_cases e : a = c
      · rw [same e]
        subst e
        exact (SeqAt.EqAt.same _).eqP
      · exact SeqAt.eqP_refs e step
end
section
variable {X : Cx}
def rEqB (K : PySem.W.Frag) : R2 := fun x y H Q => ∃ b, EqDk H (EqB K H 2) x y b ∧ Q (.bl b) H
theorem op_eqB (hu : X.A.units + 128 < cLine) : OpR X (compareOp .Eq) (rEqB X.K) := by
  intro pins s σ H x y v u Q I rx ry h
  obtain ⟨b, h, q⟩ := h
  exact eqDk_run I (A := X.A) (by omega) (eqB_run I 2 X.A.in1 (by show X.A.units + 1 + 2 + 64 < cLine; omega)) h rx ry _ _ ⟨.bl b, H, I, rfl, q⟩
end
end L2
namespace S3
open PySem PySem.Spec L2
def dHits (eq : D → D → Option Bool) (es : List (Key × D)) : List (Key × D) → Option Bool
  | [] => some true
  | p :: r => match dVal es p.1 with
    | none => some false
    | some u => match eq p.2 u, dHits eq es r with
      | some e, some b => some (e && b)
      | _, _ => none
/-- == of dicts, nested below n -/
def dEqD : Nat → D → D → Option Bool
  | n + 1, .dk ds, .dk es => if (ds.map (·.1)).Nodup ∧ (es.map (·.1)).Nodup then (if ds.length = es.length then dHits (dEqD n) es ds else some false) else none
  | _, x, y => dEq x y
def opEqA (x y : D) : Option RV := bRV (dEqD 3 x y)
section
variable {Z : Wd} {F H : Hp}
theorem okD_fun : ∀ (n : Nat) {v : V} {d e : D}, okD n d = true → okD n e = true → Rp Z F v d → Rp Z F v e → d = e := by
  intro n
  induction n with
  | zero =>
    intro v d e o1 o2 r1 r2
    cases r1 <;> simp [okD] at o1 <;> cases r2 <;> simp [okD] at o2 <;> first | rfl | (rename_i h1 h2; rw [h1] at h2; cases h2)
  | succ n ih =>
    have all : ∀ {vs : List V} {ds es : List D}, ds.all (okD n) = true → es.all (okD n) = true → RpA Z F vs ds → RpA Z F vs es → ds = es := by
      intro vs
      induction vs with
      | nil => intro ds es _ _ r1 r2; cases r1; cases r2; rfl
      | cons v vs ihv =>
        intro ds es o1 o2 r1 r2
        cases r1 with
        | cons a1 b1 =>
          cases r2 with
          | cons a2 b2 =>
            rw [List.all_cons, Bool.and_eq_true] at o1 o2
            rw [ih o1.1 o2.1 a1 a2, ihv o1.2 o2.2 b1 b2]
    intro v d e o1 o2 r1 r2
    cases r1 <;> simp only [okD] at o1 <;> try (cases o1; done)
    case lst h1 k1 =>
      cases r2 <;> simp only [okD] at o2 <;> try (cases o2; done)
      case lst k2 h2 => rw [h1] at h2; cases h2; rw [all o1 o2 k1 k2]
      case tup k2 h2 => rw [h1] at h2; cases h2
    case tup h1 k1 =>
      cases r2 <;> simp only [okD] at o2 <;> try (cases o2; done)
      case lst k2 h2 => rw [h1] at h2; cases h2
      case tup k2 h2 => rw [h1] at h2; cases h2; rw [all o1 o2 k1 k2]
    all_goals (cases r2 <;> simp only [okD] at o2 <;> first | rfl | (cases o2; done))
theorem py_refl : ∀ (n : Nat) (d : D), okD n d = true → PyData.eqv (py n d) (py n d) = true := by
  intro n
  induction n with
  | zero => intro d o; cases d <;> simp [okD] at o <;> simp [py, PyData.eqv]
  | succ n ih =>
    have all : ∀ xs : List D, xs.all (okD n) = true → PyData.eqvAll (xs.map (py n)) (xs.map (py n)) = true := by
      intro xs
      induction xs with
      | nil => intro _; rfl
      | cons x xs ihx =>
        intro o
        rw [List.all_cons, Bool.and_eq_true] at o
        rw [List.map_cons, PyData.eqvAll, ih x o.1, ihx o.2]
        rfl
    intro d o
    cases d <;> simp only [okD] at o <;> try (cases o; done)
    case lst xs => rw [py, PyData.eqv]; exact all _ o
    case tup xs => rw [py, PyData.eqv]; exact all _ o
    all_goals simp [py, PyData.eqv]
theorem rd_fun {a : Addr} {ks ls : List (Key × V)} (h1 : L2.Rd F a (.dK ks)) (h2 : L2.Rd F a (.dK ls)) : ks = ls := by
  rcases h1 with h1 | ⟨o1, h1⟩ <;> rcases h2 with h2 | ⟨o2, h2⟩ <;> rw [h1] at h2 <;> cases h2 <;> rfl
theorem dVal_at {es : List (Key × D)} (nd : (es.map (·.1)).Nodup) {p : Key × D} (h : p ∈ es) : dVal es p.1 = some p.2 := by
  induction es with
  | nil => cases h
  | cons e es ih =>
    rw [List.map_cons, List.nodup_cons] at nd
    unfold dVal
    rcases List.mem_cons.mp h with z | z
    · subst z; simp
    · have ne : e.1 ≠ p.1 := fun z2 => nd.1 (by rw [z2]; exact List.mem_map.mpr ⟨p, z, rfl⟩)
      rw [List.find?_cons_of_neg (by simp [ne])]
      exact ih nd.2 z
/-- the same thing is equal to itself -/
theorem rp_same : ∀ (n : Nat) {v : V} {dx dy : D} {b : Bool}, Rp Z F v dx → Rp Z F v dy → dEqD n dx dy = some b → b = true := by
  have base : ∀ {v : V} {dx dy : D} {b : Bool}, Rp Z F v dx → Rp Z F v dy → dEq dx dy = some b → b = true := by
    intro v dx dy b r1 r2 h
    obtain ⟨o1, o2, rfl⟩ := dEq_some h
    have e := okD_fun 6 o1 o2 r1 r2
    subst e
    exact py_refl 6 _ o1
  intro n
  induction n with
  | zero => intro v dx dy b r1 r2 h; exact base r1 r2 (by simpa only [dEqD] using h)
  | succ n ih =>
    intro v dx dy b r1 r2 h
    by_cases isd : ∃ ds es, dx = .dk ds ∧ dy = .dk es
    · obtain ⟨ds, es, rfl, rfl⟩ := isd
      cases r1 with
      | @dk a xs _ h1 q1 k1 =>
        cases r2 with
        | @dk _ ys _ h2 q2 k2 =>
          have e := rd_fun h1 h2
          subst e
          simp only [dEqD] at h
          split at h
          · rename_i nd
            split at h
            · rename_i hl
              have go : ∀ (ds' es' : List (Key × D)) (xs' : List (Key × V)) (b : Bool), RpP Z F xs' ds' → RpP Z F xs' es' → (∀ p ∈ es', dVal es p.1 = some p.2) → dHits (dEqD n) es ds' = some b → b = true := by
                intro ds'
                induction ds' with
                | nil => intro es' xs' b _ _ _ h; simp only [dHits] at h; cases h; rfl
                | cons p r ihr =>
                  intro es' xs' b r1 r2 hv h
                  cases r1 with
                  | cons a1 b1 =>
                    cases r2 with
                    | @cons _ k v vs u es'' a2 b2 =>
                      have hv1 := hv _ List.mem_cons_self
                      simp only [dHits] at h
                      dsimp only at hv1
                      rw [hv1] at h
                      dsimp only at h
                      split at h
                      · rename_i e b' he hb
                        cases h
                        rw [ih a1 a2 he, ihr _ _ _ b1 b2 (fun q hq => hv q (List.mem_cons_of_mem _ hq)) hb]
                        rfl
                      · cases h
              exact go ds es xs b k1 k2 (fun p hp => dVal_at nd.2 hp) h
            · rename_i hl
              exact (hl (by rw [← k1.length, ← k2.length])).elim
          · cases h
    · have e : dEqD (n + 1) dx dy = dEq dx dy := by
        cases dx <;> try rfl
        cases dy <;> try rfl
        exact (isd ⟨_, _, rfl, rfl⟩).elim
      rw [e] at h
      exact base r1 r2 h
theorem eqDk_rd (l : Same F H) (n : Nat) (ih : ∀ {x y : V} {dx dy : D} {b : Bool}, Rp Z F x dx → Rp Z F y dy → dEqD n dx dy = some b → EqB Z.K H n x y b) {a c : Addr} {xs ys : List (Key × V)} {ds es : List (Key × D)} {b : Bool}
    (h1 : L2.Rd H a (.dK xs)) (h2 : L2.Rd H c (.dK ys)) (k1 : RpP Z F xs ds) (k2 : RpP Z F ys es) (same : a = c → b = true) (h : dEqD (n + 1) (.dk ds) (.dk es) = some b) : EqDk H (EqB Z.K H n) (.ref a) (.ref c) b := by
  refine ⟨a, c, xs, ys, rfl, rfl, h1, h2, same, ?_⟩
  simp only [dEqD] at h
  split at h
  · split at h
    · rename_i hl
      refine .inr ⟨by rw [k1.length, k2.length]; exact hl, ?_⟩
      have go : ∀ (ds' : List (Key × D)) (xs' : List (Key × V)) (b : Bool), RpP Z F xs' ds' → dHits (dEqD n) es ds' = some b → HitsB (EqB Z.K H n) ys xs' b := by
        intro ds'
        induction ds' with
        | nil => intro xs' b r h; cases r; simp only [dHits] at h; cases h; rfl
        | cons p r ihr =>
          intro xs' b r1 h
          cases r1 with
          | @cons _ k v vs d _ a1 b1 =>
            simp only [dHits] at h
            obtain ⟨i1, i2⟩ := k2.val k
            cases q : dVal es k with
            | none => rw [q] at h; cases h; exact .inl ⟨i2 q, rfl⟩
            | some u =>
              rw [q] at h
              dsimp only at h
              obtain ⟨w, hw, rw'⟩ := i1 u q
              split at h
              · rename_i e b' he hb
                cases h
                exact .inr ⟨w, e, b', hw, ih a1 rw' he, ihr _ _ b1 hb, rfl⟩
              · cases h
      exact go ds xs b k1 h
    · rename_i hl
      cases h
      exact .inl ⟨by rw [k1.length, k2.length]; exact hl, rfl⟩
  · cases h
theorem eqB_rd (l : Same F H) : ∀ (n : Nat) {x y : V} {dx dy : D} {b : Bool}, Rp Z F x dx → Rp Z F y dy → dEqD n dx dy = some b → EqB Z.K H n x y b := by
  have base : ∀ {x y : V} {dx dy : D} {b : Bool}, Rp Z F x dx → Rp Z F y dy → dEq dx dy = some b → EqB Z.K H 0 x y b := by
    intro x y dx dy b r1 r2 h
    obtain ⟨h1, h2, rfl⟩ := dEq_some h
    unfold EqB
    exact ⟨_, _, dp_of rfl 6 l h1 (.inl r1), dp_of rfl 6 l h2 (.inl r2), shaped_py l (by decide) h1 (.inl r1), shaped_py l (by decide) h2 (.inl r2), rfl⟩
  intro n
  induction n with
  | zero => intro x y dx dy b r1 r2 h; exact base r1 r2 (by simpa only [dEqD] using h)
  | succ n ih =>
    intro x y dx dy b r1 r2 h
    by_cases isd : ∃ ds es, dx = .dk ds ∧ dy = .dk es
    · obtain ⟨ds, es, rfl, rfl⟩ := isd
      have same := fun (e : x = y) => rp_same (n + 1) r1 (by rw [e]; exact r2) h
      cases r1 with
      | @dk a xs _ h1 q1 k1 =>
        cases r2 with
        | @dk c ys _ h2 q2 k2 => unfold EqB; exact .inr (eqDk_rd l n ih (Rd.mono h1 l) (Rd.mono h2 l) k1 k2 (fun e => same (by rw [e])) h)
    · have e : dEqD (n + 1) dx dy = dEq dx dy := by
        cases dx <;> try rfl
        cases dy <;> try rfl
        exact (isd ⟨_, _, rfl, rfl⟩).elim
      rw [e] at h
      unfold EqB
      exact .inl (base r1 r2 h)
theorem s_eqA : Sound2 Z (fun x y H Q => rEqD Z.K x y H Q ∨ rEqB Z.K x y H Q) opEqA := by
  intro F H x y dx dy rr Q l hx hy ho q
  obtain ⟨b, h, rfl⟩ := bRV_some ho
  by_cases isd : ∃ ds es, dx = .dk ds ∧ dy = .dk es
  · obtain ⟨ds, es, rfl, rfl⟩ := isd
    obtain ⟨a, xs, rfl, h1, k1⟩ := hx.dk l
    obtain ⟨c, ys, rfl, h2, k2⟩ := hy.dk l
    refine .inr ⟨b, ?_, fin_bl l q⟩
    refine eqDk_rd l 2 (eqB_rd l 2) h1 h2 k1 k2 (fun e => ?_) h
    subst e
    have e := rd_fun h1 h2
    subst e
    simp only [dEqD] at h
    split at h
    · rename_i nd
      split at h
      · rename_i hl
        have go : ∀ (ds' es' : List (Key × D)) (xs' : List (Key × V)) (b : Bool), RpP Z F xs' ds' → RpP Z F xs' es' → (∀ p ∈ es', dVal es p.1 = some p.2) → dHits (dEqD 2) es ds' = some b → b = true := by
          intro ds'
          induction ds' with
          | nil => intro es' xs' b _ _ _ h; simp only [dHits] at h; cases h; rfl
          | cons p r ihr =>
            intro es' xs' b r1 r2 hv h
            cases r1 with
            | cons a1 b1 =>
              cases r2 with
              | @cons _ k v vs u es'' a2 b2 =>
                have hv1 := hv _ List.mem_cons_self
                simp only [dHits] at h
                dsimp only at hv1
                rw [hv1] at h
                dsimp only at h
                split at h
                · rename_i e b' he hb
                  cases h
                  rw [rp_same 2 a1 a2 he, ihr _ _ _ b1 b2 (fun q hq => hv q (List.mem_cons_of_mem _ hq)) hb]
                  rfl
                · cases h
        exact go ds es xs b k1 k2 (fun p hp => dVal_at nd.2 hp) h
      · rename_i hl
        exact (hl (by rw [← k1.length, ← k2.length])).elim
    · cases h
  · have e : dEqD 3 dx dy = dEq dx dy := by
      cases dx <;> try rfl
      cases dy <;> try rfl
      exact (isd ⟨_, _, rfl, rfl⟩).elim
    rw [e] at h
    obtain ⟨h1, h2, rfl⟩ := dEq_some h
    exact .inl ⟨_, _, dp_of rfl 6 l h1 hx, dp_of rfl 6 l h2 hy, shaped_py l (by decide) h1 hx, shaped_py l (by decide) h2 hy, fin_bl l q⟩
theorem op_eqA {X : Cx} (hu : X.A.units + 128 < cLine) : OpR X (compareOp .Eq) (fun x y H Q => rEqD X.K x y H Q ∨ rEqB X.K x y H Q) := (op_eqD (by omega)).or (op_eqB hu)
end
end S3

/-! J4: a dict of the module asked; extend; dict(d). -/
namespace S3
open PySem PySem.Spec L2 STK
theorem u128 {k : Nat} {A : PySem.Around} (hr : Room k A) : A.units + 128 < PySem.cLine := by have := hr.un; omega
/-- a written dict of the module with str keys -/
def opKix (tb : List (Str × D)) : D → Option RV
  | .str z => (tb.lookup z).map .fz
  | _ => none
structure KixT (ca : Str → Option Addr) (P : Program) (w : World) (K : PySem.W.Frag) (mg : Str → Option Value) (n : Str) (tb : List (Str × D)) : Prop where
  ex : ∃ p, mg n = some (.ref p) ∧ ∀ z d, tb.lookup z = some d → ∃ v, KDct K w p z v ∧ ∀ F, Rp ⟨P, w, K, ca⟩ F v d
def mExtend : D → List D → Option (D × RV)
  | .lst xs, [.lst ys] => if xs.length + ys.length ≤ BIG then some (.lst (xs ++ ys), .fz .non) else none
  | _, _ => none
def opDictC : D → Option RV
  | .dk ds => some (.nw (.dk ds))
  | _ => none
section
variable {Z : Wd} {F F' H H' : Hp}
theorem s_kix {P : Program} {w : World} {K : PySem.W.Frag} {ca : Str → Option Addr} {mg : Str → Option Value} {n : Str} {tb : List (Str × D)} {p : Addr} (T : ∀ z d, tb.lookup z = some d → ∃ v, KDct K w p z v ∧ ∀ F, Rp ⟨P, w, K, ca⟩ F v d) :
    Sound1 ⟨P, w, K, ca⟩ (fun y H1 Q => rIxD K w (.ref p) y H1 Q) (opKix tb) := by
  intro F H x dx rr Q l hx ho q
  cases dx <;> simp only [opKix] at ho <;> try (cases ho; done)
  rw [Option.map_eq_some_iff] at ho
  obtain ⟨d, h1, rfl⟩ := ho
  obtain ⟨v, h2, h3⟩ := T _ _ h1
  exact ⟨p, _, v, rfl, hx.str.1, h2, fin_fz l q (h3 F)⟩
theorem m_extend : SoundM Z rExtend isLst mExtend := by
  intro F H a vs d ds d' rr Q l fa t r hk ho q
  cases d <;> simp only [isLst] at hk <;> try (cases hk; done)
  rename_i xs
  obtain ⟨ys, ha, ra⟩ := t
  cases r with
  | nil => simp only [mExtend] at ho; cases ho
  | @cons v vs d ds h1 h2 =>
    cases h2 with
    | cons _ _ => cases d <;> simp only [mExtend] at ho <;> cases ho
    | nil =>
      cases d <;> simp only [mExtend] at ho <;> try (cases ho; done)
      rename_i es
      split at ho
      · rename_i hz
        cases ho
        cases h1 with
        | @lst b zs _ hb rb =>
          refine ⟨a, b, ys, zs, rfl, rfl, ha, l _ _ hb, by rw [sizeLine_eq, ra.length, rb.length]; exact hz, ?_⟩
          exact q .non F _ (Same.refl _) l (fun _ _ _ h => h) ⟨_, upd_same, ra.append rb⟩ ⟨_, rfl, .non⟩
      · cases ho
theorem s_dictC : Sound1 Z (fun x H1 Q => ∃ (a : Addr) (kvs : List (Key × V)), [x] = [.ref a] ∧ L2.Rd H1 a (.dK kvs) ∧ ∀ p, H1 p = none → Q (.ref p) (upd H1 p (.dK kvs))) opDictC := by
  intro F H x dx rr Q l hx ho q
  cases dx <;> simp only [opDictC] at ho <;> try (cases ho; done)
  cases ho
  have hk := hx.dkk
  obtain ⟨a, xs, rfl, hr, r⟩ := hx.dk l
  exact ⟨a, xs, rfl, hr, fun p hp => q (.ref p) F _ (Gr.lay l hp) ⟨p, rfl, hp, none_le l hp, hk, xs, upd_same, r⟩⟩
end
section
variable {ca : Str → Option Addr} {W : WX} {X : Cx} {a b : Expr} {fa fb : EV} {ga : AV} {pos p p2 : Pos} {n : Str}
theorem ev_kix {tb : List (Str × D)} (T : KixT ca X.prog X.w X.K X.mg n tb) (hb : Ev ca W X b fb) (hg : Gl X n := by rfl) (hdb : (n == ("__debug__" : Str)) = false := by decide) (hs : PlainIx b := by intro _ _; rfl) : Ev ca W X (.Subscript (.Name n p) b pos) (eOp1 (opKix tb) fb) := by
  obtain ⟨q, h1, h2⟩ := T.ex
  exact PE_imp (pe_ix ix_kdict (pe_glob (v := .ref q) hg h1 rfl hdb) hb hs) fun σ H Q h => one (s_kix (mg := X.mg) (n := n) h2) h
theorem ev_extend {i : Nat} {x : Str} {px apos : Pos} (hx : PE X (.Name x px) (tVar i)) (ha : Av ca W X [a] ga)
    (hbase : attributeBase (.Name x px) "extend" X.env (eval (.Name x px) X.env) = eval (.Name x px) X.env := by rfl)
    (hline : (apos.endLine == pos.line) = true := by rfl) (hs : starEach [a] X.env = (false, eval a X.env) :: starEach [] X.env := by rfl) : Ev ca W X (.Call (.Attribute (.Name x px) "extend" apos) [a] [] pos) (eMut i isLst mExtend ga) :=
  PE_imp (pe_bm PySem.F.plainAttrs_list PySem.F.slot_list_extend PySem.F.type_list_extend mt_extend hx ha hbase (by rw [hs]; rfl) hline hs (by rfl)) fun _ _ _ => tEv_mut m_extend ty_lst
theorem ev_dictC (hm : X.mg "dict" = none) (ha : Ev ca W X a fa) (hg : Gl X "dict" := by rfl)
    (he : starEach [a] X.env = (false, eval a X.env) :: starEach [] X.env := by rfl) : Ev ca W X (.Call (.Name "dict" p) [a] [] pos) (eOp1 opDictC fa) :=
  ev_type1 call_dictD s_dictC hm ha hg (by decide +kernel) (by decide) (by decide) he
end
end S3

/-! J5: facts of own classes at the levels; expressions that are never reached. -/
namespace S3
open PySem PySem.Spec L2 STK
section
variable {ca : Str → Option Addr} {P : Program} {w : World} {K : PySem.W.Frag} {mg : Str → Option Value} {base : Heap}
theorem fnok0 {f : Addr} {fd : FuncData} {ps : List Str} {ms : List Md} {g : String} {tab : String → Option Def} : FnOk P w K mg base (L2.CX P w) (2 * 0) f fd ps (spOf ⟨P, w, K, ca⟩ ms (sem tab 0 g)) :=
  ⟨fun vs H Q E ⟨_, _, _, _, _, z⟩ => z.elim, fun A outer s H args us vs Q E _ _ _ _ ⟨_, _, _, _, _, z⟩ => z.elim⟩
theorem fnokS {f : Addr} {fd : FuncData} {ps : List Str} {ms : List Md} {k : Nat} {g : String} {T : Def} {tab : String → Option Def} (h : FnOk P w K mg base (L2.CX P w) (2 * (k + 1)) f fd ps (spOf ⟨P, w, K, ca⟩ T.ms (T.run (sem tab k))))
    (ht : tab g = some T) (hm : T.ms = ms := by rfl) : FnOk P w K mg base (L2.CX P w) (2 * (k + 1)) f fd ps (spOf ⟨P, w, K, ca⟩ ms (sem tab (k + 1) g)) := by
  subst hm
  have e : sem tab (k + 1) g = T.run (sem tab k) := by funext ds; simp only [sem, ht]
  rw [e]
  exact h
end
/-- never reached -/
def eNo : EV := fun _ => .no
section
variable {ca : Str → Option Addr} {W : WX} {X : Cx} {a : Expr}
theorem ev_no : Ev ca W X a eNo := ⟨fun _ _ _ _ _ _ ⟨_, _, _, _, z⟩ => z.elim⟩
end
/-! a block within a block -/
def relS (scope sc : Scope) : Scope := { scope with names := scope.names.map fun (n, k) => if (k == .free && sc.kind == .function && sc.names.lookup n == some .cell) then (n, .cell) else (n, k) }
theorem blkOk_rel {N : List Str} {scope0 scope1 sc : Scope} {env : PySem.Env} {own : List (Str × Nat)} (he : env.scope = sc) (h : blkC N (relS scope0 sc) scope1 own = true) : BlkOk N (relabel scope0 env) scope1 own := by
  subst he
  exact blkOk_by h
theorem lookup_mem {β : Type} {l : List (Str × β)} {z : Str} {d : β} (h : l.lookup z = some d) : (z, d) ∈ l := by
  induction l with
  | nil => cases h
  | cons p l ih =>
    rw [List.lookup_cons] at h
    split at h
    · rename_i e
      cases h
      rw [beq_iff_eq.mp e]
      exact List.mem_cons_self
    · exact List.mem_cons_of_mem _ (ih h)
theorem kix_mk {ca : Str → Option Addr} {P : Program} {w : World} {K : PySem.W.Frag} {mg : Str → Option Value} {n : Str} {tb : List (Str × D)} {p : Addr} {es : Array DictEntry} {m : Nat} (hm : mg n = some (.ref p)) (hl : K.lookup p = some ⟨.type "dict", none, .dict es m, #[]⟩) (hk : PySem.W.KeysLit w.params es.toList)
    (h : ∀ q ∈ tb, ∃ u v, PySem.W.nsIn K p q.1 = some (some u) ∧ RelV v u ∧ ∀ F, Rp ⟨P, w, K, ca⟩ F v q.2) : KixT ca P w K mg n tb :=
  ⟨p, hm, fun z d hz => let ⟨u, v, h1, h2, h3⟩ := h _ (lookup_mem hz); ⟨v, ⟨es, m, u, hl, hk, h1, h2⟩, h3⟩⟩
end S3

/-! J6: a, b = x, y with plain local names. -/
namespace S3
open PySem PySem.Spec L2 STK
section
variable {Z : Wd} {W : WX} {E : Ends} {σ : St} {H : Hp}
theorem par_rd {i j : Nat} {a : AV} (h : tSv Z W (sUnp [i, j] (eDisp mkTup a)) E σ H) : tPar i j (tAv Z W a) E σ H := by
  obtain ⟨N, F, e, S, P⟩ := h
  unfold sUnp sE eDisp at P
  refine ⟨N, F, e, S, ?_⟩
  cases q : a e with
  | no => rw [q] at P; exact P
  | ex z e1 => rw [q] at P; exact fun cls d F' H' f s x => P cls d F' H' σ f s x
  | ok rs e1 =>
    rw [q] at P
    dsimp only at P
    intro vs F1 H1 f1 S1 h1
    cases q1 : fzs rs with
    | none => rw [q1] at P; exact P.elim
    | some ds =>
      rw [q1] at P
      dsimp only at P
      by_cases hz : ds.length ≤ 16777216
      · rw [if_pos hz] at P
        have r := fzs_rd h1 q1
        match ds, vs, r, P with
        | [d1, d2], [v1, v2], .cons r1 (.cons r2 .nil), P => exact ⟨v1, v2, rfl, P F1 H1 _ f1 ((S1.set r1).set r2)⟩
        | [], _, _, P => exact P.elim
        | [_], _, _, P => exact P.elim
        | _ :: _ :: _ :: _, _, _, P => exact P.elim
      · rw [if_neg hz] at P
        exact P.elim
end
section
variable {ca : Str → Option Addr} {W : WX} {X : Cx} {a b : Expr} {ga : AV} {pos px py pt pt2 : Pos} {x y : Str} {kt k2 : _}
theorem sv_par2 {i j : Nat} (hc : X.calm = true) (hN : X.N.Nodup) (hi : X.N[i]? = some x) (hj : X.N[j]? = some y) (hij : i ≠ j)
    (hx : X.env.scope.names.lookup x = some .local) (hy : X.env.scope.names.lookup y = some .local) (h : Av ca W X [a, b] ga)
    (hw : swappedStores [.Tuple [.Name x px, .Name y py] kt pt] (.Tuple [a, b] k2 pt2) X.env = pure (some [x, y]) := by rfl)
    (hs : swapsWithSole [.Tuple [.Name x px, .Name y py] kt pt] (.Tuple [a, b] k2 pt2) pos.line X.env = pure false := by rfl) :
    Sv ca W X (.Assign [.Tuple [.Name x px, .Name y py] kt pt] (.Tuple [a, b] k2 pt2) pos) (sUnp [i, j] (eDisp mkTup ga)) := PS_imp (ps_par hc hN hi hj hij hx hy h hw hs) fun _ _ _ => par_rd
end
end S3

/-! J7: try .. except C: without a name. -/
namespace S3
open PySem PySem.Spec L2 STK
def sTry0 (sub : Str → Bool) (b h : SV) : SV := fun e => match b e with
  | .ex x e1 => if xnm x.c then (if sub x.c then (match h e1 with | .ex _ _ => .no | r => r) else .ex x e1) else .no
  | r => r
section
variable {ca : Str → Option Addr} {W : WX} {X : Cx} {x n : Str} {c : Value} {body suite : List Stmt} {b₀ : Stmt} {np pos pos' : Pos} {b h : SV}
theorem sv_try0 {sub : Str → Bool} (hs : X.stack = X.env :: X.outer) (hf : X.env.frame = some X.env.locals) (hsub : ∀ m C, ca m = some C → xnm m = true → PySem.W.exmOne X.K (.ref C) c = some (sub m)) (hc : Names X x c) (tk : Takes X W)
    (hb : ∀ (W : WX) (pn : List (Addr × Obj)) (xe : Value → Shared → Prop), Takes (X.tr pn xe) W → PassesOwn (model X.prog X.w) X.A X.env xe → Bv ca W (X.tr pn xe) body b)
    (hsu : ∀ (a : Addr) (oe : Obj) (cls : Value) (d : Option Addr) (pn : List (Addr × Obj)), Zc cls d oe → (∃ vs, oe.data = .fields vs) → Bv ca (fun _ _ _ _ => False) (X.suite a ((a, oe) :: pn)) (b₀ :: suite) h) :
    Sv ca W X (.Try body [.ExceptHandler (some (.Name x np)) none (b₀ :: suite) pos'] [] [] pos) (sTry0 sub b h) := by
  refine PS_imp (ps_try_only (tb := fun W => tSv (zw ca X) W b) (ts := fun _ _ _ => tSv (zw ca X) (fun _ _ _ _ => False) h) hs hf hc tk hb hsu) fun D σ H hh => ?_
  obtain ⟨N, F, e1, S, P⟩ := hh
  refine ⟨N, F, e1, S, ?_⟩
  unfold sTry0 at P
  cases q : b e1 with
  | no => rw [q] at P; exact P
  | nx e2 => rw [q] at P; exact P
  | rt r e2 => rw [q] at P; exact P
  | bk e2 => rw [q] at P; exact P
  | ct e2 => rw [q] at P; exact P
  | ex y e2 =>
    rw [q] at P
    dsimp only at P
    intro cls d F' H' σ' s S1 E1
    by_cases nm : xnm y.c = true
    · rw [if_pos nm] at P
      obtain ⟨C, hC, rfl, _, _⟩ := id E1
      refine ⟨sub y.c, hsub _ _ hC nm, fun hb1 a na => ?_, fun hb1 => ?_⟩
      · rw [if_pos hb1] at P
        refine ⟨N, F', e2, S1, ?_⟩
        cases q2 : h e2 with
        | no => rw [q2] at P; exact P.elim
        | ex _ _ => rw [q2] at P; exact P.elim
        | nx e3 => rw [q2] at P; exact fun F2 H2 σ2 s2 S3' => P F2 H2 σ2 (s.trans s2) S3'
        | bk e3 => rw [q2] at P; exact fun F2 H2 σ2 s2 S3' => P F2 H2 σ2 (s.trans s2) S3'
        | ct e3 => rw [q2] at P; exact fun F2 H2 σ2 s2 S3' => P F2 H2 σ2 (s.trans s2) S3'
        | rt r e3 =>
          rw [q2] at P
          exact fun v F2 H2 σ2 s2 S3' R => P v F2 H2 σ2 (s.trans s2) S3' R
      · have hb1' : ¬ sub y.c = true := by rw [hb1]; decide
        rw [if_neg hb1'] at P
        exact P (.ref C) d F' H' σ' s S1 E1
    · rw [if_neg nm] at P; exact P.elim
theorem sv_try0N {sub : Str → Bool} {fs : List Str} (hs : X.stack = X.env :: X.outer) (hf : X.env.frame = some X.env.locals) (S : XsOk ca X.K fs) (T : ExcOf ca X.K X.mg x sub) (tk : Takes X W)
    (hb : ∀ (W : WX) (pn : List (Addr × Obj)) (xe : Value → Shared → Prop), Takes (X.tr pn xe) W → PassesOwn (model X.prog X.w) X.A X.env xe → Bv ca W (X.tr pn xe) body b)
    (hsu : ∀ (a : Addr) (oe : Obj) (cls : Value) (d : Option Addr) (pn : List (Addr × Obj)), Zc cls d oe → (∃ vs, oe.data = .fields vs) → Bv ca (fun _ _ _ _ => False) (X.suite a ((a, oe) :: pn)) (b₀ :: suite) h)
    (hg : Gl X x := by rfl) (hdb : (x == ("__debug__" : Str)) = false := by decide) :
    Sv ca W X (.Try body [.ExceptHandler (some (.Name x np)) none (b₀ :: suite) pos'] [] [] pos) (sTry0 sub b h) := by
  obtain ⟨C2, h1, h2⟩ := T.ex
  exact sv_try0 hs hf h2 ⟨hg, hdb, .inl h1⟩ tk hb hsu
end
end S3

/-! J8: f-strings: {x}, {x:<8}, {x:>8}, parts joined. -/
namespace S3
open PySem PySem.Spec L2
/-- a text filled with blanks: lf: behind it -/
def padS (lf : Bool) (w : Nat) (x : Str) : Str := if lf then Builtin.Str.padded x 0 (w - x.length) 32 else Builtin.Str.padded x (w - x.length) 0 32
def opPad (lf : Bool) (w : Nat) : D → Option RV
  | .str x => if x.length + w ≤ 16777216 then some (.fz (.str (padS lf w x))) else none
  | _ => none
def specS : Bool → Str
  | true => "<8"
  | false => ">8"
theorem padS_ge {lf : Bool} {w : Nat} {x : Str} (h : w ≤ x.length) : padS lf w x = x := by
  have e : w - x.length = 0 := by omega
  unfold padS Builtin.Str.padded
  rw [e]
  cases lf <;> simp
theorem padS_len (lf : Bool) (w : Nat) (x : Str) : (padS lf w x).length ≤ x.length + w := by
  unfold padS Builtin.Str.padded Str.length
  cases lf <;> simp [Array.size_append, Array.size_replicate] <;> omega
theorem padS_ok {lf : Bool} {w : Nat} {x : Str} (h : sOk x = true) (hz : x.length + w ≤ 16777216) : sOk (padS lf w x) = true := by
  refine sOk_of (Nat.le_trans (padS_len lf w x) hz) ?_
  have h2 := sOk_cps h
  rw [Array.all_eq_true_iff_forall_mem] at h2 ⊢
  intro c hc
  unfold padS Builtin.Str.padded at hc
  cases lf <;> simp [Array.mem_append, Array.mem_replicate] at hc <;> rcases hc with hc | hc
  all_goals first | (rw [hc.2]; decide) | exact h2 c hc
theorem exb {α β : Type} (a : α) (k : α → Except String β) : ((Except.ok a : Except String α) >>= k) = k a := rfl
open Builtin Builtin.Str Builtin.Int Builtin.Float PyProof.Rows in
theorem meets_pad {lf : Bool} {x : Str} {t u : Tok} (hz : x.length + 8 ≤ sizeLine) :
    Meets («str.__format__» ⟨[.str x t, .str (specS lf) u], []⟩) (fun _ R s => ∀ t' k, R (.ok (.ret (.str (padS lf 8 x) t'))) { s with toks := k }) := by
  apply PySem.W.KPc.meets_of
  intro prog w A s Q E h
  have hsz : (padS lf 8 x).length ≤ sizeLine := Nat.le_trans (padS_len lf 8 x) hz
  have hs : strSub x 0 x.length = x := by
    unfold strSub
    simp [Str.length]
  have hp : ∀ n, parseFormatSpec (specS lf).cps.toList n 60 = .ok { fill := 32, align := if lf then 60 else 62, width := some 8 } := by
    intro n
    cases lf <;> rfl
  have e0 : ((specS lf).length == 0) = false := by cases lf <;> rfl
  unfold Builtin.«str.__format__»
  refine wpAny_bind (wpAny_of_eq (a := (_, _, _)) rfl ?_)
  refine wpAny_bind (wpAny_of_eq (a := some _) rfl ?_)
  refine wpAny_ite (PySem.W.KPc.ite_no (by cases lf <;> decide +kernel) ?_)
  refine wpAny_ite (PySem.W.KPc.ite_no (by cases lf <;> decide +kernel) ?_)
  refine wpAny_bind (PySem.W.KXf.cut_str ?_)
  rw [hp]
  have e1 : strField x { fill := 32, align := if lf then 60 else 62, width := some 8 } "str" = .ok (if 8 ≤ x.length then none else some (padS lf 8 x)) := by
    unfold strField
    by_cases hw : 8 ≤ x.length
    · cases lf <;> simp [hw, exb] <;> rfl
    · cases lf <;> simp [hw, exb, hs, padS] <;> rfl
  have eb : ((specS lf).cps.back? == some 0) = false := by cases lf <;> decide +kernel
  have et : tooLong 8 = false := by decide +kernel
  simp only [exb, eb, Bool.and_false, Bool.false_eq_true, if_false, Option.getD_some, et, e1]
  by_cases hw : 8 ≤ x.length
  · rw [if_pos hw]
    refine wpAny_bind (wpAny_rule ?_)
    refine PySem.W.KXf.ret_same (padS_ge (lf := lf) hw).symm ?_
    exact h
  · rw [if_neg hw]
    refine PySem.W.KXf.ret_text rfl hsz ?_
    exact h
/-! ### the rules -/
def eJs : List EV → Str → EV
  | [], acc => eC (.str acc)
  | f :: fs, acc => eBind f fun r e => match rd r e with
    | some (.str y) => if (acc ++ y).length ≤ 16777216 then eJs fs (acc ++ y) e else .no
    | _ => .no
section
variable {X : Cx}
def tPad (lf : Bool) (te : TE) : TE := fun σ H Q => te σ H fun x H1 => ∃ y : Str, x = .str y ∧ y.length + 8 ≤ sizeLine ∧ Q (.str (padS lf 8 y)) H1
theorem pe_pad (lf : Bool) {e : Expr} {te : TE} {sp : Str} {j : Nat} {pos p1 p2 : Pos} (he : PE X e te) (hsp : sp = specS lf := by rfl) :
    PE X (.FormattedValue e (-1) (some (.JoinedStr [.Constant (.str sp) j p1] p2)) pos) (tPad lf te) := by
  subst hsp
  refine ⟨fun pins s σ H Q I h => ?_⟩
  refine wpAny_FormattedValue_spec (thn (he.run pins s σ H _ I h) fun v s1 hv => ?_)
  obtain ⟨x, H1, I1, r1, y, rfl, hy, q⟩ := hv
  obtain ⟨t, rfl⟩ := r1
  refine thn ((pe_joined1 (X := X) (pos := p2) (pe_str (x := specS lf) (pos := p1))).run pins s1 σ H1 (fun v H' => v = .str (specS lf) ∧ Q (.str (padS lf 8 y)) H') I1 ⟨rfl, q⟩) fun r s2 hr => ?_
  obtain ⟨x2, H2, I2, r2, rfl, q2⟩ := hr
  obtain ⟨t2, rfl⟩ := r2
  refine ⟨_, _, rfl, ?_⟩
  exact PySem.W.KXf.field_str rfl rfl (by cases lf <;> rfl) (by cases lf <;> decide +kernel) (fun u => meets_pad hy) fun t' k => ⟨.str (padS lf 8 y), H2, I2.tok _, ⟨_, rfl⟩, q2⟩
end
section
variable {Z : Wd}
theorem s_pad (lf : Bool) : Sound1 Z (fun x H Q => ∃ y : Str, x = .str y ∧ y.length + 8 ≤ sizeLine ∧ Q (.str (padS lf 8 y)) H) (opPad lf 8) := by
  intro F H x dx rr Q l hx ho q
  cases dx <;> simp only [opPad] at ho <;> try (cases ho; done)
  split at ho
  · rename_i h
    cases ho
    exact ⟨_, hx.str.1, by rw [sizeLine_eq]; exact h, fin_fz l q (.str _ (padS_ok hx.str.2.2 h))⟩
  · cases ho
theorem s_fmt : Sound1 Z (fun x H Q => (∃ y : Str, x = .str y ∧ y.length ≤ sizeLine ∧ Q (.str y) H) ∨ ∃ i : Int, x = .int i ∧ i.natAbs.log2 < 1920 ∧ Q (.str (toString i)) H) opStr := by
  intro F H x dx rr Q l hx ho q
  cases dx <;> simp only [opStr] at ho <;> try (cases ho; done)
  · split at ho
    · rename_i h
      cases ho
      exact .inr ⟨_, by rw [hx.int], by omega, fin_fz l q (.str _ (sOk_int _ h))⟩
    · cases ho
  · cases ho
    exact .inl ⟨_, hx.str.1, hx.str.2.1, fin_fz l q (.str _ hx.str.2.2)⟩
end
section
variable {ca : Str → Option Addr} {W : WX} {X : Cx} {e : Expr} {fe : EV} {pos p1 p2 : Pos}
theorem ev_pad (lf : Bool) {sp : Str} {j : Nat} (he : Ev ca W X e fe) (hsp : sp = specS lf := by rfl) : Ev ca W X (.FormattedValue e (-1) (some (.JoinedStr [.Constant (.str sp) j p1] p2)) pos) (eOp1 (opPad lf 8) fe) :=
  PE_imp (pe_pad lf he hsp) fun _ _ _ => one (s_pad lf)
theorem ev_fmt (he : Ev ca W X e fe) : Ev ca W X (.FormattedValue e (-1) none pos) (eOp1 opStr fe) :=
  PE_imp (pe_fmt he) fun _ _ _ => one s_fmt
inductive Jv (ca : Str → Option Addr) (W : WX) (X : Cx) : List Expr → List EV → Prop where
  | nil : Jv ca W X [] []
  | cons {e : Expr} {f : EV} {es : List Expr} {fs : List EV} (h : Ev ca W X e f) (r : Jv ca W X es fs) : Jv ca W X (e :: es) (f :: fs)
theorem Jv.pj {es : List Expr} {fs : List EV} (h : Jv ca W X es fs) : PJ X es (fs.map (tEv (zw ca X) W)) := by
  induction h with
  | nil => exact .nil
  | cons h _ ih => exact .cons h ih
theorem js_run {Z : Wd} {W : WX} {σ : St} : ∀ (fs : List EV) (acc : Str) (H : Hp) (Q : VK), sOk acc = true → tEv Z W (eJs fs acc) σ H Q → tJs (fs.map (tEv Z W)) acc σ H (fun out H1 => Q (.str out) H1)
  | [], acc, H, Q, hz, h => const_rd (fun _ => .str acc hz) h
  | f :: fs, acc, H, Q, hz, h => by
    obtain ⟨N, F, e, S, P⟩ := h
    show tEv Z W f σ H _
    refine bindL S P fun x F1 H1 e1 ra f1 S1 R1 P1 => ?_
    obtain ⟨F2, f2, S2, h2⟩ := RvOk.hold S1 R1
    have P2 := PostE.shift P1 f2
    cases d1 : S3.rd ra e1 with
    | none => rw [d1] at P2; exact P2.elim
    | some dx =>
      rw [d1] at P2
      cases dx with
      | str y =>
        dsimp only at P2
        have hx := (h2.rd S2 d1).str
        split at P2
        · rename_i hl
          refine ⟨y, hx.1, by rw [sizeLine_eq]; exact hl, js_run fs (acc ++ y) H1 Q (sOk_of hl (app_ok (sOk_cps hz) (sOk_cps hx.2.2))) ⟨_, F2, e1, S2, P2⟩⟩
        · exact P2.elim
      | _ => exact P2.elim
/-- f'..' of two parts or more -/
theorem ev_js {v1 v2 : Expr} {rest : List Expr} {fs : List EV} (h : Jv ca W X (v1 :: v2 :: rest) fs) : Ev ca W X (.JoinedStr (v1 :: v2 :: rest) pos) (eJs fs Str.empty) :=
  PE_imp (pe_joined h.pj) fun _ _ _ h => js_run fs Str.empty _ _ (by decide +kernel) h
/-- f'..' of one part -/
theorem ev_js1 (he : Ev ca W X e fe) : Ev ca W X (.JoinedStr [e] pos) fe := pe_joined1 he
end
end S3

/-! J9: x.split(sep), sep a written text; x.upper(). What is said of the parts is asked of the term. -/
namespace S3
open PySem PySem.Spec L2
def opSpl (b : Str) : D → Option RV
  | .str a => if (b.length == 0) = false ∧ a.length + 2 ≤ 16777216 ∧ (Txt.split a b).all sOk = true then some (.nw (.lst ((Txt.split a b).map .str))) else none
  | _ => none
def opUpp : D → Option RV
  | .str a => if a.length ≤ 5592405 ∧ sOk (Txt.upper a) = true then some (.fz (.str (Txt.upper a))) else none
  | _ => none
section
variable {Z : Wd}
theorem rpa_strs {F : Hp} : ∀ {ys : List Str}, ys.all sOk = true → RpA Z F (ys.map V.str) (ys.map D.str)
  | [], _ => .nil
  | y :: ys, h => by
    rw [List.all_cons, Bool.and_eq_true] at h
    exact .cons (.str y h.1) (rpa_strs h.2)
theorem s_spl (b : Str) : Sound1 Z (fun x H Q => (∃ a, x = .str a) ∧ ∃ a b', x = .str a ∧ [V.str b] = [V.str b'] ∧ (b'.length == 0) = false ∧ a.length + 2 ≤ sizeLine ∧ rNewStrs (Txt.split a b') H Q) (opSpl b) := by
  intro F H x dx rr Q l hx ho q
  cases dx <;> simp only [opSpl] at ho <;> try (cases ho; done)
  split at ho
  · rename_i h
    cases ho
    exact ⟨⟨_, hx.str.1⟩, _, b, hx.str.1, rfl, h.1, by rw [sizeLine_eq]; exact h.2.1, fin_lst l q (rpa_strs h.2.2)⟩
  · cases ho
theorem s_upp : Sound1 Z (fun x H Q => (∃ a, x = .str a) ∧ ∃ a, x = .str a ∧ ([] : List V) = [] ∧ a.length ≤ 5592405 ∧ Q (.str (Txt.upper a)) H) opUpp := by
  intro F H x dx rr Q l hx ho q
  cases dx <;> simp only [opUpp] at ho <;> try (cases ho; done)
  split at ho
  · rename_i h
    cases ho
    exact ⟨⟨_, hx.str.1⟩, _, hx.str.1, rfl, h.1, fin_fz l q (.str _ h.2)⟩
  · cases ho
end
section
variable {ca : Str → Option Addr} {W : WX} {X : Cx} {o : Expr} {fo : EV} {b : Str} {j : Nat} {p apos pos : Pos}
theorem ev_spl (ho : Ev ca W X o fo) (hs : starEach [.Constant (.str b) j p] X.env = [(false, eval (.Constant (.str b) j p) X.env)] := by rfl) (hbase : attributeBase o "split" X.env (eval o X.env) = eval o X.env := by rfl) (hline : (apos.endLine == pos.line) = true := by rfl) :
    Ev ca W X (.Call (.Attribute o "split" apos) [.Constant (.str b) j p] [] pos) (eOp1 (opSpl b) fo) :=
  PE_imp (pe_split ho (pe_str (x := b)) hs hbase hline) fun _ _ _ h => one (s_spl b) h
theorem ev_upp (ho : Ev ca W X o fo) (hbase : attributeBase o "upper" X.env (eval o X.env) = eval o X.env := by rfl) (hline : (apos.endLine == pos.line) = true := by rfl) :
    Ev ca W X (.Call (.Attribute o "upper" apos) [] [] pos) (eOp1 opUpp fo) :=
  PE_imp (pe_upper ho hbase hline) fun _ _ _ h => one s_upp h
end
end S3

/-! J10: x.replace('a', 'b') in a list display behind a written text: there a token is out. -/
namespace S3
open PySem PySem.Spec PyProof.Rows L2
def opRepl (y z : Str) : D → Option RV
  | .str a => if a.length + (a.length + 1) * z.length ≤ 16777216 ∧ sOk (Txt.replace a y z) = true then some (.fz (.str (Txt.replace a y z))) else none
  | _ => none
section
variable {X : Cx}
theorem pa_consO {op : Operator} {r : R2} {c : Str} {j : Nat} {b : Expr} {es : List Expr} {tb : TE} {ta : TA} {p1 p2 : Pos} (ho : OpR X (binaryOp op) r) (hb : PE X b tb) (hr : PAT X es ta)
    (hs : starEach (.BinOp (.Constant (.str c) j p1) op b p2 :: es) X.env = (false, eval (.BinOp (.Constant (.str c) j p1) op b p2) X.env) :: starEach es X.env := by rfl) :
    PA X (.BinOp (.Constant (.str c) j p1) op b p2 :: es) (tCons (tOp r (tC (.str c)) tb) ta) := by
  refine ⟨fun pos pins s σ H Q I hq => ?_⟩
  rw [hs]
  show wpAny _ _ (spliced ((false, eval (.BinOp (.Constant (.str c) j p1) op b p2) X.env) :: backTo pos (starEach es X.env))) _ _ s
  refine Calls.spliced_cons (wpAny_BinOp (Calls.Constant_str ?_))
  refine wpAny_mono (PySem.wpAny_toks (hb.run pins { s with toks := s.toks + 1 } σ H _ (I.tok (s.toks + 1)) hq)) (fun u s2 q => ?_) fun _ _ z => z.2
  obtain ⟨hk, y, H2, I2, r2, q2⟩ := q
  have hk : s.toks + 1 ≤ s2.toks := hk
  refine wpAny_mono (PySem.wpAny_toks (ho pins s2 σ H2 (V.str c) y (.str c s.toks) u _ I2 ⟨s.toks, rfl⟩ r2 q2)) (fun v s3 q => ?_) fun _ _ z => z.2
  obtain ⟨hk3, x, H3, I3, r3, q3⟩ := q
  exact thn (hr pos pins s3 σ H3 _ (by omega) I3 q3) fun us s4 ⟨xs, H4, I4, r4, q4⟩ => ⟨x :: xs, H4, I4, .cons r3 r4, q4⟩
end
section
variable {Z : Wd}
theorem s_repl (y z : Str) : Sound1 Z (fun v H Q => ∃ x, v = .str x ∧ x.length + (x.length + 1) * z.length ≤ 16777216 ∧ Q (.str (Txt.replace x y z)) H) (opRepl y z) := by
  intro F H x dx rr Q l hx ho q
  cases dx <;> simp only [opRepl] at ho <;> try (cases ho; done)
  split at ho
  · rename_i h
    cases ho
    exact ⟨_, hx.str.1, h.1, fin_fz l q (.str _ h.2)⟩
  · cases ho
end
section
variable {ca : Str → Option Addr} {W : WX} {X : Cx} {e o b : Expr} {es : List Expr} {fe fo fb : EV} {ga : AV} {pos p1 p2 apos c0 c1 : Pos}
abbrev EvT (ca : Str → Option Addr) (W : WX) (X : Cx) (e : Expr) (f : EV) : Prop := PET X e (tEv (zw ca X) W f)
abbrev AvT (ca : Str → Option Addr) (W : WX) (X : Cx) (es : List Expr) (f : AV) : Prop := PAT X es (tAv (zw ca X) W f)
theorem evT_of (h : Ev ca W X e fe) : EvT ca W X e fe := fun pins s σ H Q _ I q => h.run pins s σ H Q I q
theorem PAT_imp {t t' : TA} (h : PAT X es t) (i : ∀ σ H Q, t' σ H Q → t σ H Q) : PAT X es t' := fun w p s σ H Q h0 I q => h w p s σ H Q h0 I (i σ H Q q)
theorem PET_imp {t t' : TE} (h : PET X e t) (i : ∀ σ H Q, t' σ H Q → t σ H Q) : PET X e t' := fun p s σ H Q h0 I q => h p s σ H Q h0 I (i σ H Q q)
theorem avT_nil : AvT ca W X [] aNil := fun w p s σ H Q _ I q => (av_nil (ca := ca) (W := W) (X := X)).run w p s σ H Q I q
theorem avT_keep (ha : EvT ca W X e fe) (hr : AvT ca W X es ga) (hs : starEach (e :: es) X.env = (false, eval e X.env) :: starEach es X.env := by rfl) : AvT ca W X (e :: es) (aKeep fe ga) := PAT_imp (pat_cons ha hr hs) fun _ _ _ => tAv_keep
theorem evT_repl {y z : Str} {j k : Nat} (ho : Ev ca W X o fo) (hyz : (y == z) = false := by decide)
    (hst : starEach [.Constant (.str y) j c0, .Constant (.str z) k c1] X.env = [(false, eval (.Constant (.str y) j c0) X.env), (false, eval (.Constant (.str z) k c1) X.env)] := by rfl)
    (hbase : attributeBase o "replace" X.env (eval o X.env) = eval o X.env := by rfl) (hline : (apos.endLine == pos.line) = true := by rfl) :
    EvT ca W X (.Call (.Attribute o "replace" apos) [.Constant (.str y) j c0, .Constant (.str z) k c1] [] pos) (eOp1 (opRepl y z) fo) :=
  PET_imp (CwR.pet_replC ho hyz hst hbase hline) fun _ _ _ => one (s_repl y z)
/-- 'c' + b, ..: behind the first text a token is out -/
theorem av_keepO {op : Operator} {r : V → V → Hp → VK → Prop} {o2 : D → D → Option RV} {c : Str} {j : Nat} (ho : OpR X (binaryOp op) r) (hs2 : Sound2 (zw ca X) r o2) (hb : Ev ca W X b fb) (hr : AvT ca W X es ga) (hz : sOk c = true := by decide +kernel)
    (hs : starEach (.BinOp (.Constant (.str c) j p1) op b p2 :: es) X.env = (false, eval (.BinOp (.Constant (.str c) j p1) op b p2) X.env) :: starEach es X.env := by rfl) :
    Av ca W X (.BinOp (.Constant (.str c) j p1) op b p2 :: es) (aKeep (eOp2 o2 (eC (.str c)) fb) ga) :=
  PA_imp (pa_consO ho hb hr hs) fun σ H Q h => const_rd (fun _ => .str c hz) (two hs2 (tAv_keep h))
end
end S3

/-! N1: tuples of words that stand in a class (in, not in, index, ==); a def with *args; an own operator that may tell one of its two sides. -/
namespace S3
open PySem PySem.Spec L2
/-! ### terms -/
def idxW (x : Str) : List Str → Option Nat
  | [] => none
  | y :: r => if y = x then some 0 else (idxW x r).map (· + 1)
def opInK : D → D → Option RV
  | .str x, .kt ds => (txtsOf ds).map fun ws => .fz (.bl (decide (x ∈ ws)))
  | _, _ => none
def opNinK : D → D → Option RV
  | .str x, .kt ds => (txtsOf ds).map fun ws => .fz (.bl (!decide (x ∈ ws)))
  | _, _ => none
/-- xs.index(x), words; x is there -/
def opIdxL : D → D → Option RV
  | .lst ds, .str x => (txtsOf ds).bind fun ws => (idxW x ws).map fun j : Nat => .fz (.int (j : Int))
  | _, _ => none
/-- f(a, ..), f a def with *args alone -/
def opStar (phi : List D → RC) : D → Option RV
  | .tup ds => match phi [.tup ds] with
    | .ok n d _ => some (rv n d)
    | _ => none
  | _ => none
/-- kept -/
def eFz (f : EV) : EV := fun e => match f e with
  | .ok r e1 => (match stl r e1 with | some (d, e2) => .ok (.fz d) e2 | none => .no)
  | .ex x e1 => .ex x e1
  | .no => .no
/-- x op y by an own def that keeps both -/
def eOwnV (c : Str) (phi : List D → RC) (f g : EV) : EV := eBind (eFz f) fun r => eBind (eFz g) fun q e => match r, q with
  | .fz (.obj c1 f1), .fz (.obj c2 f2) => if decide (c1 = c) && decide (c2 = c) then (match phi [.obj c1 f1, .obj c2 f2] with
    | .ok n d _ => .ok (rv n d) e
    | .ex x _ => .ex x e
    | .no => .no) else .no
  | _, _ => .no
def opIdxW (ws : List Str) : D → Option RV
  | .str x => (idxW x ws).map fun j : Nat => .fz (.int (j : Int))
  | _ => none
/-- o.f.index(g), f a tuple of words in the class -/
def eIdxC (cs : List Str) (f : Str) (ws : List Str) (fo g : EV) : EV := eBind fo fun r e1 => match rd r e1 with
  | some (.obj c fs) => if inL c cs && (fs.lookup f).isNone then eOp1 (opIdxW ws) g e1 else .no
  | _ => .no
/-- f.index(g), f a list -/
def eIdxL (f g : EV) : EV := eBind f fun r e1 => match rd r e1 with
  | some (.lst _) => eBind g (fun q e2 => match rd r e2, rd q e2 with
    | some x, some y => ofOp (opIdxL x y) e2
    | _, _ => .no) e1
  | _ => .no
def ConWP (K : PySem.W.Frag) (f : Str) (ws : List Str) (C : Addr) : Prop := Cls K C ∧ ∃ p o its n, Con K C f (.ref p) (.ref p) ∧ K.lookup p = some o ∧ o.cls = .type "tuple" ∧ o.dict = none ∧ o.data = .seq its n ∧ its.size ≤ sizeLine ∧ Vals (ws.map V.str) its.toList ∧ ws.all sOk = true
structure ConW (ca : Str → Option Addr) (K : PySem.W.Frag) (cs : List Str) (f : Str) (ws : List Str) : Prop where
  ex : ∀ c, inL c cs = true → ∀ C, ca c = some C → ConWP K f ws C
theorem vals_size {ws : List Str} {its : Array Value} (h : Vals (ws.map V.str) its.toList) (hw : ws.length ≤ 100) : its.size ≤ sizeLine := by
  have := h.length
  rw [List.length_map] at this
  have e : its.toList.length = its.size := Array.length_toList
  rw [sizeLine_eq]; omega
/-- a tuple of words in a class, read off the class by its name -/
structure ConC (K : PySem.W.Frag) (mg : Str → Option Value) (n f : Str) (ws : List Str) : Prop where
  ex : ∃ C mc p o its m, mg n = some (.ref C) ∧ ClX.CRead K C mc ∧ ClX.CVal K C mc f (.ref p) (.ref p) ∧ K.lookup p = some o ∧ o.cls = .type "tuple" ∧ o.data = .seq its m ∧ its.size ≤ sizeLine ∧ Vals (ws.map V.str) its.toList ∧ ws.all sOk = true
/-! ### readings -/
theorem idxW_at : ∀ {ws : List Str} {x : Str} {j : Nat}, idxW x ws = some j → ws[j]? = some x ∧ ∀ m, m < j → ws[m]? ≠ some x
  | [], _, _, h => by cases h
  | y :: r, x, j, h => by
    unfold idxW at h
    split at h
    · rename_i e
      cases h
      subst e
      exact ⟨rfl, fun m hm => absurd hm (Nat.not_lt_zero _)⟩
    · rename_i e
      rw [Option.map_eq_some_iff] at h
      obtain ⟨i, h1, rfl⟩ := h
      obtain ⟨h2, h3⟩ := idxW_at h1
      refine ⟨by simpa using h2, fun m hm => ?_⟩
      cases m with
      | zero => simpa using e
      | succ m => simpa using h3 m (by omega)
theorem eqV_str (a b : Str) : L2.eqV (.str a) (.str b) = decide (a = b) := by
  by_cases h : a = b
  · subst h; simp [L2.eqV]
  · simp [L2.eqV, h]
theorem inV_strs (x : Str) (ws : List Str) : L2.inV (.str x) (ws.map V.str) = decide (x ∈ ws) := by
  unfold L2.inV
  rw [List.any_map, Bool.eq_iff_iff, List.any_eq_true, decide_eq_true_iff]
  constructor
  · rintro ⟨y, hy, h⟩
    have h : L2.eqV (.str y) (.str x) = true := h
    rw [eqV_str] at h
    rw [← of_decide_eq_true h]; exact hy
  · exact fun h => ⟨x, h, by show L2.eqV (.str x) (.str x) = true; rw [eqV_str]; exact decide_eq_true rfl⟩
theorem flat_strs (ws : List Str) : (ws.map V.str).all flatV = true := by
  rw [List.all_map, List.all_eq_true]
  exact fun _ _ => rfl
section
variable {Z : Wd} {F F' H H' : Hp} {N : En} {σ : L2.St} {e e' : Env} {v x y : V} {W : WX} {E : Ends}
theorem RdV.kt {x : V} {ds : List D} (h : RdV Z F H x (.kt ds)) : ∃ a xs, x = .ref a ∧ SqT Z.K F a xs ∧ RpA Z F xs ds := by
  rcases h with h | ⟨a, _, _, t⟩
  · cases h with
    | kt h r => exact ⟨_, _, rfl, h, r⟩
  · exact t.elim
theorem s_inK : Sound2 Z (rIn Z.K false) opInK := by
  intro F H x y dx dy rr Q l hx hy ho q
  cases dx <;> try (simp only [opInK] at ho; cases ho; done)
  cases dy <;> try (simp only [opInK] at ho; cases ho; done)
  simp only [opInK, Option.map_eq_some_iff] at ho
  obtain ⟨ws, h1, rfl⟩ := ho
  obtain ⟨a, xs, rfl, ha, ra⟩ := hy.kt
  obtain ⟨rfl, _⟩ := txtsOf_rd ra h1
  rw [hx.str.1]
  exact ⟨a, _, rfl, .inr (SqT.same l ha), rfl, flat_strs ws, by rw [inV_strs]; exact fin_bl l q⟩
theorem s_ninK : Sound2 Z (rIn Z.K true) opNinK := by
  intro F H x y dx dy rr Q l hx hy ho q
  cases dx <;> try (simp only [opNinK] at ho; cases ho; done)
  cases dy <;> try (simp only [opNinK] at ho; cases ho; done)
  simp only [opNinK, Option.map_eq_some_iff] at ho
  obtain ⟨ws, h1, rfl⟩ := ho
  obtain ⟨a, xs, rfl, ha, ra⟩ := hy.kt
  obtain ⟨rfl, _⟩ := txtsOf_rd ra h1
  rw [hx.str.1]
  exact ⟨a, _, rfl, .inr (SqT.same l ha), rfl, flat_strs ws, by rw [inV_strs]; exact fin_bl l q⟩
theorem s_idxL : Sound2 Z (fun x y H Q => rIndex Z.K x [y] H Q) opIdxL := by
  intro F H x y dx dy rr Q l hx hy ho q
  cases dx <;> try (simp only [opIdxL] at ho; cases ho; done)
  cases dy <;> try (simp only [opIdxL] at ho; cases ho; done)
  simp only [opIdxL, Option.bind_eq_some_iff, Option.map_eq_some_iff] at ho
  obtain ⟨ws, h1, j, h2, rfl⟩ := ho
  obtain ⟨a, xs, rfl, ha, ra⟩ := hx.lst l
  obtain ⟨rfl, _⟩ := txtsOf_rd ra h1
  obtain ⟨g1, g2⟩ := idxW_at h2
  rw [hy.str.1]
  refine ⟨a, _, _, j, .str _, rfl, rfl, SqL.of ha, rfl, flat_strs ws, by rw [List.getElem?_map, g1]; rfl, by rw [eqV_str]; exact decide_eq_true rfl, fun m z' hm hz => ?_, fin_fz l q (.int _)⟩
  rw [List.getElem?_map, Option.map_eq_some_iff] at hz
  obtain ⟨w, hw, rfl⟩ := hz
  rw [eqV_str]
  exact decide_eq_false fun e => g2 m hm (by rw [hw, e])
theorem s_star {phi : List D → RC} : Sound1 Z (fun x H Q => spOf Z [.v] phi [x] H Q (fun _ _ _ => False)) (opStar phi) := by
  intro F H x dx rr Q l hx ho q
  cases dx <;> simp only [opStar] at ho <;> try (cases ho; done)
  rename_i ds
  have hx' : Rp Z F x (.tup ds) := by
    rcases hx with hx | ⟨a, _, _, t⟩
    · exact hx
    · exact t.elim
  refine ⟨F, [.tup ds], l, .v hx' .nil, fun i j b m d _ hi => ?_, ?_⟩
  · cases i with
    | zero => simp [mAt] at hi
    | succ i => simp [mAt] at hi
  · cases q2 : phi [.tup ds] with
    | no => rw [q2] at ho; cases ho
    | ex z o => rw [q2] at ho; cases ho
    | ok n d outs =>
      rw [q2] at ho
      cases ho
      intro v F' H' cg _ r
      have cg' : CGr F H [] F' H' := cg
      refine q v F' H' (cgr_gr l cg') ?_
      unfold rv
      cases n with
      | false => exact r
      | true =>
        obtain ⟨b, e1, h1, h2, t⟩ := r
        exact ⟨b, e1, h1, h2, t⟩
theorem star_rd {phi : List D → RC} {ga : AV} {Q : VK} (h : tEv Z W (eOp1 (opStar phi) (eDisp mkTup ga)) σ H Q) :
    tTup (tAv Z W ga) σ H fun x H1 => spOf Z [.v] phi [x] H1 Q (fun _ _ _ => False) := disp_tup (one s_star h)
theorem fz_rd {f : EV} {Q : VK} (h : tEv Z W (eFz f) σ H Q) : tEv Z W f σ H Q := by
  obtain ⟨N, F, e, S, P⟩ := h
  unfold eFz at P
  refine ⟨N, F, e, S, ?_⟩
  cases q : f e with
  | no => rw [q] at P; exact P
  | ex z e1 => rw [q] at P; exact P
  | ok r e1 =>
    rw [q] at P
    dsimp only at P
    intro x F1 H1 f1 S1 R1
    cases q1 : stl r e1 with
    | none => rw [q1] at P; exact P.elim
    | some p =>
      obtain ⟨d, e2⟩ := p
      rw [q1] at P
      obtain ⟨F2, f2, S2, r2⟩ := RvOk.stl S1 R1 q1
      exact P x F2 H1 (f1.trans f2) S2 r2
theorem ownV_rd {c : Str} {C : Addr} {phi : List D → RC} {f g : EV} {Q : VK} (hC : Z.ca c = some C) (h : tEv Z W (eOwnV c phi f g) σ H Q) : tOpS (fun σ => rOwnI C (spOf Z [.v, .v] phi) (WE W σ)) (tEv Z W f) (tEv Z W g) σ H Q := by
  obtain ⟨N, F, e, S, P⟩ := h
  refine fz_rd (bindL S P fun x F1 H1 e1 ra f1 S1 R1 P1 => ?_)
  obtain ⟨F2, f2, S2, h2⟩ := RvOk.hold S1 R1
  refine fz_rd (bindL S2 (PostE.shift P1 f2) fun y F3 H3 e3 rb f3 T3 R3 P3 => ?_)
  obtain ⟨F4, f4, S4, h4⟩ := RvOk.hold T3 R3
  have P4 := PostE.shift P3 f4
  have g2 := (h2.mono f3).mono f4
  cases ra <;> try exact P4.elim
  rename_i dx
  cases rb <;> try (cases dx <;> exact P4.elim)
  rename_i dy
  have hx : Rp Z F4 x dx := g2
  have hy : Rp Z F4 y dy := h4
  cases dx <;> try exact P4.elim
  cases dy <;> try exact P4.elim
  rename_i c1 fs1 c2 fs2
  dsimp only at P4
  split at P4
  · rename_i hc
    rw [Bool.and_eq_true] at hc
    have e1 := of_decide_eq_true hc.1
    have e2 := of_decide_eq_true hc.2
    subst e1
    subst e2
    obtain ⟨a, C1, dx, xs, ex, k1, ha, _⟩ := (show RdV Z F4 H3 x _ from .inl hx).obj S4.le
    obtain ⟨b, C2, dy, ys, ey, k2, hb, _⟩ := (show RdV Z F4 H3 y _ from .inl hy).obj S4.le
    rw [hC] at k1 k2
    cases k1
    cases k2
    refine ⟨a, dx, xs, b, dy, ys, ex, ey, ha, hb, F4, [.obj _ fs1, .obj _ fs2], S4.le, .v hx (.v hy .nil), fun i j b m d _ hi => ?_, ?_⟩
    · match i with
      | 0 => simp [mAt] at hi
      | 1 => simp [mAt] at hi
      | i + 2 => simp [mAt] at hi
    · cases q2 : phi [.obj _ fs1, .obj _ fs2] with
      | no => rw [q2] at P4; exact P4
      | ex z o =>
        rw [q2] at P4
        intro cls dd F' H' cg _ r
        have cg' : CGr F4 H3 [] F' H' := cg
        have gr := cgr_gr S4.le cg'
        exact P4 cls dd F' H' gr.f (S4.gr gr) r
      | ok n d outs =>
        rw [q2] at P4
        intro v F' H' cg _ r
        have cg' : CGr F4 H3 [] F' H' := cg
        refine op_end S4 P4 v F' H' (cgr_gr S4.le cg') ?_
        unfold rv
        cases n with
        | false => exact r
        | true =>
          obtain ⟨b, e1, h1, h2, t⟩ := r
          exact ⟨b, e1, h1, h2, t⟩
  · exact P4.elim
theorem rpA_ws {F : Hp} : ∀ {ws : List Str}, ws.all sOk = true → RpA Z F (ws.map V.str) (ws.map D.str)
  | [], _ => .nil
  | w :: ws, h => by
    rw [List.all_cons, Bool.and_eq_true] at h
    exact .cons (.str w h.1) (rpA_ws h.2)
theorem s_idxW {p : Addr} {ws : List Str} (hp : ∀ H, SqT Z.K H p (ws.map V.str)) : Sound1 Z (fun y H Q => ∃ p', ∃ ys : List Str, ∃ z j, V.ref p = .ref p' ∧ [y] = [.str z] ∧ SqT Z.K H p' (ys.map V.str) ∧ ys[j]? = some z ∧ (∀ m, m < j → ys[m]? ≠ some z) ∧ Q (.int (j : Nat)) H) (opIdxW ws) := by
  intro F H y dy rr Q l hy ho q
  cases dy <;> simp only [opIdxW] at ho <;> try (cases ho; done)
  rw [Option.map_eq_some_iff] at ho
  obtain ⟨j, h2, rfl⟩ := ho
  obtain ⟨g1, g2⟩ := idxW_at h2
  rw [hy.str.1]
  exact ⟨p, ws, _, j, rfl, rfl, hp H, g1, g2, fin_fz l q (.int _)⟩
end
section
variable {ca : Str → Option Addr} {W : WX} {X : Cx} {a b o : Expr} {es : List Expr} {fa fb fo : EV} {ga : AV} {pos p apos : Pos} {k : Nat} {n c : Str} {phi : List D → RC}
theorem ev_inK (ha : Ev ca W X a fa) (hb : Ev ca W X b fb) (hm : behindInMarks .In b = false := by rfl) : Ev ca W X (.Compare a [.In] [b] pos) (eOp2 opInK fa fb) := ev_cmp op_in_seq s_inK ha hb hm
theorem tv_inK (ha : Ev ca W X a fa) (hb : Ev ca W X b fb) (hm : behindInMarks .In b = false := by rfl) : Tv ca W X (.Compare a [.In] [b] pos) (tVal (eOp2 opInK fa fb)) := tv_cmp op_in_seq s_inK ha hb hm
theorem ev_ninK (ha : Ev ca W X a fa) (hb : Ev ca W X b fb) (hm : behindInMarks .NotIn b = false := by rfl) : Ev ca W X (.Compare a [.NotIn] [b] pos) (eOp2 opNinK fa fb) := ev_cmp op_notIn_seq s_ninK ha hb hm
theorem tv_ninK (ha : Ev ca W X a fa) (hb : Ev ca W X b fb) (hm : behindInMarks .NotIn b = false := by rfl) : Tv ca W X (.Compare a [.NotIn] [b] pos) (tVal (eOp2 opNinK fa fb)) := tv_cmp op_notIn_seq s_ninK ha hb hm
theorem ConW.con {P : Program} {w : World} {K : PySem.W.Frag} {cs : List Str} {f : Str} {ws : List Str} (T : ConW ca K cs f ws) : ConT ca P w K cs f (.kt (ws.map .str)) := ⟨fun c hc C hC => by
  obtain ⟨h1, p, o, its, n, h2, h3, h4, h5, h6, h7, h8, h9⟩ := T.ex c hc C hC
  exact ⟨h1, .ref p, .ref p, h2, fun F => .kt (.inr ⟨o, its, n, h3, h4, h6, h7, h8⟩) (rpA_ws h9)⟩⟩
theorem ev_idxC {cs : List Str} {f : Str} {ws : List Str} {fp : Pos} (T : ConW ca X.K cs f ws) (ho : Ev ca W X o fo) (ha : Ev ca W X a fa)
    (hb : attributeBase o f X.env (eval o X.env) = eval o X.env := by rfl)
    (h1 : attributeBase (.Attribute o f fp) "index" X.env (eval (.Attribute o f fp) X.env) = eval (.Attribute o f fp) X.env := by rfl)
    (h2 : ((backTo pos (starEach [a] X.env)).all (fun x => !x.1) && (backToKw pos (keywordEach [] X.env)).all (fun x => x.1.isSome) && decide (([a] : List Expr).length + ([] : List Keyword).length + (if ([] : List Keyword).isEmpty then 0 else 1) < 30)) = true := by rfl)
    (h3 : (apos.endLine == pos.line) = true := by rfl) (h4 : starEach [a] X.env = (false, eval a X.env) :: starEach [] X.env := by rfl) (h5 : ((backTo pos (starEach [] X.env)).any fun x => x.1) = false := by rfl) :
    Ev ca W X (.Call (.Attribute (.Attribute o f fp) "index" apos) [a] [] pos) (eIdxC cs f ws fo fa) := by
  refine PE_imp (pe_bm PySem.F.plainAttrs_tuple PySem.F.slot_tuple_index PySem.F.type_tuple_index mt_tup_index (pe_con ho hb) (pa_cons ha pa_nil h4) h1 h2 h3 h4 h5) fun σ H Q h => ?_
  obtain ⟨N, F, e, S, P⟩ := h
  refine bindL S P fun x F1 H1 e1 ra f1 S1 R1 P1 => ?_
  obtain ⟨F2, f2, S2, h2⟩ := RvOk.hold S1 R1
  have P2 := PostE.shift P1 f2
  cases d1 : S3.rd ra e1 with
  | none => rw [d1] at P2; exact P2.elim
  | some dx =>
    rw [d1] at P2
    have hx := h2.rd S2 d1
    cases dx <;> try exact P2.elim
    rename_i c fs
    dsimp only at P2
    split at P2
    · rename_i hc
      rw [Bool.and_eq_true] at hc
      obtain ⟨a', C, dx, xs, ex, k1, hA, rr⟩ := hx.obj S2.le
      obtain ⟨g1, p, o, its, n, g2, g3, g4, g5, g6, g7, g8, g9⟩ := T.ex c hc.1 C k1
      refine ⟨a', C, dx, xs, .ref p, .ref p, ex, hA, g1, g2, RpP.lookN rr (by simpa using hc.2), .inr (.inl ⟨rfl, o, g3, g4, g5⟩), ?_⟩
      have r := one (s_idxW (Z := zw ca X) (p := p) (ws := ws) fun H => .inr ⟨o, its, n, g3, g4, g6, g7, g8⟩) (W := W) (σ := σ) (H := H1) (Q := Q) (fa := fa) ⟨N, F2, e1, S2, P2⟩
      exact tEv_imp r fun y H2 h => h
    · exact P2.elim
theorem ev_idxL (ho : Ev ca W X o fo) (ha : Ev ca W X a fa)
    (h1 : attributeBase o "index" X.env (eval o X.env) = eval o X.env := by rfl)
    (h2 : ((backTo pos (starEach [a] X.env)).all (fun x => !x.1) && (backToKw pos (keywordEach [] X.env)).all (fun x => x.1.isSome) && decide (([a] : List Expr).length + ([] : List Keyword).length + (if ([] : List Keyword).isEmpty then 0 else 1) < 30)) = true := by rfl)
    (h3 : (apos.endLine == pos.line) = true := by rfl) (h4 : starEach [a] X.env = (false, eval a X.env) :: starEach [] X.env := by rfl) (h5 : ((backTo pos (starEach [] X.env)).any fun x => x.1) = false := by rfl) :
    Ev ca W X (.Call (.Attribute o "index" apos) [a] [] pos) (eIdxL fo fa) := by
  refine PE_imp (pe_bm PySem.F.plainAttrs_list PySem.F.slot_list_index PySem.F.type_list_index mt_index ho (pa_cons ha pa_nil h4) h1 h2 h3 h4 h5) fun σ H Q h => ?_
  obtain ⟨N, F, e, S, P⟩ := h
  refine bindL S P fun x F1 H1 e1 ra f1 S1 R1 P1 => ?_
  obtain ⟨F2, f2, S2, h2⟩ := RvOk.hold S1 R1
  have P2 := PostE.shift P1 f2
  cases d1 : S3.rd ra e1 with
  | none => rw [d1] at P2; exact P2.elim
  | some dx =>
    rw [d1] at P2
    have hx := h2.rd S2 d1
    cases dx <;> try exact P2.elim
    dsimp only at P2
    obtain ⟨a', xs, rfl, hA, rr⟩ := hx.lst S2.le
    refine ⟨.inl ⟨rfl, _, SqL.of hA⟩, ?_⟩
    refine bindL S2 P2 fun y F3 H3 e3 rb f3 T3 R3 P3 => ?_
    obtain ⟨F4, f4, S4, h4⟩ := RvOk.hold T3 R3
    have P4 := PostE.shift P3 f4
    have g2 := (h2.mono f3).mono f4
    cases d3 : S3.rd ra e3 with
    | none => rw [d3] at P4; exact P4.elim
    | some dx =>
      cases d4 : S3.rd rb e3 with
      | none => rw [d3, d4] at P4; exact P4.elim
      | some dy =>
        rw [d3, d4] at P4
        dsimp only at P4
        cases d5 : opIdxL dx dy with
        | none => rw [d5] at P4; exact P4.elim
        | some rr =>
          rw [d5] at P4
          exact s_idxL F4 H3 _ y dx dy rr Q S4.le (g2.rd S4 d3) (h4.rd S4 d4) d5 (op_end S4 P4)
/-! ### == and isinstance of such a tuple -/
def opNeK : D → D → Option RV
  | .kt ds, y => if (txtsOf ds).isSome && okD 6 y then some (.fz (.bl (!PyData.eqv (py 6 (.tup ds)) (py 6 y)))) else none
  | _, _ => none
def opIsTupK : D → Option RV
  | .kt _ => some (.fz (.bl true))
  | _ => none
theorem txtsOf_map : ∀ {ds : List D} {ws : List Str}, txtsOf ds = some ws → ds = ws.map D.str
  | [], _, h => by cases h; rfl
  | d :: ds, ws, h => by
    cases d <;> simp only [txtsOf] at h <;> try (cases h; done)
    rw [Option.map_eq_some_iff] at h
    obtain ⟨zs, h1, rfl⟩ := h
    rw [txtsOf_map h1]
    rfl
theorem dp_strs {K : PySem.W.Frag} {H : Hp} : ∀ ws : List Str, DpAll K H (ws.map V.str) (ws.map PyData.str)
  | [] => .nil
  | w :: ws => .cons (.str w) (dp_strs ws)
theorem py_strs (ws : List Str) : py 6 (.tup (ws.map D.str)) = .tuple (ws.map PyData.str) := by
  show PyData.tuple ((ws.map D.str).map (py 5)) = _
  rw [List.map_map]
  rfl
theorem shaped_strs (Z : Wd) {ws : List Str} (h : ws.all sOk = true) : SeqAt.shaped (.tuple (ws.map PyData.str)) = true := by
  rw [← py_strs]
  let F0 : Hp := fun a => if a = 0 then some (.tup (ws.map V.str)) else none
  refine shaped_py (Z := Z) (F := F0) (H := F0) (Same.refl _) (v := .ref 0) (by decide) ?_ (.inl (.tup (if_pos rfl) (rpA_ws h)))
  show (ws.map D.str).all (okD 5) = true
  rw [List.all_map, List.all_eq_true]
  exact fun _ _ => rfl
theorem s_neK {Z : Wd} : Sound2 Z (rNeD Z.K) opNeK := by
  intro F H x y dx dy rr Q l hx hy ho q
  cases dx <;> simp only [opNeK] at ho <;> try (cases ho; done)
  split at ho
  · rename_i hc
    rw [Bool.and_eq_true] at hc
    cases ho
    obtain ⟨ws, h1⟩ := Option.isSome_iff_exists.mp hc.1
    obtain ⟨a, xs, rfl, ha, ra⟩ := hx.kt
    obtain ⟨rfl, hok⟩ := txtsOf_rd ra h1
    have e := txtsOf_map h1
    subst e
    refine ⟨.tuple (ws.map PyData.str), _, .tup (SqT.same l ha) (dp_strs ws), dp_of rfl 6 l hc.2 hy, shaped_strs Z hok, shaped_py l (by decide) hc.2 hy, ?_⟩
    rw [← py_strs]
    exact fin_bl l q
  · cases ho
theorem s_isTupK {Z : Wd} (ht : PySem.W.kitOne Z.K (.type "tuple") (.type "tuple") = some true := by rfl) : Sound1 Z (fun x => rIsi Z.K [x, .ty "tuple"]) opIsTupK := by
  intro F H x dx rr Q l hx ho q
  cases dx <;> simp only [opIsTupK] at ho <;> try (cases ho; done)
  cases ho
  obtain ⟨a, xs, rfl, ha, ra⟩ := hx.kt
  refine ⟨_, _, .type "tuple", _, true, rfl, .ty "tuple", ?_, ht, fin_bl l q⟩
  rcases SqT.same l ha with (h | ⟨o, h⟩) | ⟨o, its, n, h, hc, _⟩
  · exact .base (.tup h)
  · exact .fTuple h
  · exact .kTuple h hc
theorem ev_cval {f : Str} {ws : List Str} {np : Pos} (T : ConC X.K X.mg n f ws) (hg : Gl X n := by rfl) (hdb : (n == ("__debug__" : Str)) = false := by decide)
    (hb : attributeBase (.Name n np) f X.env (eval (.Name n np) X.env) = eval (.Name n np) X.env := by rfl) :
    Ev ca W X (.Attribute (.Name n np) f pos) (eC (.kt (ws.map D.str))) := by
  obtain ⟨C, mc, p, o, its, m, h1, h2, h3, h4, h5, h6, h7, h8, h9⟩ := T.ex
  refine PE_imp (ClX.pe_cval (pe_glob hg h1 (v := .ref C) rfl hdb) hb) fun σ H Q h => ?_
  exact ⟨C, mc, .ref p, .ref p, rfl, h2, h3, const_rd (Z := zw ca X) (fun F => .kt (.inr ⟨o, its, m, h4, h5, h6, h7, h8⟩) (rpA_ws h9)) h⟩
/-! ### defs with *args alone -/
structure StarT (ca : Str → Option Addr) (P : Program) (w : World) (K : PySem.W.Frag) (mg : Str → Option Value) (base : Heap) (k : Nat) (n : Str) (phi : List D → RC) : Prop where
  ex : ∃ (f : Addr), FnR P w K mg base (L2.CX P w) (2 * k) f (fun vs H Q E => vs.length ≤ sizeLine ∧ ∀ p, H p = none → spOf ⟨P, w, K, ca⟩ [.v] phi [.ref p] (upd H p (.tup vs)) Q E) ∧ mg n = some (.ref f) ∧ PySem.W.keepIn K (.ref f) = true
theorem star_ok {P : Program} {w : World} {K : PySem.W.Frag} {mg : Str → Option Value} {base : Heap} {x qual pv : Str} {st : Stmt} {f : Addr} {fd : FuncData} {Nm : List Str} {T : Def} {phi : String → List D → RC} (Fn : L2.Fun K x qual st f fd) (S : FnScope Nm [pv] (defScope st)) (hms : T.ms = [.v]) (hn : Nm.length = T.n) (hm : T.ms.length ≤ T.n)
    (bd : ∀ rest : List Value, bindArgs fd ⟨rest, []⟩ = do let t ← newTuple rest; pure [(pv, t)])
    (body : ∀ (cdv : Value) (A : Around) (outer : List PySem.Env) (s : Shared) (H : Hp) (E : XK), Room k (A.deeper (PyProof.Rows.envOfC qual (defScope st) s.heap.objs.size f cdv)) →
      Takes (cxOf (L2.CX P w) P w K mg base Nm qual (defScope st) f cdv A outer s H E) (fun cls d _ H => E cls d H) →
      PassesOwn (model P w) (cxOf (L2.CX P w) P w K mg base Nm qual (defScope st) f cdv A outer s H E).A (cxOf (L2.CX P w) P w K mg base Nm qual (defScope st) f cdv A outer s H E).env (cxOf (L2.CX P w) P w K mg base Nm qual (defScope st) f cdv A outer s H E).xe →
      PySem.W.kdsCode K cdv = true → Bv ca (fun cls d _ H => E cls d H) (cxOf (L2.CX P w) P w K mg base Nm qual (defScope st) f cdv A outer s H E) (defBody st) (T.body phi)) :
    FnR P w K mg base (L2.CX P w) (k + 1) f (fun vs H Q E => vs.length ≤ sizeLine ∧ ∀ p, H p = none → spOf ⟨P, w, K, ca⟩ [.v] (T.run phi) [.ref p] (upd H p (.tup vs)) Q E) := by
  obtain ⟨oc, od, kV, doc, pm, an, cdv, ct, osl, rfl, lk, hcd⟩ := Fn.ex
  refine FnR.imp (StX.fn_star (ps := []) (sp := spOf ⟨P, w, K, ca⟩ T.ms (T.run phi)) lk hcd S StX.cxUp (fun us rest h => ?_) fun A outer s H vs Q E hr ⟨F, ds, l, a, ap, P⟩ => ?_) fun vs H Q E h => ⟨[], vs, rfl, rfl, h.1, by rw [hms]; exact h.2⟩
  · cases us with
    | cons _ _ => cases h
    | nil => exact bd rest
  · refine ⟨_, body cdv A outer s H E hr (takes_of rfl rfl rfl rfl) (passes_of rfl) (kdsCode_of hcd), ⟨F, H, mSet T.ms vs, mAt T.ms vs⟩, F, startE T.ms ds T.n, start_ok l a ap hn hm, ?_⟩
    unfold Def.run at P
    rw [if_pos a.lens.2] at P
    exact body_end a.lens.1 P
theorem StarT.zero {P : Program} {w : World} {K : PySem.W.Frag} {mg : Str → Option Value} {base : Heap} {n : Str} {f : Addr} {g : String} {tab : String → Option Def} (F : FnR P w K mg base (L2.CX P w) 0 f (fun vs H Q E => vs.length ≤ sizeLine ∧ ∀ p, H p = none → spOf ⟨P, w, K, ca⟩ [.v] (sem tab 0 g) [.ref p] (upd H p (.tup vs)) Q E)) (hf : mg n = some (.ref f)) (hk : PySem.W.keepIn K (.ref f) = true) : StarT ca P w K mg base 0 n (sem tab 0 g) :=
  ⟨f, F, hf, hk⟩
theorem starR0 {P : Program} {w : World} {K : PySem.W.Frag} {mg : Str → Option Value} {base : Heap} {f : Addr} {g : String} {tab : String → Option Def} : FnR P w K mg base (L2.CX P w) 0 f (fun vs H Q E => vs.length ≤ sizeLine ∧ ∀ p, H p = none → spOf ⟨P, w, K, ca⟩ [.v] (sem tab 0 g) [.ref p] (upd H p (.tup vs)) Q E) := by
  intro A outer s H us vs Q E hr he hv h
  obtain ⟨_, _, _, _, _, z⟩ := h.2 _ (he.hok.fresh (Nat.le_refl _))
  exact z.elim
theorem StarT.succ {P : Program} {w : World} {K : PySem.W.Frag} {mg : Str → Option Value} {base : Heap} {n : Str} {f : Addr} {k : Nat} {g : String} {T : Def} {tab : String → Option Def} (h : FnR P w K mg base (L2.CX P w) (2 * (k + 1)) f (fun vs H Q E => vs.length ≤ sizeLine ∧ ∀ p, H p = none → spOf ⟨P, w, K, ca⟩ [.v] (T.run (sem tab k)) [.ref p] (upd H p (.tup vs)) Q E)) (hf : mg n = some (.ref f)) (hk : PySem.W.keepIn K (.ref f) = true)
    (ht : tab g = some T) : StarT ca P w K mg base (k + 1) n (sem tab (k + 1) g) := by
  refine ⟨f, ?_, hf, hk⟩
  have e : sem tab (k + 1) g = T.run (sem tab k) := by funext ds; simp only [sem, ht]
  rw [e]
  exact h
theorem ev_star (G : StarT ca X.prog X.w X.K X.mg X.base k n phi) (hr : Room (2 * k + 1) X.A) (ha : Av ca W X (a :: es) ga) (hg : Gl X n := by rfl) (hdb : (n == ("__debug__" : Str)) = false := by decide)
    (he : starEach (a :: es) X.env = (false, eval a X.env) :: starEach es X.env := by rfl) (hpl : (backTo pos (starEach es X.env)).any (·.1) = false := by rfl) : Ev ca W X (.Call (.Name n p) (a :: es) [] pos) (eOp1 (opStar phi) (eDisp mkTup ga)) := by
  obtain ⟨f, F, hm, hk⟩ := G.ex
  refine ⟨fun pins s σ H Q I h => ?_⟩
  refine wpAny_Call_Name_kw (ld_glob I hg hm ?_ hdb)
  refine PySem.W.callWith_K (h₀ := X.base) I.ok.mod.kin hk (thn (ha.run pos pins s σ H _ I (star_rd h)) fun us s1 hh => ?_) he hpl
  obtain ⟨vs, H1, I1, r1, q1⟩ := hh
  refine ⟨I1.kIn, ?_⟩
  exact wpAny_call (run_fnR F (hr.mono (Nat.le_succ _)) (fun pins σ H s e s' I h => by obtain ⟨_, _, _, _, _, _, _, _, _, _, _, _, z⟩ := h; exact z.elim) I1 r1 q1)
theorem ev_star0 (G : StarT ca X.prog X.w X.K X.mg X.base k n phi) (hr : Room (2 * k + 1) X.A) (hg : Gl X n := by rfl) (hdb : (n == ("__debug__" : Str)) = false := by decide) : Ev ca W X (.Call (.Name n p) [] [] pos) (eOp1 (opStar phi) (eDisp mkTup aNil)) := by
  obtain ⟨f, F, hm, hk⟩ := G.ex
  refine ⟨fun pins s σ H Q I h => ?_⟩
  refine wpAny_Call_Name_kw (ld_glob I hg hm ?_ hdb)
  refine PySem.W.callWith_K0 I.kIn hk ?_
  exact wpAny_call (run_fnR (us := []) (vs := []) F (hr.mono (Nat.le_succ _)) (fun pins σ H s e s' I h => by obtain ⟨_, _, _, _, _, _, _, _, _, _, _, _, z⟩ := h; exact z.elim) I .nil (tAv_nil (star_rd h)))
/-! ### an own operator that keeps both sides -/
structure CmpVT (ca : Str → Option Addr) (P : Program) (w : World) (K : PySem.W.Frag) (mg : Str → Option Value) (base : Heap) (k : Nat) (c d : Str) (phi : List D → RC) : Prop where
  ex : ∃ (C f : Addr) (fd : FuncData) (ps : List Str), ca c = some C ∧ PySem.W.selfFirst K C = true ∧ PySem.W.findIn K (.ref C) d = some (some (.ref f)) ∧ PySem.W.isFn K (.ref f) = true ∧ FnOk P w K mg base (L2.CX P w) (2 * k) f fd ps (spOf ⟨P, w, K, ca⟩ [.v, .v] phi) ∧ Binds K fd ps []
theorem ev_binV {op : Operator} (T : CmpVT ca X.prog X.w X.K X.mg X.base k c (PySem.dunder op.info.2) phi) (hr : Room (2 * k + 1) X.A) (tk : Takes X W) (ha : Ev ca W X a fa) (hb : Ev ca W X b fb) : Ev ca W X (.BinOp a op b pos) (eOwnV c phi fa fb) := by
  obtain ⟨C, f, fd, ps, hC, hc, hs, hf, F, hbn⟩ := T.ex
  exact PE_imp (pe_binI hc hs hf F hbn (hr.mono (Nat.le_succ _)) (fun σ => passAt tk σ) ha hb) fun _ _ _ => ownV_rd (Z := zw ca X) hC
end
end S3

/-! P1: reckoning with the terms: what simp may unfold; loops by an invariant. -/
namespace S3
open PySem
section
variable {e e' : Env} {f g h : EV} {s t : SV} {c d : TV}
@[simp] theorem slot0 (s : Sl) (e : Env) : slot (s :: e) 0 = s := rfl
@[simp] theorem slotS (s : Sl) (e : Env) (i : Nat) : slot (s :: e) (i + 1) = slot e i := rfl
theorem slotG (e : Env) (i : Nat) : slot e i = (e[i]?).getD .no := by unfold slot; rw [List.getD_eq_getElem?_getD]
@[simp] theorem eC_e (x : D) : eC x e = .ok (.fz x) e := rfl
@[simp] theorem eSlot_e (i : Nat) : eSlot i e = match slot e i with | .no => .no | .fz d => .ok (.fz d) e | _ => .ok (.at i) e := rfl
@[simp] theorem eBind_e {k : RV → EV} : eBind f k e = match f e with | .ok r e1 => k r e1 | .ex x e1 => .ex x e1 | .no => .no := rfl
@[simp] theorem eOp1_e (op : D → Option RV) : eOp1 op f e = match f e with | .ok r e1 => (match rd r e1 with | some x => ofOp (op x) e1 | none => .no) | .ex x e1 => .ex x e1 | .no => .no := rfl
@[simp] theorem eOp2_e (op : D → D → Option RV) : eOp2 op f g e = match f e with | .ok r e1 => (match g e1 with | .ok q e2 => (match rd r e2, rd q e2 with | some x, some y => ofOp (op x y) e2 | _, _ => .no) | .ex x e1 => .ex x e1 | .no => .no) | .ex x e1 => .ex x e1 | .no => .no := rfl
@[simp] theorem eOp3_e (op : D → D → D → Option RV) : eOp3 op f g h e = match f e with | .ok r e1 => (match g e1 with | .ok q e2 => (match h e2 with | .ok p e3 => (match rd r e3, rd q e3, rd p e3 with | some x, some y, some z => ofOp (op x y z) e3 | _, _, _ => .no) | .ex x e1 => .ex x e1 | .no => .no) | .ex x e1 => .ex x e1 | .no => .no) | .ex x e1 => .ex x e1 | .no => .no := rfl
@[simp] theorem ofOp_s (r : RV) : ofOp (some r) e = .ok r e := rfl
@[simp] theorem ofOp_n : ofOp none e = .no := rfl
@[simp] theorem rd_fz (d : D) : rd (.fz d) e = some d := rfl
@[simp] theorem rd_nw (d : D) : rd (.nw d) e = some d := rfl
@[simp] theorem rd_at (i : Nat) : rd (.at i) e = (slot e i).val := rfl
@[simp] theorem val_fz (d : D) : (Sl.fz d).val = some d := rfl
@[simp] theorem val_ow (d : D) : (Sl.ow d).val = some d := rfl
@[simp] theorem val_bo (d : D) : (Sl.bo d).val = some d := rfl
@[simp] theorem val_mu (d : D) : (Sl.mu d).val = some d := rfl
@[simp] theorem val_no : (Sl.no).val = none := rfl
@[simp] theorem stl_fz (d : D) : stl (.fz d) e = some (d, e) := rfl
@[simp] theorem stl_nw (d : D) : stl (.nw d) e = some (d, e) := rfl
@[simp] theorem stl_at (i : Nat) : stl (.at i) e = match slot e i with | .fz d => some (d, e) | .ow d => some (d, e.set i (.fz d)) | _ => none := rfl
@[simp] theorem eI_e : eI f e = match f e with | .ok r e1 => (match r with | .fz (.int i) => .ok (.fz (.int i)) e1 | _ => .no) | .ex x e1 => .ex x e1 | .no => .no := rfl
@[simp] theorem aNil_e : aNil e = .ok [] e := rfl
@[simp] theorem aCons_e (a : AV) : aCons f a e = match f e with | .ok r e1 => (match a e1 with | .ok rs e2 => .ok (r :: rs) e2 | .ex x e2 => .ex x e2 | .no => .no) | .ex x e1 => .ex x e1 | .no => .no := rfl
@[simp] theorem aKeep_e (a : AV) : aKeep f a e = match f e with | .ok r e1 => (match stl r e1 with | some (d, e1') => (match a e1' with | .ok rs e2 => .ok (.fz d :: rs) e2 | .ex x e2 => .ex x e2 | .no => .no) | none => .no) | .ex x e1 => .ex x e1 | .no => .no := rfl
@[simp] theorem fzs_nil : fzs [] = some [] := rfl
@[simp] theorem fzs_cons (d : D) (r : List RV) : fzs (.fz d :: r) = (fzs r).map (d :: ·) := rfl
@[simp] theorem eDisp_e (mk : List D → RV) (a : AV) : eDisp mk a e = match a e with | .ok rs e1 => (match fzs rs with | some ds => if ds.length ≤ 16777216 then .ok (mk ds) e1 else .no | none => .no) | .ex x e1 => .ex x e1 | .no => .no := rfl
@[simp] theorem argD_nil : argD [] [] e = some [] := rfl
@[simp] theorem argD_v (ms : List Md) (d : D) (rs : List RV) : argD (.v :: ms) (.fz d :: rs) e = (argD ms rs e).map (d :: ·) := rfl
@[simp] theorem argD_r (ms : List Md) (r : RV) (rs : List RV) : argD (.r :: ms) (r :: rs) e = (match rd r e with | some d => (argD ms rs e).map (d :: ·) | none => none) := rfl
@[simp] theorem argD_m (ms : List Md) (i : Nat) (rs : List RV) : argD (.m :: ms) (.at i :: rs) e = (match slot e i with | .ow d => (argD ms rs e).map (d :: ·) | .mu d => (argD ms rs e).map (d :: ·) | _ => none) := rfl
@[simp] theorem mutIx_nil (rs : List RV) : mutIx [] rs = [] := by cases rs <;> rfl
@[simp] theorem mutIx_v (ms : List Md) (r : RV) (rs : List RV) : mutIx (.v :: ms) (r :: rs) = mutIx ms rs := by cases r <;> rfl
@[simp] theorem mutIx_r (ms : List Md) (r : RV) (rs : List RV) : mutIx (.r :: ms) (r :: rs) = mutIx ms rs := by cases r <;> rfl
@[simp] theorem mutIx_m (ms : List Md) (i : Nat) (rs : List RV) : mutIx (.m :: ms) (.at i :: rs) = i :: mutIx ms rs := rfl
@[simp] theorem atIx_nil : atIx [] = [] := rfl
@[simp] theorem atIx_at (i : Nat) (rs : List RV) : atIx (.at i :: rs) = i :: atIx rs := rfl
@[simp] theorem atIx_fz (d : D) (rs : List RV) : atIx (.fz d :: rs) = atIx rs := rfl
@[simp] theorem atIx_nw (d : D) (rs : List RV) : atIx (.nw d :: rs) = atIx rs := rfl
@[simp] theorem apart_e (ms : List Md) (rs : List RV) : apart ms rs = (mutIx ms rs).all fun i => (atIx rs).count i == 1 := rfl
@[simp] theorem wback_nil : wback [] [] e = some e := rfl
@[simp] theorem wback_cons (i : Nat) (is : List Nat) (d : D) (ds : List D) : wback (i :: is) (d :: ds) e = (match slot e i with | .ow _ => wback is ds (e.set i (.ow d)) | .mu _ => wback is ds (e.set i (.mu d)) | _ => none) := rfl
@[simp] theorem rv_t (d : D) : rv true d = .nw d := rfl
@[simp] theorem rv_f (d : D) : rv false d = .fz d := rfl
@[simp] theorem eCall_e (phi : List D → RC) (ms : List Md) (a : AV) : eCall phi ms a e = match a e with
  | .ok rs e1 => (match argD ms rs e1 with
    | some ds => if apart ms rs then (match phi ds with
        | .ok n d outs => (match wback (mutIx ms rs) outs e1 with | some e2 => .ok (rv n d) e2 | none => .no)
        | .ex x outs => (match wback (mutIx ms rs) outs e1 with | some e2 => .ex x e2 | none => .no)
        | .no => .no) else .no
    | none => .no)
  | .ex x e1 => .ex x e1
  | .no => .no := rfl
@[simp] theorem mine_ow (k : D → Bool) (d : D) : mine k (.ow d) = k d := rfl
@[simp] theorem mine_mu (k : D → Bool) (d : D) : mine k (.mu d) = k d := rfl
@[simp] theorem reown_mu (a b : D) : reown (.mu a) b = .mu b := rfl
@[simp] theorem reown_ow (a b : D) : reown (.ow a) b = .ow b := rfl
@[simp] theorem isLst_l (xs : List D) : isLst (.lst xs) = true := rfl
@[simp] theorem eMut_e (i : Nat) (k : D → Bool) (op : D → List D → Option (D × RV)) (a : AV) : eMut i k op a e = if mine k (slot e i) then (match a e with
  | .ok rs e1 => (match fzs rs with
    | some ds => if mine k (slot e1 i) then (match (slot e1 i).val with
      | some d => (match op d ds with | some (d', r) => .ok r (e1.set i (reown (slot e1 i) d')) | none => .no)
      | none => .no) else .no
    | none => .no)
  | .ex x e1 => .ex x e1
  | .no => .no) else .no := rfl
@[simp] theorem tVal_e : tVal f e = match f e with | .ok r e1 => (match rd r e1 with | some d => (match asBool d with | some b => .ok b e1 | none => .no) | none => .no) | .ex x e1 => .ex x e1 | .no => .no := rfl
@[simp] theorem tTru_e : tTru f e = match f e with | .ok r e1 => (match rd r e1 with | some d => (match truth d with | some b => .ok b e1 | none => .no) | none => .no) | .ex x e1 => .ex x e1 | .no => .no := rfl
@[simp] theorem asBool_b (b : Bool) : asBool (.bl b) = some b := rfl
@[simp] theorem truth_b (b : Bool) : truth (.bl b) = some b := rfl
@[simp] theorem truth_non : truth .non = some false := rfl
@[simp] theorem truth_int (i : Int) : truth (.int i) = some (i != 0) := rfl
@[simp] theorem truth_str (x : Str) : truth (.str x) = some (x.length != 0) := rfl
@[simp] theorem truth_lst (xs : List D) : truth (.lst xs) = some (!xs.isEmpty) := rfl
@[simp] theorem truth_tup (xs : List D) : truth (.tup xs) = some (!xs.isEmpty) := rfl
@[simp] theorem tAndS_e : tAndS c d e = match c e with | .ok true e1 => d e1 | r => r := rfl
@[simp] theorem tOrS_e : tOrS c d e = match c e with | .ok false e1 => d e1 | r => r := rfl
@[simp] theorem tNotS_e : tNotS c e = match c e with | .ok b e1 => .ok (!b) e1 | r => r := rfl
@[simp] theorem eIf_e : eIf c f g e = match c e with | .ok true e1 => f e1 | .ok false e1 => g e1 | .ex x e1 => .ex x e1 | .no => .no := rfl
@[simp] theorem eAnd_e : eAnd f g e = match f e with | .ok r e1 => (match rd r e1 with | some d => (match truth d with | some true => g e1 | some false => .ok r e1 | none => .no) | none => .no) | .ex x e1 => .ex x e1 | .no => .no := rfl
@[simp] theorem eOr_e : eOr f g e = match f e with | .ok r e1 => (match rd r e1 with | some d => (match truth d with | some true => .ok r e1 | some false => g e1 | none => .no) | none => .no) | .ex x e1 => .ex x e1 | .no => .no := rfl
@[simp] theorem eNot_e : eNot f e = eOp1 (fun d => (truth d).map fun b => .fz (.bl (!b))) f e := rfl
@[simp] theorem eChain_e (o o' : D → D → Option RV) : eChain o o' f g h e = match f e with
  | .ok r e1 => (match g e1 with
    | .ok q e2 => (match rd r e2, rd q e2 with
      | some x, some y => (match o x y with
        | some (.fz (.bl true)) => (match h e2 with
          | .ok p e3 => (match rd q e3, rd p e3 with | some y, some z => ofOp (o' y z) e3 | _, _ => .no)
          | .ex x e1 => .ex x e1
          | .no => .no)
        | some (.fz (.bl false)) => .ok (.fz (.bl false)) e2
        | _ => .no)
      | _, _ => .no)
    | .ex x e1 => .ex x e1
    | .no => .no)
  | .ex x e1 => .ex x e1
  | .no => .no := rfl
@[simp] theorem sSeq_e : sSeq s t e = match s e with | .nx e1 => t e1 | r => r := rfl
@[simp] theorem sNx_e : sNx e = .nx e := rfl
@[simp] theorem sBk_e : sBk e = .bk e := rfl
@[simp] theorem sCt_e : sCt e = .ct e := rfl
@[simp] theorem sRetN_e : sRetN e = .rt (.fz .non) e := rfl
@[simp] theorem sExpr_e : sExpr f e = match f e with | .ok r e1 => .nx e1 | .ex x e1 => .ex x e1 | .no => .no := rfl
@[simp] theorem sRet_e : sRet f e = match f e with | .ok r e1 => ret r e1 | .ex x e1 => .ex x e1 | .no => .no := rfl
@[simp] theorem ret_fz (d : D) : ret (.fz d) e = .rt (.fz d) e := rfl
@[simp] theorem ret_nw (d : D) : ret (.nw d) e = .rt (.nw d) e := rfl
@[simp] theorem ret_at (i : Nat) : ret (.at i) e = match slot e i with | .fz d => .rt (.fz d) e | .ow d => .rt (.nw d) (e.set i .no) | _ => .no := rfl
@[simp] theorem sIf_e : sIf c s t e = match c e with | .ok true e1 => s e1 | .ok false e1 => t e1 | .ex x e1 => .ex x e1 | .no => .no := rfl
@[simp] theorem sSet_e (i : Nat) : sSet i f e = match f e with | .ok r e1 => (match setS i r e1 with | some e2 => .nx e2 | none => .no) | .ex x e1 => .ex x e1 | .no => .no := rfl
@[simp] theorem setS_fz (i : Nat) (d : D) : setS i (.fz d) e = some (e.set i (.fz d)) := rfl
@[simp] theorem setS_nw (i : Nat) (d : D) : setS i (.nw d) e = some (e.set i (.ow d)) := rfl
@[simp] theorem setS_at (i j : Nat) : setS i (.at j) e = (stl (.at j) e).map fun p => p.2.set i (.fz p.1) := rfl
@[simp] theorem sUnp_e (is : List Nat) : sUnp is f e = match f e with | .ok r e1 => (match stl r e1 with | some (.tup ds, e1) => (match setAll is ds e1 with | some e2 => .nx e2 | none => .no) | _ => .no) | .ex x e1 => .ex x e1 | .no => .no := rfl
@[simp] theorem setAll_nil : setAll [] [] e = some e := rfl
@[simp] theorem setAll_cons (i : Nat) (is : List Nat) (d : D) (ds : List D) : setAll (i :: is) (d :: ds) e = setAll is ds (e.set i (.fz d)) := rfl
@[simp] theorem tgt_one (i : Nat) (d : D) : tgt (.one i) d e = some (e.set i (.fz d)) := rfl
@[simp] theorem tgt_tup (is : List Nat) (ds : List D) : tgt (.tup is) (.tup ds) e = setAll is ds e := rfl
@[simp] theorem wipeE_nil : wipeE e [] = e := rfl
@[simp] theorem wipeE_cons (i : Nat) (is : List Nat) : wipeE e (i :: is) = (wipeE e is).set i .no := rfl
@[simp] theorem lock_nil : lock [] = [] := rfl
@[simp] theorem lock_cons (s : Sl) : lock (s :: e) = s.lock :: lock e := rfl
@[simp] theorem lock_fz (d : D) : (Sl.fz d).lock = .fz d := rfl
@[simp] theorem lock_ow (d : D) : (Sl.ow d).lock = .bo d := rfl
@[simp] theorem lock_mu (d : D) : (Sl.mu d).lock = .bo d := rfl
@[simp] theorem lock_bo (d : D) : (Sl.bo d).lock = .bo d := rfl
@[simp] theorem lock_no : (Sl.no).lock = .no := rfl
@[simp] theorem tYesS_e : tYesS e = .ok true e := rfl
@[simp] theorem wAny_e : wAny f e = match f e with | .ok r e1 => (match walk r e1 with | some (d, e1) => (match items d with | some xs => .ok xs e1 | none => .no) | none => .no) | .ex x e1 => .ex x e1 | .no => .no := rfl
@[simp] theorem walk_fz (d : D) : walk (.fz d) e = some (d, e) := rfl
@[simp] theorem walk_nw (d : D) : walk (.nw d) e = some (d, e) := rfl
@[simp] theorem walk_at (i : Nat) : walk (.at i) e = match slot e i with | .fz d => some (d, e) | .ow d => some (d, e.set i (.fz d)) | .bo d => some (d, e) | _ => none := rfl
@[simp] theorem items_l (xs : List D) : items (.lst xs) = some xs := rfl
@[simp] theorem items_t (xs : List D) : items (.tup xs) = some xs := rfl
@[simp] theorem items_s (xs : List D) : items (.scr xs) = some xs := rfl
@[simp] theorem items_str (x : Str) : items (.str x) = some (x.cps.toList.map fun c => .str ⟨#[c]⟩) := rfl
@[simp] theorem wR1_e : wR1 g e = match g e with | .ok r e1 => (match r with | .fz (.int y) => if -(2 ^ 62) ≤ y ∧ y < 2 ^ 62 then .ok (rng 0 y) e1 else .no | _ => .no) | .ex x e1 => .ex x e1 | .no => .no := by
  unfold wR1 wE eI eBind
  cases g e with
  | ok r e1 => cases r with
    | fz d => cases d <;> rfl
    | _ => rfl
  | _ => rfl
@[simp] theorem wR2_e : wR2 f g e = match f e with
  | .ok r e1 => (match r with
    | .fz (.int x) => (match g e1 with
      | .ok r e2 => (match r with
        | .fz (.int y) => if -(2 ^ 62) ≤ x ∧ x < 2 ^ 62 ∧ -(2 ^ 62) ≤ y ∧ y < 2 ^ 62 then .ok (rng x y) e2 else .no
        | _ => .no)
      | .ex x e1 => .ex x e1
      | .no => .no)
    | _ => .no)
  | .ex x e1 => .ex x e1
  | .no => .no := by
  unfold wR2 wE eI eBind
  cases f e with
  | ok r e1 => cases r with
    | fz d =>
      cases d with
      | int x =>
        dsimp only
        cases g e1 with
        | ok r e1 => cases r with
          | fz d => cases d <;> rfl
          | _ => rfl
        | _ => rfl
      | _ => rfl
    | _ => rfl
  | _ => rfl
theorem sFor_e {tmp : List Nat} {tg : Tg} {w : WV} {b : SV} : sFor tmp tg w b e = match w e with | .ok xs e1 => forL tmp tg b xs e1 | .ex x e1 => .ex x e1 | .no => .no := rfl
@[simp] theorem finish_nx (ms : List Md) : finish ms (.nx e) = match outsE ms e with | some o => .ok false .non o | none => .no := rfl
@[simp] theorem finish_fz (ms : List Md) (d : D) : finish ms (.rt (.fz d) e) = match outsE ms e with | some o => .ok false d o | none => .no := rfl
@[simp] theorem finish_nw (ms : List Md) (d : D) : finish ms (.rt (.nw d) e) = match outsE ms e with | some o => .ok true d o | none => .no := rfl
@[simp] theorem finish_ex (ms : List Md) (x : Exn) : finish ms (.ex x e) = match outsE ms e with | some o => .ex x o | none => .no := rfl
@[simp] theorem outsE_nil : outsE [] e = some [] := by cases e <;> rfl
@[simp] theorem outsE_v (ms : List Md) (s : Sl) : outsE (.v :: ms) (s :: e) = outsE ms e := by cases s <;> rfl
@[simp] theorem outsE_r (ms : List Md) (s : Sl) : outsE (.r :: ms) (s :: e) = outsE ms e := by cases s <;> rfl
@[simp] theorem outsE_m (ms : List Md) (d : D) : outsE (.m :: ms) (.mu d :: e) = (outsE ms e).map (d :: ·) := rfl
end
/-! operators at their kinds -/
@[simp] theorem opAdd_i (i j : Int) : opAdd (.int i) (.int j) = some (.fz (.int (i + j))) := rfl
@[simp] theorem opSub_i (i j : Int) : opSub (.int i) (.int j) = some (.fz (.int (i - j))) := rfl
@[simp] theorem opAdd_s (x y : Str) : opAdd (.str x) (.str y) = if x.length + y.length ≤ BIG then some (.fz (.str (x ++ y))) else none := rfl
@[simp] theorem opAdd_l (x y : List D) : opAdd (.lst x) (.lst y) = if x.length + y.length ≤ BIG then some (.nw (.lst (x ++ y))) else none := rfl
@[simp] theorem opMul_i (i j : Int) : opMul (.int i) (.int j) = if (-(2 ^ 64) < i ∧ i < 2 ^ 64) ∨ (-(2 ^ 64) < j ∧ j < 2 ^ 64) then some (.fz (.int (i * j))) else none := rfl
@[simp] theorem opMod_i (i j : Int) : opMod (.int i) (.int j) = if 0 < j then some (.fz (.int (i % j))) else none := rfl
@[simp] theorem opDiv_i (i j : Int) : opDiv (.int i) (.int j) = if 0 < j ∧ j < 1073741824 then some (.fz (.int (i / j))) else none := rfl
@[simp] theorem opLt_i (i j : Int) : opLt (.int i) (.int j) = some (.fz (.bl (decide (i < j)))) := rfl
@[simp] theorem opLe_i (i j : Int) : opLe (.int i) (.int j) = some (.fz (.bl (decide (i ≤ j)))) := rfl
@[simp] theorem opGt_i (i j : Int) : opGt (.int i) (.int j) = some (.fz (.bl (decide (j < i)))) := rfl
@[simp] theorem opGe_i (i j : Int) : opGe (.int i) (.int j) = some (.fz (.bl (decide (j ≤ i)))) := rfl
@[simp] theorem opInt_i (i : Int) : opInt (.int i) = some (.fz (.int i)) := rfl
@[simp] theorem opAbs_i (i : Int) : opAbs (.int i) = some (.fz (.int (if i < 0 then -i else i))) := rfl
@[simp] theorem opLen_s (x : Str) : opLen (.str x) = some (.fz (.int x.length)) := rfl
@[simp] theorem opLen_l (x : List D) : opLen (.lst x) = some (.fz (.int x.length)) := rfl
@[simp] theorem opLen_t (x : List D) : opLen (.tup x) = some (.fz (.int x.length)) := rfl
@[simp] theorem opIx_l (xs : List D) (i : Int) : opIx (.lst xs) (.int i) = (L2.atI xs i).map .fz := rfl
@[simp] theorem opIx_t (xs : List D) (i : Int) : opIx (.tup xs) (.int i) = (L2.atI xs i).map .fz := rfl
@[simp] theorem opIx_s (z : Str) (i : Int) : opIx (.str z) (.int i) = (L2.atI z.cps.toList i).map fun c => .fz (.str ⟨#[c]⟩) := rfl
@[simp] theorem mApp_l (xs : List D) (y : D) : mAppend (.lst xs) [y] = if xs.length < BIG then some (.lst (xs ++ [y]), .fz .non) else none := rfl
@[simp] theorem mkLst_e (xs : List D) : mkLst xs = .nw (.lst xs) := rfl
@[simp] theorem mkTup_e (xs : List D) : mkTup xs = .fz (.tup xs) := rfl
@[simp] theorem bRV_s (b : Bool) : bRV (some b) = some (.fz (.bl b)) := rfl
@[simp] theorem bRV_n : bRV none = none := rfl
theorem py_ii (i j : Int) : PyData.eqv (.int i) (.int j) = decide (i = j) := by
  by_cases h : i = j
  · subst h; simp [PyData.eqv]
  · simp [PyData.eqv, h]
theorem dEq_ii (i j : Int) : dEq (.int i) (.int j) = some (decide (i = j)) := by
  show some (PyData.eqv (.int i) (.int j)) = _
  rw [py_ii]
theorem opEq_i (i j : Int) : opEq (.int i) (.int j) = some (.fz (.bl (decide (i = j)))) := by unfold opEq; rw [dEq_ii]; rfl
theorem opNe_i (i j : Int) : opNe (.int i) (.int j) = some (.fz (.bl (!decide (i = j)))) := by unfold opNe; rw [dEq_ii]; rfl
theorem atI_nat {α : Type} {xs : List α} {i : Int} {x : α} (h0 : 0 ≤ i) (h : xs[i.toNat]? = some x) : L2.atI xs i = some x := by
  have hl := (List.getElem?_eq_some_iff.mp h).1
  unfold L2.atI L2.ixN
  rw [if_pos h0, if_pos (by omega)]
  exact h
theorem atI_lt {α : Type} {xs : List α} {i : Int} (h0 : 0 ≤ i) (h : i < xs.length) : ∃ x, xs[i.toNat]? = some x ∧ L2.atI xs i = some x := by
  have hl : i.toNat < xs.length := by omega
  exact ⟨_, List.getElem?_eq_getElem hl, atI_nat h0 (List.getElem?_eq_getElem hl)⟩

/-! ### loops -/
/-- a turn's end, then: J if the loop goes on, R of the loop's end otherwise -/
def turnP (tmp : List Nat) (J : Env → Prop) (R : RS → Prop) : RS → Prop
  | .nx e => J (wipeE e tmp)
  | .ct e => J (wipeE e tmp)
  | .bk e => R (.nx (wipeE e tmp))
  | .rt r e => R (.rt r e)
  | .ex x e => R (.ex x e)
  | .no => R .no
@[simp] theorem turnP_nx (tmp J R e) : turnP tmp J R (.nx e) = J (wipeE e tmp) := rfl
@[simp] theorem turnP_ct (tmp J R e) : turnP tmp J R (.ct e) = J (wipeE e tmp) := rfl
@[simp] theorem turnP_bk (tmp J R e) : turnP tmp J R (.bk e) = R (.nx (wipeE e tmp)) := rfl
@[simp] theorem turnP_rt (tmp J R e r) : turnP tmp J R (.rt r e) = R (.rt r e) := rfl
@[simp] theorem turnP_ex (tmp J R e r) : turnP tmp J R (.ex r e) = R (.ex r e) := rfl
theorem forL_inv {tmp : List Nat} {t : Tg} {b : SV} {ds : List D} {R : RS → Prop} (I : Nat → Env → Prop) {e : Env} (h0 : I 0 e)
    (hs : ∀ i d e, ds[i]? = some d → I i e → ∃ e1, tgt t d e = some e1 ∧ turnP tmp (I (i + 1)) R (b e1)) (he : ∀ e, I ds.length e → R (.nx e)) : R (forL tmp t b ds e) := by
  induction ds generalizing I e with
  | nil => exact he e h0
  | cons d ds ih =>
    obtain ⟨e1, h1, h2⟩ := hs 0 d e rfl h0
    unfold forL
    rw [h1]
    dsimp only
    have next : ∀ e2, I 1 e2 → R (forL tmp t b ds e2) := fun e2 h => ih (fun i => I (i + 1)) h (fun i d e hd hi => hs (i + 1) d e (by simpa using hd) hi) (fun e h => he e (by simpa using h))
    cases q : b e1 with
    | nx e2 => rw [q] at h2; exact next _ h2
    | ct e2 => rw [q] at h2; exact next _ h2
    | bk e2 => rw [q] at h2; exact h2
    | rt r e2 => rw [q] at h2; exact h2
    | ex x e2 => rw [q] at h2; exact h2
    | no => rw [q] at h2; exact h2
/-- a loop, then the rest; R: the end of the loop leads to Q -/
theorem seq_for {tmp : List Nat} {t : Tg} {w : WV} {b : SV} {g : SV} {e e0 : Env} {ds : List D} {Q : RS → Prop} (hw : w e = .ok ds e0) (I : Nat → Env → Prop) (h0 : I 0 e0)
    (hs : ∀ R : RS → Prop, (∀ r e, Q (.rt r e) → R (.rt r e)) → (∀ e, Q (g e) → R (.nx e)) → (∀ x e, Q (.ex x e) → R (.ex x e)) → ∀ i d e, ds[i]? = some d → I i e → ∃ e1, tgt t d e = some e1 ∧ turnP tmp (I (i + 1)) R (b e1))
    (he : ∀ e, I ds.length e → Q (g e)) : Q (sSeq (sFor tmp t w b) g e) := by
  rw [sSeq_e, sFor_e, hw]
  exact forL_inv (R := fun r => Q (match r with | .nx e1 => g e1 | r => r)) I h0 (hs _ (fun _ _ h => h) (fun _ h => h) (fun _ _ h => h)) he
theorem sole_for {tmp : List Nat} {t : Tg} {w : WV} {b : SV} {e e0 : Env} {ds : List D} {Q : RS → Prop} (hw : w e = .ok ds e0) (I : Nat → Env → Prop) (h0 : I 0 e0)
    (hs : ∀ i d e, ds[i]? = some d → I i e → ∃ e1, tgt t d e = some e1 ∧ turnP tmp (I (i + 1)) Q (b e1)) (he : ∀ e, I ds.length e → Q (.nx e)) : Q (sFor tmp t w b e) := by
  rw [sFor_e, hw]
  exact forL_inv I h0 hs he
/-- while: by a measure -/
theorem whL_inv {tmp : List Nat} {c : TV} {b : SV} {R : RS → Prop} (I : Nat → Env → Prop) {n m : Nat} {e : Env} (hm : m < n) (h0 : I m e)
    (hs : ∀ m e, I m e → (∃ e1, c e = .ok false e1 ∧ R (.nx e1)) ∨ (∃ e1, c e = .ok true e1 ∧ turnP tmp (fun e => ∃ m', m' < m ∧ I m' e) R (b e1))) : R (whL tmp c b n e) := by
  induction n generalizing m e with
  | zero => omega
  | succ n ih =>
    unfold whL
    rcases hs m e h0 with ⟨e1, h1, h2⟩ | ⟨e1, h1, h2⟩
    · rw [h1]; exact h2
    · rw [h1]
      dsimp only
      have next : ∀ e2, (∃ m', m' < m ∧ I m' e2) → R (whL tmp c b n e2) := fun e2 ⟨m', l, h⟩ => ih (by omega) h
      cases q : b e1 with
      | nx e2 => rw [q] at h2; exact next _ h2
      | ct e2 => rw [q] at h2; exact next _ h2
      | bk e2 => rw [q] at h2; exact h2
      | rt r e2 => rw [q] at h2; exact h2
      | ex x e2 => rw [q] at h2; exact h2
      | no => rw [q] at h2; exact h2
theorem seq_while {tmp : List Nat} {c : TV} {b : SV} {g : SV} {n m : Nat} {e : Env} {Q : RS → Prop} (I : Nat → Env → Prop) (hm : m < n) (h0 : I m e)
    (hs : ∀ R : RS → Prop, (∀ r e, Q (.rt r e) → R (.rt r e)) → (∀ e, Q (g e) → R (.nx e)) → (∀ x e, Q (.ex x e) → R (.ex x e)) → ∀ m e, I m e → (∃ e1, c e = .ok false e1 ∧ Q (g e1)) ∨ (∃ e1, c e = .ok true e1 ∧ turnP tmp (fun e => ∃ m', m' < m ∧ I m' e) R (b e1))) : Q (sSeq (whL tmp c b n) g e) := by
  rw [sSeq_e]
  exact whL_inv (R := fun r => Q (match r with | .nx e1 => g e1 | r => r)) I hm h0 (hs _ (fun _ _ h => h) (fun _ h => h) (fun _ _ h => h))
theorem rng_get {a b : Int} {i : Nat} {d : D} (h : (rng a b)[i]? = some d) : d = .int (a + i) ∧ (i : Int) < b - a := by
  unfold rng at h
  rw [List.getElem?_map, Option.map_eq_some_iff] at h
  obtain ⟨j, h1, rfl⟩ := h
  obtain ⟨hl, h2⟩ := List.getElem?_eq_some_iff.mp h1
  rw [List.getElem_range] at h2
  subst h2
  rw [List.length_range] at hl
  exact ⟨rfl, by omega⟩
theorem rng0_get {b : Int} {i : Nat} {d : D} (h : (rng 0 b)[i]? = some d) : d = .int i ∧ (i : Int) < b := by
  have := rng_get h
  rw [Int.zero_add] at this
  exact ⟨this.1, by omega⟩
@[simp] theorem rng_len (a b : Int) : (rng a b).length = (b - a).toNat := by simp [rng]
/-- one item of a list comprehension -/
def lc1 (t : Tg) (c : TV) (f : EV) (e : Env) (d : D) : Option (Option D) := match tgt t d e with
  | some e1 => (match c e1 with
    | .ok true e2 => (match f e2 with
      | .ok r e3 => (match stl r e3 with
        | some (x, _) => some (some x)
        | none => none)
      | _ => none)
    | .ok false _ => some none
    | _ => none)
  | none => none
theorem lcL_fm {α : Type} {t : Tg} {c : TV} {f : EV} {l : List α} {mk : α → D} {e : Env} (G : α → Option D) (h : ∀ a ∈ l, lc1 t c f e (mk a) = some (G a)) {acc : List D} : lcL t c f (l.map mk) e acc = some (acc ++ l.filterMap G) := by
  induction l generalizing acc with
  | nil => simp [lcL]
  | cons a l ih =>
    have h1 := h a List.mem_cons_self
    have h2 := fun acc => ih (fun b hb => h b (List.mem_cons_of_mem _ hb)) (acc := acc)
    rw [List.map_cons]
    unfold lc1 at h1
    unfold lcL
    cases q1 : tgt t (mk a) e with
    | none => rw [q1] at h1; cases h1
    | some e1 =>
      rw [q1] at h1
      dsimp only at h1 ⊢
      cases q2 : c e1 with
      | no => rw [q2] at h1; cases h1
      | ex x e2 => rw [q2] at h1; cases h1
      | ok b e2 =>
        rw [q2] at h1
        cases b with
        | false =>
          dsimp only at h1 ⊢
          rw [h2, List.filterMap_cons, ← Option.some.inj h1]
        | true =>
          dsimp only at h1 ⊢
          cases q3 : f e2 with
          | no => rw [q3] at h1; cases h1
          | ex x e3 => rw [q3] at h1; cases h1
          | ok r e3 =>
            rw [q3] at h1
            dsimp only at h1 ⊢
            cases q4 : stl r e3 with
            | none => rw [q4] at h1; cases h1
            | some p =>
              obtain ⟨x, e4⟩ := p
              rw [q4] at h1
              dsimp only at h1 ⊢
              rw [h2, List.filterMap_cons, ← Option.some.inj h1]
              simp
theorem lcL_mp {α : Type} {t : Tg} {c : TV} {f : EV} {l : List α} {mk : α → D} {e : Env} (G : α → D) (h : ∀ a ∈ l, lc1 t c f e (mk a) = some (some (G a))) {acc : List D} : lcL t c f (l.map mk) e acc = some (acc ++ l.map G) := by
  rw [lcL_fm (fun a => some (G a)) h, ← List.filterMap_eq_map]
  rfl
theorem eLc_ok {own : List Nat} {t : Tg} {w : WV} {c : TV} {f : EV} {e e1 : Env} {xs ys : List D} (hw : w e = .ok xs e1) (hl : lcL t c f xs (wipeE (lock e1) own) [] = some ys) (hz : xs.length ≤ 16777216) : eLc own t w c f e = .ok (.nw (.lst ys)) e1 := by
  unfold eLc
  rw [hw]
  dsimp only
  rw [hl]
  dsimp only
  rw [if_pos hz]
theorem atI0 {α : Type} (c : α) (cs : List α) : L2.atI (c :: cs) 0 = some c := atI_nat (by decide) rfl
theorem lcL_rng {t : Tg} {c : TV} {f : EV} {a b : Int} {e : Env} (G : Nat → D) (h : ∀ i : Nat, (i : Int) < b - a → lc1 t c f e (.int (a + (i : Int))) = some (some (G i))) : lcL t c f (rng a b) e [] = some ((List.range (b - a).toNat).map G) := by
  unfold rng
  rw [lcL_mp (mk := fun i : Nat => D.int (a + (i : Int))) G (fun i hi => h i (by have := List.mem_range.mp hi; omega)), List.nil_append]
theorem run_is {T : Def} {phi : String → List D → RC} {ds : List D} (h : ds.length = T.ms.length) : T.run phi ds = finish T.ms (T.body phi (startE T.ms ds T.n)) := if_pos h
theorem opPow_i (i j : Int) : opPow (.int i) (.int j) = if 0 ≤ j ∧ j ≤ 1000000 ∧ i.natAbs < 2 ^ 64 then some (.fz (.int (i ^ j.toNat))) else none := rfl
theorem okD_ints (n : Nat) (ps : List Int) : okD (n + 1) (.lst (ps.map .int)) = true := by
  show (ps.map D.int).all (okD n) = true
  rw [List.all_map, List.all_eq_true]
  intro p _
  cases n <;> rfl
theorem opEq_nil (ps : List Int) : opEq (.lst (ps.map .int)) (.lst []) = some (.fz (.bl ps.isEmpty)) := by
  unfold opEq dEq
  rw [okD_ints 5]
  show bRV (some (PyData.eqv (.list ((ps.map D.int).map (py 5))) (.list []))) = _
  cases ps <;> simp [PyData.eqv, PyData.eqvAll]
end S3

/-! P2: kinds of plain data whose == is =; slices; what walks of lists give. -/
namespace S3
open PySem
class Enc (α : Type) [DecidableEq α] where
  enc : α → D
  pd : α → PyData
  dep : Nat
  ok : ∀ a n, dep ≤ n → okD n (enc a) = true
  pyE : ∀ a n, dep ≤ n → py n (enc a) = pd a
  eqv : ∀ a b, PyData.eqv (pd a) (pd b) = decide (a = b)
abbrev enc {α : Type} [DecidableEq α] [Enc α] : α → D := Enc.enc
theorem eqvAll_map {α : Type} [DecidableEq α] [Enc α] (l m : List α) : PyData.eqvAll (l.map Enc.pd) (m.map Enc.pd) = decide (l = m) := by
  induction l generalizing m with
  | nil => cases m <;> simp [PyData.eqvAll]
  | cons a l ih =>
    cases m with
    | nil => simp [PyData.eqvAll]
    | cons b m =>
      simp only [List.map_cons, PyData.eqvAll]
      rw [ih, Enc.eqv]
      by_cases h1 : a = b <;> by_cases h2 : l = m <;> simp [h1, h2]
instance : Enc Str where
  enc := .str
  pd := .str
  dep := 0
  ok := fun a n _ => by cases n <;> rfl
  pyE := fun a n _ => by cases n <;> rfl
  eqv := fun a b => by
    by_cases h : a = b
    · subst h; simp [PyData.eqv]
    · simp [PyData.eqv, h]
instance : Enc Int where
  enc := .int
  pd := .int
  dep := 0
  ok := fun a n _ => by cases n <;> rfl
  pyE := fun a n _ => by cases n <;> rfl
  eqv := fun a b => py_ii a b
instance {α β : Type} [DecidableEq α] [DecidableEq β] [Enc α] [Enc β] : Enc (α × β) where
  enc := fun p => .tup [enc p.1, enc p.2]
  pd := fun p => .tuple [Enc.pd p.1, Enc.pd p.2]
  dep := max (Enc.dep α) (Enc.dep β) + 1
  ok := fun a n h => by
    cases n with
    | zero => omega
    | succ n =>
      show [enc a.1, enc a.2].all (okD n) = true
      simp [Enc.ok a.1 n (by omega), Enc.ok a.2 n (by omega)]
  pyE := fun a n h => by
    cases n with
    | zero => omega
    | succ n =>
      show PyData.tuple ([enc a.1, enc a.2].map (py n)) = _
      simp [Enc.pyE a.1 n (by omega), Enc.pyE a.2 n (by omega)]
  eqv := fun a b => by
    obtain ⟨a1, a2⟩ := a
    obtain ⟨b1, b2⟩ := b
    simp only [PyData.eqv, PyData.eqvAll, Enc.eqv]
    by_cases h1 : a1 = b1 <;> by_cases h2 : a2 = b2 <;> simp [h1, h2]
instance {α : Type} [DecidableEq α] [Enc α] : Enc (List α) where
  enc := fun l => .lst (l.map enc)
  pd := fun l => .list (l.map Enc.pd)
  dep := Enc.dep α + 1
  ok := fun a n h => by
    cases n with
    | zero => omega
    | succ n =>
      show (a.map enc).all (okD n) = true
      rw [List.all_map, List.all_eq_true]
      exact fun x _ => Enc.ok x n (by omega)
  pyE := fun a n h => by
    cases n with
    | zero => omega
    | succ n =>
      show PyData.list ((a.map enc).map (py n)) = _
      rw [List.map_map]
      congr 1
      exact List.map_congr_left fun x _ => Enc.pyE x n (by omega)
  eqv := fun a b => by
    show PyData.eqvAll (a.map Enc.pd) (b.map Enc.pd) = _
    exact eqvAll_map a b
section
variable {α : Type} [DecidableEq α] [Enc α]
theorem dEq_enc (a b : α) (h : Enc.dep α ≤ 6) : dEq (enc a) (enc b) = some (decide (a = b)) := by
  unfold dEq
  rw [Enc.ok a 6 h, Enc.ok b 6 h, Enc.pyE a 6 h, Enc.pyE b 6 h, Enc.eqv]
  rfl
theorem opEq_enc (a b : α) (h : Enc.dep α ≤ 6 := by decide) : opEq (enc a) (enc b) = some (.fz (.bl (decide (a = b)))) := by
  unfold opEq; rw [dEq_enc a b h]; rfl
theorem opNe_enc (a b : α) (h : Enc.dep α ≤ 6 := by decide) : opNe (enc a) (enc b) = some (.fz (.bl (!decide (a = b)))) := by
  unfold opNe; rw [dEq_enc a b h]; rfl
theorem opIn_enc (a : α) (xs : List α) (h : Enc.dep α ≤ 5 := by decide) : opIn (enc a) (enc xs) = some (.fz (.bl (decide (a ∈ xs)))) := by
  show bRV (if (okD 6 (enc a) && (xs.map enc).all (okD 5)) = true then some ((xs.map enc).any fun z => PyData.eqv (py 6 z) (py 6 (enc a))) else none) = _
  have h1 : (xs.map enc).all (okD 5) = true := by
    rw [List.all_map, List.all_eq_true]
    exact fun x _ => Enc.ok x 5 h
  rw [h1, Enc.ok a 6 (by omega), Bool.true_and, if_pos rfl]
  show some (RV.fz (D.bl _)) = _
  congr 3
  rw [List.any_map]
  induction xs with
  | nil => rfl
  | cons y ys ih =>
    rw [List.any_cons, ih (by simp at h1 ⊢; exact h1.2)]
    show (PyData.eqv (py 6 (enc y)) (py 6 (enc a)) || _) = _
    rw [Enc.pyE a 6 (by omega), Enc.pyE y 6 (by omega), Enc.eqv]
    by_cases c : y = a
    · subst c; simp
    · have c2 : ¬ a = y := fun z => c z.symm
      simp [c, c2]
theorem nin_of_opIn {x y : D} {b : Bool} (h : opIn x y = some (.fz (.bl b))) : opNotIn x y = some (.fz (.bl (!b))) := by
  unfold opIn at h
  unfold opNotIn
  cases e : dIn x y with
  | none => rw [e] at h; cases h
  | some c =>
    rw [e] at h
    have : c = b := by simpa [bRV] using h
    rw [this]
    rfl
theorem opNotIn_enc (a : α) (xs : List α) (h : Enc.dep α ≤ 5 := by decide) : opNotIn (enc a) (enc xs) = some (.fz (.bl (!decide (a ∈ xs)))) := nin_of_opIn (opIn_enc a xs h)
end
/-! lists and sets of strings -/
def strL (xs : List Str) : List D := xs.map .str
def setD (xs : List Str) : D := .st (xs.map Sum.inr)
theorem kIn_strs (x : Str) (xs : List Str) : kIn (.inr x) (xs.map Sum.inr) = decide (x ∈ xs) := by
  rw [Bool.eq_iff_iff, kIn_iff, decide_eq_true_iff]
  exact ⟨fun h => by obtain ⟨y, hy, e⟩ := List.mem_map.mp h; cases e; exact hy, fun h => List.mem_map.mpr ⟨x, h, rfl⟩⟩
theorem in_set (x : Str) (xs : List Str) : opIn (.str x) (setD xs) = some (.fz (.bl (decide (x ∈ xs)))) := by
  show bRV (some (kIn (.inr x) (xs.map Sum.inr))) = _
  rw [kIn_strs]
  rfl
theorem nin_set (x : Str) (xs : List Str) : opNotIn (.str x) (setD xs) = some (.fz (.bl (!decide (x ∈ xs)))) := nin_of_opIn (in_set x xs)
theorem add_set {x : Str} {xs : List Str} (h : x ∉ xs) (hz : xs.length < 4000) : mAdd (setD xs) [.str x] = some (setD (xs ++ [x]), .fz .non) := by
  show (if (xs.map Sum.inr : List Key).length < 4000 then some (D.st (addKey (xs.map Sum.inr) (.inr x)), RV.fz .non) else none) = _
  rw [if_pos (by rw [List.length_map]; exact hz)]
  unfold addKey
  rw [kIn_strs, decide_eq_false h]
  unfold setD
  rw [List.map_append]
  rfl
theorem del_set (x : Str) (xs : List Str) : mDiscard (setD xs) [.str x] = some (setD (xs.filter fun y => decide (y ≠ x)), .fz .non) := by
  show some (D.st (delKey (xs.map Sum.inr) (.inr x)), RV.fz .non) = _
  unfold delKey setD
  rw [List.filter_map]
  congr 5
  funext y
  show decide ((Sum.inr y : Key) ≠ Sum.inr x) = decide (y ≠ x)
  by_cases h : y = x
  · subst h; simp
  · simp [h]
theorem unKeys_strs (xs : List Str) : unKeys (xs.map Sum.inr) = some xs := by
  induction xs with
  | nil => rfl
  | cons x xs ih => simp only [List.map_cons, unKeys, ih]; rfl
theorem strsOf_strs (xs : List Str) : strsOf (strL xs) = some xs := by
  induction xs with
  | nil => rfl
  | cons x xs ih =>
    show (strsOf (strL xs)).map (x :: ·) = _
    rw [ih]
    rfl
theorem sorted_set (xs : List Str) : opSorted (setD xs) = some (.nw (.lst (strL (sortS xs)))) := by
  show (unKeys (xs.map Sum.inr)).map _ = _
  rw [unKeys_strs]
  rfl
theorem sorted_strL (xs : List Str) (h : xs.length ≤ BIG) : opSorted (.lst (strL xs)) = some (.nw (.lst (strL (sortS xs)))) := by
  show (match strsOf (strL xs) with | some ss => _ | none => _) = _
  rw [strsOf_strs]
  show (if xs.length ≤ BIG then _ else _) = _
  rw [if_pos h]
  rfl
theorem sortS_same {xs ys : List Str} (h1 : xs.Nodup) (h2 : ys.Nodup) (h : ∀ x, x ∈ xs ↔ x ∈ ys) : sortS xs = sortS ys := sortS_congr ((List.perm_ext_iff_of_nodup h1 h2).mpr h)
@[simp] theorem isSet_d (xs : List Str) : isSet (setD xs) = true := rfl
theorem strL_isE (xs : List Str) : (strL xs).isEmpty = xs.isEmpty := by cases xs <;> rfl
theorem strL_len (xs : List Str) : (strL xs).length = xs.length := List.length_map _
theorem mPop_strL (xs : List Str) (x : Str) : mPop (.lst (strL (xs ++ [x]))) [] = some (.lst (strL xs), .fz (.str x)) := by
  unfold mPop strL
  simp
/-! C4..C6's words -/
@[simp] theorem aStar_e {f : EV} {g : AV} {e : Env} : aStar f g e = match f e with
  | .ok r e1 => (match (rd r e1).bind seqI with
    | some xs => (match g e1 with
      | .ok rs e2 => .ok (xs.map .fz ++ rs) e2
      | .ex x e2 => .ex x e2
      | .no => .no)
    | none => .no)
  | .ex x e1 => .ex x e1
  | .no => .no := rfl
@[simp] theorem seqI_l (xs : List D) : seqI (.lst xs) = some xs := rfl
@[simp] theorem seqI_t (xs : List D) : seqI (.tup xs) = some xs := rfl
theorem fzs_app (xs : List D) (rs : List RV) : fzs (xs.map .fz ++ rs) = (fzs rs).map (xs ++ ·) := by
  induction xs with
  | nil => simp
  | cons x xs ih =>
    rw [List.map_cons, List.cons_append, fzs_cons, ih, Option.map_map]
    rfl
@[simp] theorem sAug_e {i : Nat} {g : Int → Int → Int} {f : EV} {e : Env} : sAug i g f e = match slot e i with
  | .fz (.int a) => (match f e with
    | .ok r e1 => (match rd r e1 with
      | some (.int b) => .nx (e1.set i (.fz (.int (g a b))))
      | _ => .no)
    | .ex x e1 => .ex x e1
    | .no => .no)
  | _ => .no := rfl
theorem whN_e {tmp : List Nat} {i n : Nat} {f : EV} {b : SV} {e : Env} : whN tmp i f b (n + 1) e = match f e with
  | .ok r e1 => (match setS i r e1 with
    | some e2 => (match slot e2 i with
      | .fz .non => (match b e2 with
        | .nx e3 => whN tmp i f b n (wipeE e3 tmp)
        | .ct e3 => whN tmp i f b n (wipeE e3 tmp)
        | .bk e3 => .nx (wipeE e3 tmp)
        | .rt r e3 => .rt r e3
        | .ex x e3 => .ex x e3
        | .no => .no)
      | .no => .no
      | _ => .nx e2)
    | none => .no)
  | .ex x e1 => .ex x e1
  | .no => .no := by rw [whN]; rfl
theorem toKeys_strL (xs : List Str) : toKeys (strL xs) = some (xs.map Sum.inr) := by
  induction xs with
  | nil => rfl
  | cons x xs ih =>
    show (match toKey (.str x), toKeys (strL xs) with | some k, some ks => some (k :: ks) | _, _ => none) = _
    rw [ih]
    rfl
theorem dedKey_nodup {ks : List Key} (h : ks.Nodup) : dedKey ks = ks := by
  have : ∀ (ks acc : List Key), (acc ++ ks).Nodup → ks.foldl addKey acc = acc ++ ks := by
    intro ks
    induction ks with
    | nil => intro acc _; simp
    | cons k ks ih =>
      intro acc h
      have hn : k ∉ acc := fun z => by
        rw [List.nodup_append] at h
        exact h.2.2 k z k List.mem_cons_self rfl
      have e : addKey acc k = acc ++ [k] := by
        unfold addKey
        rw [if_neg (fun z => hn (kIn_iff.mp z))]
      rw [List.foldl_cons, e, ih _ (by rw [List.append_assoc]; exact h), List.append_assoc]
      rfl
  have := this ks [] h
  exact this
theorem set_strL {xs : List Str} (h : xs.Nodup) (hz : xs.length < 4000) : opSet (.lst (strL xs)) = some (.nw (setD xs)) := by
  show (match toKeys (strL xs) with | some ks => if ks.length < 4000 then some (RV.nw (.st (dedKey ks))) else none | none => none) = _
  rw [toKeys_strL]
  show (if (xs.map Sum.inr : List Key).length < 4000 then _ else _) = _
  rw [if_pos (by rw [List.length_map]; exact hz)]
  have hn : (xs.map Sum.inr : List Key).Nodup := List.Pairwise.map _ (fun a b (h : a ≠ b) (e : (Sum.inr a : Key) = Sum.inr b) => h (Sum.inr.inj e)) h
  rw [dedKey_nodup hn]
  rfl
@[simp] theorem sPutL_e {i : Nat} {f g : EV} {e : Env} : sPutL i f g e = match f e with
  | .ok r e0 => (match stl r e0 with
    | some (v, e1) => if mine isLst (slot e1 i) then (match g e1 with
      | .ok q e2 => (match rd q e2 with
        | some y => if mine isLst (slot e2 i) then (match (slot e2 i).val with
          | some d => (match mPutL d y v with
            | some d' => .nx (e2.set i (reown (slot e2 i) d'))
            | none => .no)
          | none => .no) else .no
        | none => .no)
      | .ex x e1 => .ex x e1
      | .no => .no) else .no
    | none => .no)
  | .ex x e1 => .ex x e1
  | .no => .no := rfl
theorem lt_of_leS {a b : Str} (h : leS a b = true) (n : a ≠ b) : a.cps.toList < b.cps.toList := by
  by_cases c : a.cps.toList < b.cps.toList
  · exact c
  · exact (n (cps_inj (List.le_antisymm (leS_iff.mp h) (List.not_lt.mp c)))).elim
@[simp] theorem wFz_e {f : EV} {e : Env} : wFz f e = match f e with
  | .ok r e0 => (match stl r e0 with
    | some (d, e1) => (match items d with
      | some xs => .ok xs e1
      | none => .no)
    | none => .no)
  | .ex x e1 => .ex x e1
  | .no => .no := rfl
theorem addL_ok {acc : List D} {x : D} (h : acc.length < BIG) : addL acc x = some (acc ++ [x]) := if_pos h
def addStr (xs : List Str) (x : Str) : List Str := if x ∈ xs then xs else xs ++ [x]
theorem addS_ok {xs : List Str} {x : Str} (h : xs.length < 4000) : addS (xs.map Sum.inr) (.str x) = some ((addStr xs x).map Sum.inr) := by
  show (if (xs.map Sum.inr : List Key).length < 4000 then some (addKey (xs.map Sum.inr) (.inr x)) else none) = _
  rw [if_pos (by rw [List.length_map]; exact h)]
  unfold addKey addStr
  rw [kIn_strs]
  by_cases c : x ∈ xs
  · rw [decide_eq_true c, if_pos rfl, if_pos c]
  · rw [decide_eq_false c, if_neg Bool.false_ne_true, if_neg c, List.map_append]
    rfl
theorem addStr_mem {xs : List Str} {x y : Str} : y ∈ addStr xs x ↔ y ∈ xs ∨ y = x := by
  unfold addStr
  split
  · rename_i h
    exact ⟨.inl, fun q => q.elim id fun e => e ▸ h⟩
  · rw [List.mem_append, List.mem_singleton]
theorem addStr_nodup {xs : List Str} {x : Str} (h : xs.Nodup) : (addStr xs x).Nodup := by
  unfold addStr
  split
  · exact h
  · rename_i c
    rw [List.nodup_append]
    exact ⟨h, by simp, fun y hy z hz e => c (by rw [List.mem_singleton] at hz; rw [← hz, ← e]; exact hy)⟩
theorem addStr_len (xs : List Str) (x : Str) : (addStr xs x).length ≤ xs.length + 1 := by
  unfold addStr
  split
  · omega
  · simp
end S3

/-! P3: triples; own instances; what comprehensions over dicts, sets, two clauses give. -/
namespace S3
open PySem
structure Tri where
  a : Str
  b : Str
  c : Str
deriving DecidableEq
instance : Enc Tri where
  enc := fun p => .tup [.str p.a, .str p.b, .str p.c]
  pd := fun p => .tuple [.str p.a, .str p.b, .str p.c]
  dep := 1
  ok := fun a n h => by
    cases n with
    | zero => omega
    | succ n => show [D.str a.a, .str a.b, .str a.c].all (okD n) = true; cases n <;> rfl
  pyE := fun a n h => by
    cases n with
    | zero => omega
    | succ n => show PyData.tuple ([D.str a.a, .str a.b, .str a.c].map (py n)) = _; cases n <;> rfl
  eqv := fun x y => by
    obtain ⟨a1, a2, a3⟩ := x
    obtain ⟨b1, b2, b3⟩ := y
    simp only [PyData.eqv, PyData.eqvAll]
    by_cases h1 : a1 = b1 <;> by_cases h2 : a2 = b2 <;> by_cases h3 : a3 = b3 <;> simp [h1, h2, h3]
section
variable {e : Env} {f g : EV}
@[simp] theorem aRecv_e {c m : Str} {a : AV} : aRecv c m f a e = match f e with
  | .ok r e1 => (match rd r e1 with
    | some (.obj c' fs) => if decide (c' = c) && (fs.lookup m).isNone then (match a e1 with
      | .ok rs e2 => .ok (r :: rs) e2
      | .ex x e2 => .ex x e2
      | .no => .no) else .no
    | _ => .no)
  | .ex x e1 => .ex x e1
  | .no => .no := rfl
@[simp] theorem eMeth_e {c m : Str} {phi : List D → RC} {ms : List Md} {a : AV} : eMeth c m phi ms f a e = eCall phi ms (aRecv c m f a) e := rfl
@[simp] theorem eMake_e {c : Str} {phi : List D → RC} {ms : List Md} {a : AV} : eMake c phi ms a e = match a e with
  | .ok rs e1 => (match argD ms rs e1 with
    | some ds => if noMut ms then (match phi (.obj c [] :: ds) with
      | .ok false .non [o] => .ok (.nw o) e1
      | .ex x _ => .ex x e1
      | _ => .no) else .no
    | none => .no)
  | .ex x e1 => .ex x e1
  | .no => .no := rfl
@[simp] theorem noMut_nil : noMut [] = true := rfl
@[simp] theorem noMut_r (ms : List Md) : noMut (.r :: ms) = noMut ms := rfl
@[simp] theorem noMut_v (ms : List Md) : noMut (.v :: ms) = noMut ms := rfl
@[simp] theorem eGet2_e {h : EV} : eGet2 f g h e = match f e with
  | .ok r e1 => if ((rd r e1).map isDct).getD false then (match g e1 with
    | .ok q e2 => (match h e2 with
      | .ok p e3 => (match rd r e3, rd q e3, stl p e3 with
        | some d, some y, some (z, e4) => (match dGet d y with
          | some (some v) => .ok (.fz v) e4
          | some none => .ok (.fz z) e4
          | none => .no)
        | _, _, _ => .no)
      | .ex x e3 => .ex x e3
      | .no => .no)
    | .ex x e2 => .ex x e2
    | .no => .no) else .no
  | .ex x e1 => .ex x e1
  | .no => .no := rfl
end
/-! ### dicts -/
section
variable {κ : Type} [DecidableEq κ]
theorem dPut_new {acc : List (κ × D)} {k : κ} {x : D} (h : k ∉ acc.map (·.1)) : dPut acc k x = acc ++ [(k, x)] := by
  unfold dPut
  rw [if_neg]
  intro z
  obtain ⟨p, hp, e⟩ := List.any_eq_true.mp z
  exact h (List.mem_map.mpr ⟨p, hp, of_decide_eq_true e⟩)
end
theorem dVal_map {α : Type} {l : List α} {k : α → Key} {v : α → D} (nd : (l.map k).Nodup) {a : α} (h : a ∈ l) : dVal (l.map fun a => (k a, v a)) (k a) = some (v a) := by
  have : (k a, v a) ∈ l.map fun a => (k a, v a) := List.mem_map.mpr ⟨a, h, rfl⟩
  exact dVal_at (p := (k a, v a)) (by rw [List.map_map]; exact nd) this
theorem dVal_none {es : List (Key × D)} {k : Key} (h : k ∉ es.map (·.1)) : dVal es k = none := by
  unfold dVal
  rw [Option.map_eq_none_iff, List.find?_eq_none]
  intro p hp z
  exact h (List.mem_map.mpr ⟨p, hp, of_decide_eq_true z⟩)
/-! ### comprehensions -/
def dc1 (t : Tg) (c : TV) (f g : EV) (e : Env) (d : D) : Option (Option (Key × D)) := match tgt t d e with
  | some e1 => (match c e1 with
    | .ok true e2 => (match f e2 with
      | .ok r e3 => (match (rd r e3).bind toKey with
        | some k => (match g e3 with
          | .ok q e4 => (match stl q e4 with
            | some (x, _) => some (some (k, x))
            | none => none)
          | _ => none)
        | none => none)
      | _ => none)
    | .ok false _ => some none
    | _ => none)
  | none => none
theorem dc_fm {α : Type} {t : Tg} {c : TV} {f g : EV} {l : List α} {mk : α → D} {e : Env} (G : α → Option (Key × D)) (h : ∀ a ∈ l, dc1 t c f g e (mk a) = some (G a)) {acc : List (Key × D)} (nd : ((acc ++ l.filterMap G).map (·.1)).Nodup) (hz : acc.length + l.length < BIG) :
    cpG t c (bdD f g) (l.map mk) e acc = some (acc ++ l.filterMap G) := by
  induction l generalizing acc with
  | nil => simp [cpG]
  | cons a l ih =>
    have h1 := h a List.mem_cons_self
    rw [List.length_cons] at hz
    rw [List.map_cons]
    unfold dc1 at h1
    unfold cpG
    cases q1 : tgt t (mk a) e with
    | none => rw [q1] at h1; cases h1
    | some e1 =>
      rw [q1] at h1
      dsimp only at h1 ⊢
      cases q2 : c e1 with
      | no => rw [q2] at h1; cases h1
      | ex x e2 => rw [q2] at h1; cases h1
      | ok b e2 =>
        rw [q2] at h1
        cases b with
        | false =>
          dsimp only at h1 ⊢
          have hG := Option.some.inj h1
          rw [List.filterMap_cons, ← hG] at nd ⊢
          exact ih (fun b hb => h b (List.mem_cons_of_mem _ hb)) nd (by omega)
        | true =>
          dsimp only at h1 ⊢
          unfold bdD
          cases q3 : f e2 with
          | no => rw [q3] at h1; cases h1
          | ex x e3 => rw [q3] at h1; cases h1
          | ok r e3 =>
            rw [q3] at h1
            dsimp only at h1 ⊢
            cases q4 : (rd r e3).bind toKey with
            | none => rw [q4] at h1; cases h1
            | some k =>
              rw [q4] at h1
              dsimp only at h1 ⊢
              cases q5 : g e3 with
              | no => rw [q5] at h1; cases h1
              | ex x e4 => rw [q5] at h1; cases h1
              | ok q e4 =>
                rw [q5] at h1
                dsimp only at h1 ⊢
                cases q6 : stl q e4 with
                | none => rw [q6] at h1; cases h1
                | some p =>
                  obtain ⟨x, e5⟩ := p
                  rw [q6] at h1
                  dsimp only at h1 ⊢
                  have hG := Option.some.inj h1
                  rw [List.filterMap_cons, ← hG] at nd ⊢
                  dsimp only at nd ⊢
                  rw [if_pos (show acc.length < BIG by omega)]
                  dsimp only
                  have hk : k ∉ acc.map (·.1) := by
                    rw [List.map_append, List.nodup_append] at nd
                    exact fun z => nd.2.2 k z k (by simp) rfl
                  rw [dPut_new hk]
                  have ea : acc ++ (k, x) :: l.filterMap G = (acc ++ [(k, x)]) ++ l.filterMap G := by simp
                  rw [ea] at nd ⊢
                  exact ih (fun b hb => h b (List.mem_cons_of_mem _ hb)) nd (by rw [List.length_append, List.length_singleton]; omega)
theorem eDc_ok {own : List Nat} {t : Tg} {w : WV} {c : TV} {f g : EV} {e e1 : Env} {xs : List D} {ys : List (Key × D)} (hw : w e = .ok xs e1) (hl : cpG t c (bdD f g) xs (wipeE (lock e1) own) [] = some ys) : eDc own t w c f g e = .ok (.nw (.dk ys)) e1 := by
  unfold eDc
  rw [hw]
  dsimp only
  rw [hl]
def sc1x (t : Tg) (c : TV) (f : EV) (e : Env) (d : D) : Option (List Key) := match tgt t d e with
  | some e1 => (match c e1 with
    | .ok true e2 => (match f e2 with
      | .ok r e3 => (match stl r e3 with
        | some (.tup ys, _) => toKeys ys
        | _ => none)
      | _ => none)
    | _ => none)
  | none => none
theorem lsc_mp {α : Type} {t : Tg} {c : TV} {f : EV} {l : List α} {mk : α → D} {e : Env} (G : α → List Key) (h : ∀ a ∈ l, sc1x t c f e (mk a) = some (G a)) {acc : List (List Key)} (nd : (acc ++ l.map G).Nodup) (hz : acc.length + l.length < 299) :
    cpG t c (bdE f addT) (l.map mk) e acc = some (acc ++ l.map G) := by
  induction l generalizing acc with
  | nil => simp [cpG]
  | cons a l ih =>
    have h1 := h a List.mem_cons_self
    rw [List.length_cons] at hz
    rw [List.map_cons]
    unfold sc1x at h1
    unfold cpG
    cases q1 : tgt t (mk a) e with
    | none => rw [q1] at h1; cases h1
    | some e1 =>
      rw [q1] at h1
      dsimp only at h1 ⊢
      cases q2 : c e1 with
      | no => rw [q2] at h1; cases h1
      | ex x e2 => rw [q2] at h1; cases h1
      | ok b e2 =>
        rw [q2] at h1
        cases b with
        | false => cases h1
        | true =>
          dsimp only at h1 ⊢
          unfold bdE
          cases q3 : f e2 with
          | no => rw [q3] at h1; cases h1
          | ex x e3 => rw [q3] at h1; cases h1
          | ok r e3 =>
            rw [q3] at h1
            dsimp only at h1 ⊢
            cases q4 : stl r e3 with
            | none => rw [q4] at h1; cases h1
            | some p =>
              obtain ⟨x, e5⟩ := p
              rw [q4] at h1
              cases x <;> try (cases h1; done)
              dsimp only at h1 ⊢
              unfold addT
              dsimp only
              rw [h1]
              dsimp only
              rw [if_pos (show acc.length + 1 < 300 by omega)]
              dsimp only
              rw [List.map_cons] at nd ⊢
              have hk : G a ∉ acc := by
                rw [List.nodup_append] at nd
                exact fun z => nd.2.2 _ z _ List.mem_cons_self rfl
              rw [if_neg (fun z => hk (memK_iff.mp z))]
              have ea : acc ++ G a :: l.map G = (acc ++ [G a]) ++ l.map G := by simp
              rw [ea] at nd ⊢
              exact ih (fun b hb => h b (List.mem_cons_of_mem _ hb)) nd (by rw [List.length_append, List.length_singleton]; omega)
theorem eLenSc_ok {own : List Nat} {t : Tg} {w : WV} {c : TV} {f : EV} {e e1 : Env} {xs : List D} {ys : List (List Key)} (hw : w e = .ok xs e1) (hl : cpG t c (bdE f addT) xs (wipeE (lock e1) own) [] = some ys) : eLenSc own t w c f e = .ok (.fz (.int (ys.length : Nat))) e1 := by
  unfold eLenSc
  rw [hw]
  dsimp only
  rw [hl]
theorem cpL_mp {α : Type} {t : Tg} {c : TV} {f : EV} {l : List α} {mk : α → D} {e : Env} (G : α → D) (h : ∀ a ∈ l, lc1 t c f e (mk a) = some (some (G a))) {acc : List D} (hz : acc.length + l.length < BIG) : cpL t c f addL (l.map mk) e acc = some (acc ++ l.map G) := by
  induction l generalizing acc with
  | nil => simp [cpL]
  | cons a l ih =>
    have h1 := h a List.mem_cons_self
    rw [List.length_cons] at hz
    rw [List.map_cons]
    unfold lc1 at h1
    unfold cpL
    cases q1 : tgt t (mk a) e with
    | none => rw [q1] at h1; cases h1
    | some e1 =>
      rw [q1] at h1
      dsimp only at h1 ⊢
      cases q2 : c e1 with
      | no => rw [q2] at h1; cases h1
      | ex x e2 => rw [q2] at h1; cases h1
      | ok b e2 =>
        rw [q2] at h1
        cases b with
        | false => cases h1
        | true =>
          dsimp only at h1 ⊢
          cases q3 : f e2 with
          | no => rw [q3] at h1; cases h1
          | ex x e3 => rw [q3] at h1; cases h1
          | ok r e3 =>
            rw [q3] at h1
            dsimp only at h1 ⊢
            cases q4 : stl r e3 with
            | none => rw [q4] at h1; cases h1
            | some p =>
              obtain ⟨x, e5⟩ := p
              rw [q4] at h1
              dsimp only at h1 ⊢
              have hG := Option.some.inj (Option.some.inj h1)
              rw [addL_ok (show acc.length < BIG by omega)]
              dsimp only
              rw [List.map_cons, ← hG]
              have ea : acc ++ x :: l.map G = (acc ++ [x]) ++ l.map G := by simp
              rw [ea]
              exact ih (fun b hb => h b (List.mem_cons_of_mem _ hb)) (by rw [List.length_append, List.length_singleton]; omega)
/-- one item of the first clause -/
def lc2x (t : Tg) (f1 : EV) (own1 : List Nat) (t1 : Tg) (f : EV) (e : Env) (d : D) (ys : List D) : Prop := ∃ e1 xs e3, tgt t d e = some e1 ∧ wFz f1 e1 = .ok xs e3 ∧ ∀ acc : List D, acc.length + ys.length < BIG → cpL t1 tYesS f addL xs (wipeE (lock e1) own1) acc = some (acc ++ ys)
theorem cp2_mp {α : Type} {t t1 : Tg} {f1 f : EV} {own1 : List Nat} {l : List α} {mk : α → D} {e : Env} (G : α → List D) (h : ∀ a ∈ l, lc2x t f1 own1 t1 f e (mk a) (G a)) {acc : List D} (hz : acc.length + (l.flatMap G).length < BIG) :
    cp2 t tYesS f1 own1 t1 tYesS f addL (l.map mk) e acc = some (acc ++ l.flatMap G) := by
  induction l generalizing acc with
  | nil => simp [cp2]
  | cons a l ih =>
    obtain ⟨e1, xs, e3, h1, h2, h3⟩ := h a List.mem_cons_self
    rw [List.flatMap_cons, List.length_append] at hz
    rw [List.map_cons]
    unfold cp2
    rw [h1]
    dsimp only
    show (match wFz f1 e1 with | .ok xs _ => _ | _ => _) = _
    rw [h2]
    dsimp only
    rw [h3 acc (by omega)]
    dsimp only
    rw [ih (fun b hb => h b (List.mem_cons_of_mem _ hb)) (by rw [List.length_append]; omega), List.flatMap_cons, List.append_assoc]
theorem eLc2_ok {own own1 : List Nat} {t t1 : Tg} {w : WV} {c c1 : TV} {f1 f : EV} {e e1 : Env} {xs ys : List D} (hw : w e = .ok xs e1) (hl : cp2 t c f1 own1 t1 c1 f addL xs (wipeE (lock e1) own) [] = some ys) : eLc2 own own1 t w c t1 f1 c1 f e = .ok (.nw (.lst ys)) e1 := by
  unfold eLc2
  rw [hw]
  dsimp only
  rw [hl]
/-! ### sets of tuples -/
theorem dedL_of {α : Type} [DecidableEq α] {xs : List α} (h : xs.Nodup) : dedL xs = xs := by
  have : ∀ (xs acc : List α), (acc ++ xs).Nodup → xs.foldl (fun acc x => if x ∈ acc then acc else acc ++ [x]) acc = acc ++ xs := by
    intro xs
    induction xs with
    | nil => intro acc _; simp
    | cons x xs ih =>
      intro acc h
      rw [List.foldl_cons]
      have hx : x ∉ acc := by
        rw [List.nodup_append] at h
        exact fun z => h.2.2 _ z _ List.mem_cons_self rfl
      rw [if_neg hx]
      have ea : acc ++ x :: xs = (acc ++ [x]) ++ xs := by simp
      rw [ea] at h ⊢
      exact ih _ h
  exact this xs [] (by simpa using h)
theorem lenSet_pairs {l : List (Str × Str)} (h : l.Nodup) (hz : l.length < 300) : opLenSet (.lst (l.map enc)) = some (.fz (.int l.length)) := by
  have e : toKeysL (l.map enc) = some (l.map fun p => [Sum.inr p.1, Sum.inr p.2]) := by
    clear h hz
    induction l with
    | nil => rfl
    | cons p l ih => rw [List.map_cons, List.map_cons]; show (match toKeys [D.str p.1, D.str p.2], toKeysL (l.map enc) with | some k, some ks => some (k :: ks) | _, _ => none) = _; rw [ih]; rfl
  unfold opLenSet
  dsimp only
  rw [List.length_map, if_pos hz, e]
  have nd : (l.map fun p : Str × Str => ([Sum.inr p.1, Sum.inr p.2] : List Key)).Nodup := by
    refine List.pairwise_map.mpr (h.imp fun {p q} hne z => hne ?_)
    simp at z
    exact Prod.ext z.1 z.2
  rw [Option.map_some, dedL_of nd, List.length_map]
end S3

namespace S3
open PySem L2
/-! ### the defs as terms -/
abbrev obAll : List Str := ["@Mark"]
def subO (d c : Str) : Bool := decide (c = d)
def wk_Mark_WORDS : List Str := ["none", "own", "read", "write"]
def b_Mark___init__ (phi : String → List D → RC) : SV :=
 sSeq (sIf (tVal (eOp2 opNinK (eSlot 1) (eOp1 (opCon ["@Mark"] "WORDS" (.kt (wk_Mark_WORDS.map D.str))) (eSlot 0)))) (sRaise "InvalidMark" ["word"] (aKeep (eSlot 1) (aNil))) (sNx)) (sSeq (sFldPut 0 ["@Mark"] "word" (eSlot 1)) (sFldPut 0 ["@Mark"] "rank" (eIdxC ["@Mark"] "WORDS" wk_Mark_WORDS (eSlot 0) (eSlot 1))))
def T_Mark___init__ : Def := ⟨[.m, .v], 2, b_Mark___init__⟩

def b_Mark___eq__ (phi : String → List D → RC) : SV :=
 sRet (eAnd (eOp1 (opIsO obAll (subO "@Mark")) (eSlot 1)) (eOp2 opEq (eOp1 (opFld ["@Mark"] "rank") (eSlot 0)) (eOp1 (opFld ["@Mark"] "rank") (eSlot 1))))
def T_Mark___eq__ : Def := ⟨[.r, .r], 2, b_Mark___eq__⟩

def b_Mark___lt__ (phi : String → List D → RC) : SV :=
 sSeq (sIf (tNotS (tTru (eOp1 (opIsO obAll (subO "@Mark")) (eSlot 1)))) (sRet (eNo)) (sNx)) (sRet (eOp2 opLt (eOp1 (opFld ["@Mark"] "rank") (eSlot 0)) (eOp1 (opFld ["@Mark"] "rank") (eSlot 1))))
def T_Mark___lt__ : Def := ⟨[.r, .r], 2, b_Mark___lt__⟩

def b_Mark___le__ (phi : String → List D → RC) : SV :=
 sSeq (sIf (tNotS (tTru (eOp1 (opIsO obAll (subO "@Mark")) (eSlot 1)))) (sRet (eNo)) (sNx)) (sRet (eOp2 opLe (eOp1 (opFld ["@Mark"] "rank") (eSlot 0)) (eOp1 (opFld ["@Mark"] "rank") (eSlot 1))))
def T_Mark___le__ : Def := ⟨[.r, .r], 2, b_Mark___le__⟩

def b_Mark___or__ (phi : String → List D → RC) : SV :=
 sSeq (sIf (tNotS (tTru (eOp1 (opIsO obAll (subO "@Mark")) (eSlot 1)))) (sRet (eNo)) (sNx)) (sSeq (sIf (tVal (eOp2 opLt (eOp1 (opFld ["@Mark"] "rank") (eSlot 0)) (eOp1 (opFld ["@Mark"] "rank") (eSlot 1)))) (sRet (eSlot 1)) (sNx)) (sRet (eSlot 0)))
def T_Mark___or__ : Def := ⟨[.v, .v], 2, b_Mark___or__⟩

def b_strongest (phi : String → List D → RC) : SV :=
 sSeq (sSet 1 (eMake "@Mark" (phi "Mark.__init__") [.v] (aKeep (eC (.str "none")) (aNil)))) (sSeq (sFor [2] (.one 2) (wAny (eSlot 0)) (sSet 1 (eOwnV "@Mark" (phi "Mark.__or__") (eSlot 1) (eSlot 2)))) (sRet (eSlot 1)))
def T_strongest : Def := ⟨[.v], 3, b_strongest⟩

def b__law_draws_of (phi : String → List D → RC) : SV :=
 sSeq (sSet 1 (eDisp mkLst (aNil))) (sSeq (sFor [2, 3, 4] (.one 2) (wAny (eSlot 0)) (sIf (tVal (eOp2 opLt (eOp1 opLen (eSlot 1)) (eC (.int 72)))) (sSeq (sSet 3 (eOp1 opAbs (eOp1 opInt (eSlot 2)))) (sIf (tVal (eOp2 opLt (eSlot 3) (eOp2 opPow (eC (.int 10)) (eC (.int 18))))) (sFor [4] (.one 4) (wR1 (eC (.int 3))) (sSeq (sSet 3 (eOp2 opMod (eOp1 opInt (eOp2 opAdd (eOp2 opAdd (eOp2 opMul (eSlot 3) (eC (.int 30011))) (eOp2 opMul (eC (.int 7919)) (eSlot 4))) (eC (.int 977)))) (eC (.int 65521)))) (sExpr (eMut 1 isLst mAppend (aKeep (eSlot 3) (aNil)))))) (sFor [4] (.one 4) (wR1 (eC (.int 60))) (sIf (tVal (eOp2 opGt (eSlot 3) (eC (.int 0)))) (sSeq (sExpr (eMut 1 isLst mAppend (aKeep (eOp2 opMod (eOp1 opInt (eSlot 3)) (eC (.int 65536))) (aNil)))) (sSet 3 (eOp2 opDiv (eSlot 3) (eC (.int 65536))))) (sNx))))) (sNx))) (sSeq (sIf (tVal (eOp2 opEq (eSlot 1) (eDisp mkLst (aNil)))) (sSet 1 (eDisp mkLst (aKeep (eC (.int 2)) (aKeep (eC (.int 10)) (aKeep (eC (.int 1)) (aKeep (eC (.int 0)) (aKeep (eC (.int 4)) (aKeep (eC (.int 0)) (aKeep (eC (.int 1052)) (aKeep (eC (.int 0)) (aKeep (eC (.int 148)) (aKeep (eC (.int 26)) (aKeep (eC (.int 132)) (aKeep (eC (.int 0)) (aKeep (eC (.int 20)) (aNil)))))))))))))))) (sNx)) (sRet (eSlot 1))))
def T__law_draws_of : Def := ⟨[.r], 5, b__law_draws_of⟩

def b__law_nth (phi : String → List D → RC) : SV :=
 sSeq (sIf (tVal (eOp2 opLt (eSlot 1) (eOp1 opLen (eSlot 0)))) (sRet (eOp2 opIx (eSlot 0) (eSlot 1))) (sNx)) (sRet (eOp2 opMod (eOp1 opInt (eOp2 opAdd (eOp2 opMul (eOp2 opIx (eSlot 0) (eOp2 opMod (eSlot 1) (eOp1 opLen (eSlot 0)))) (eC (.int 31))) (eOp2 opMul (eSlot 1) (eC (.int 7919))))) (eC (.int 65521))))
def T__law_nth : Def := ⟨[.r, .r], 2, b__law_nth⟩

def b__law_sign_at (phi : String → List D → RC) : SV :=
 sSeq (sSet 1 (eC (.str " !\"#$&'()*+,-./0123456789:;<=>?@ABCDEFGHIJKLMNOPQRSTUVWXYZ[\\]^_`"))) (sSeq (sSet 1 (eOp2 opAdd (eSlot 1) (eC (.str "abcdefghijklmnopqrstuvwxyz{|}~\n")))) (sRet (eOp2 opIx (eSlot 1) (eOp2 opMod (eOp1 opInt (eSlot 0)) (eC (.int 95))))))
def T__law_sign_at : Def := ⟨[.r], 2, b__law_sign_at⟩

def b__law_refused (phi : String → List D → RC) : SV :=
 sSeq (sTry (subs ["InvalidMark"]) 1 (sExpr (eMake "@Mark" (phi "Mark.__init__") [.v] (aKeep (eSlot 0) (aNil)))) (sSeq (sIf (tOrS (tTru (eOp1 (opXis (subs [])) (eSlot 1))) (tOrS (tNotS (tTru (eOp1 (opXis (subs ["InvalidMark"])) (eSlot 1)))) (tNotS (tTru (eOp1 (opXis (subs ["InvalidMark"])) (eSlot 1)))))) (sRet (eC (.bl false))) (sNx)) (sRet (eAnd (eOp1 (opIsTy "str") (eOp1 (opXf "word") (eSlot 1))) (eOp2 opEq (eOp1 (opXf "word") (eSlot 1)) (eSlot 0)))))) (sRet (eC (.bl false)))
def T__law_refused : Def := ⟨[.v], 2, b__law_refused⟩

def b__law_greatest (phi : String → List D → RC) : SV :=
 sSeq (sSet 1 (eC (.int 0))) (sSeq (sFor [2] (.one 2) (wAny (eSlot 0)) (sIf (tVal (eOp2 opGt (eSlot 2) (eSlot 1))) (sSet 1 (eSlot 2)) (sNx))) (sRet (eSlot 1)))
def T__law_greatest : Def := ⟨[.r], 3, b__law_greatest⟩

def b__law_said (phi : String → List D → RC) : SV :=
 sSeq (sIf (tTru (eSlot 1)) (sRet (eOp2 opIs (eSlot 0) (eC (.bl true)))) (sNx)) (sRet (eOp2 opIs (eSlot 0) (eC (.bl false))))
def T__law_said : Def := ⟨[.r, .r], 2, b__law_said⟩

def b__law_is (phi : String → List D → RC) : SV :=
 sSeq (sSet 2 (eDisp mkLst (aKeep (eC (.str "none")) (aKeep (eC (.str "own")) (aKeep (eC (.str "read")) (aKeep (eC (.str "write")) (aNil))))))) (sSeq (sIf (tOrS (tNotS (tTru (eOp1 (opIsO obAll (subO "@Mark")) (eSlot 0)))) (tOrS (tNotS (tTru (eOp1 (opIsTy "str") (eOp1 (opFld ["@Mark"] "word") (eSlot 0))))) (tVal (eOp2 opNe (eOp1 (opFld ["@Mark"] "word") (eSlot 0)) (eSlot 1))))) (sRet (eC (.bl false))) (sNx)) (sSeq (sSet 3 (eIdxL (eSlot 2) (eSlot 1))) (sSeq (sFor [4, 5] (.one 4) (wR1 (eC (.int 4))) (sSeq (sSet 5 (eMake "@Mark" (phi "Mark.__init__") [.v] (aKeep (eOp2 opIx (eSlot 2) (eSlot 4)) (aNil)))) (sSeq (sIf (tNotS (tTru (eCall (phi "_law_said") [.r, .r] (aCons (eOp2 (opOwn "@Mark" (phi "Mark.__eq__")) (eSlot 0) (eSlot 5)) (aCons (eOp2 opEq (eSlot 3) (eSlot 4)) (aNil)))))) (sRet (eC (.bl false))) (sNx)) (sSeq (sIf (tNotS (tTru (eCall (phi "_law_said") [.r, .r] (aCons (eOp2 (opOwn "@Mark" (phi "Mark.__lt__")) (eSlot 0) (eSlot 5)) (aCons (eOp2 opLt (eSlot 3) (eSlot 4)) (aNil)))))) (sRet (eC (.bl false))) (sNx)) (sIf (tNotS (tTru (eCall (phi "_law_said") [.r, .r] (aCons (eOp2 (opOwn "@Mark" (phi "Mark.__le__")) (eSlot 5) (eSlot 0)) (aCons (eOp2 opLe (eSlot 4) (eSlot 3)) (aNil)))))) (sRet (eC (.bl false))) (sNx)))))) (sRet (eC (.bl true))))))
def T__law_is : Def := ⟨[.r, .v], 6, b__law_is⟩

def b__law_pairs_right (phi : String → List D → RC) : SV :=
 sSeq (sFor [1, 2, 3, 4] (.one 1) (wR1 (eC (.int 4))) (sFor [2, 3, 4] (.one 2) (wR1 (eC (.int 4))) (sSeq (sSet 3 (eMake "@Mark" (phi "Mark.__init__") [.v] (aKeep (eOp2 opIx (eSlot 0) (eSlot 1)) (aNil)))) (sSeq (sSet 4 (eMake "@Mark" (phi "Mark.__init__") [.v] (aKeep (eOp2 opIx (eSlot 0) (eSlot 2)) (aNil)))) (sSeq (sIf (tNotS (tTru (eCall (phi "_law_said") [.r, .r] (aCons (eOp2 (opOwn "@Mark" (phi "Mark.__lt__")) (eSlot 3) (eSlot 4)) (aCons (eOp2 opLt (eSlot 1) (eSlot 2)) (aNil)))))) (sRet (eC (.bl false))) (sNx)) (sSeq (sIf (tNotS (tTru (eCall (phi "_law_said") [.r, .r] (aCons (eOp2 (opOwn "@Mark" (phi "Mark.__le__")) (eSlot 3) (eSlot 4)) (aCons (eOp2 opLe (eSlot 1) (eSlot 2)) (aNil)))))) (sRet (eC (.bl false))) (sNx)) (sSeq (sIf (tOrS (tNotS (tTru (eCall (phi "_law_said") [.r, .r] (aCons (eOp2 (opOwn "@Mark" (phi "Mark.__eq__")) (eSlot 3) (eSlot 4)) (aCons (eOp2 opEq (eSlot 1) (eSlot 2)) (aNil)))))) (tNotS (tTru (eCall (phi "_law_is") [.r, .v] (aCons (eSlot 3) (aKeep (eOp2 opIx (eSlot 0) (eSlot 1)) (aNil))))))) (sRet (eC (.bl false))) (sNx)) (sSeq (sIf (tNotS (tTru (eCall (phi "_law_is") [.r, .v] (aCons (eOwnV "@Mark" (phi "Mark.__or__") (eSlot 3) (eSlot 4)) (aKeep (eOp2 opIx (eSlot 0) (eCall (phi "_law_greatest") [.r] (aCons (eDisp mkLst (aKeep (eSlot 1) (aKeep (eSlot 2) (aNil)))) (aNil)))) (aNil)))))) (sRet (eC (.bl false))) (sNx)) (sIf (tOrS (tNotS (tTru (eCall (phi "_law_is") [.r, .v] (aCons (eSlot 3) (aKeep (eOp2 opIx (eSlot 0) (eSlot 1)) (aNil)))))) (tNotS (tTru (eCall (phi "_law_is") [.r, .v] (aCons (eSlot 4) (aKeep (eOp2 opIx (eSlot 0) (eSlot 2)) (aNil))))))) (sRet (eC (.bl false))) (sNx)))))))))) (sRet (eC (.bl true)))
def T__law_pairs_right : Def := ⟨[.r], 5, b__law_pairs_right⟩

def b__law_many_right (phi : String → List D → RC) : SV :=
 sSeq (sSet 2 (eLc [3] (.one 3) (wAny (eSlot 0)) (tYesS) (eMake "@Mark" (phi "Mark.__init__") [.v] (aKeep (eOp2 opIx (eSlot 1) (eSlot 3)) (aNil))))) (sSeq (sIf (tOrS (tNotS (tTru (eCall (phi "_law_is") [.r, .v] (aCons (eOp1 (opStar (phi "strongest")) (eDisp mkTup (aNil))) (aKeep (eC (.str "none")) (aNil)))))) (tNotS (tTru (eCall (phi "_law_is") [.r, .v] (aCons (eOp1 (opStar (phi "strongest")) (eDisp mkTup (aKeep (eOp2 opIx (eSlot 2) (eC (.int 0))) (aNil)))) (aKeep (eOp2 opIx (eSlot 1) (eOp2 opIx (eSlot 0) (eC (.int 0)))) (aNil))))))) (sRet (eC (.bl false))) (sNx)) (sSeq (sIf (tNotS (tTru (eCall (phi "_law_is") [.r, .v] (aCons (eOp1 (opStar (phi "strongest")) (eDisp mkTup (aKeep (eOp2 opIx (eSlot 2) (eC (.int 0))) (aKeep (eOp2 opIx (eSlot 2) (eC (.int 1))) (aNil))))) (aKeep (eOp2 opIx (eSlot 1) (eCall (phi "_law_greatest") [.r] (aCons (eOp2 opCutHi (eSlot 0) (eI (eC (.int 2)))) (aNil)))) (aNil)))))) (sRet (eC (.bl false))) (sNx)) (sSeq (sIf (tNotS (tTru (eCall (phi "_law_is") [.r, .v] (aCons (eOp1 (opStar (phi "strongest")) (eDisp mkTup (aKeep (eOp2 opIx (eSlot 2) (eC (.int 0))) (aKeep (eOp2 opIx (eSlot 2) (eC (.int 1))) (aKeep (eOp2 opIx (eSlot 2) (eC (.int 2))) (aNil)))))) (aKeep (eOp2 opIx (eSlot 1) (eCall (phi "_law_greatest") [.r] (aCons (eOp2 opCutHi (eSlot 0) (eI (eC (.int 3)))) (aNil)))) (aNil)))))) (sRet (eC (.bl false))) (sNx)) (sSeq (sSet 4 (eOp1 (opStar (phi "strongest")) (eDisp mkTup (aKeep (eOp2 opIx (eSlot 2) (eC (.int 0))) (aKeep (eOp2 opIx (eSlot 2) (eC (.int 1))) (aKeep (eOp2 opIx (eSlot 2) (eC (.int 2))) (aKeep (eOp2 opIx (eSlot 2) (eC (.int 3))) (aKeep (eOp2 opIx (eSlot 2) (eC (.int 4))) (aKeep (eOp2 opIx (eSlot 2) (eC (.int 5))) (aNil)))))))))) (sSeq (sIf (tNotS (tTru (eCall (phi "_law_is") [.r, .v] (aCons (eSlot 4) (aKeep (eOp2 opIx (eSlot 1) (eCall (phi "_law_greatest") [.r] (aCons (eOp2 opCutHi (eSlot 0) (eI (eC (.int 6)))) (aNil)))) (aNil)))))) (sRet (eC (.bl false))) (sNx)) (sSeq (sSet 4 (eOp1 (opStar (phi "strongest")) (eDisp mkTup (aKeep (eOp2 opIx (eSlot 2) (eC (.int 7))) (aKeep (eOp2 opIx (eSlot 2) (eC (.int 6))) (aKeep (eOp2 opIx (eSlot 2) (eC (.int 5))) (aKeep (eOp2 opIx (eSlot 2) (eC (.int 4))) (aKeep (eOp2 opIx (eSlot 2) (eC (.int 3))) (aKeep (eOp2 opIx (eSlot 2) (eC (.int 2))) (aKeep (eOp2 opIx (eSlot 2) (eC (.int 1))) (aKeep (eOp2 opIx (eSlot 2) (eC (.int 0))) (aNil)))))))))))) (sSeq (sIf (tNotS (tTru (eCall (phi "_law_is") [.r, .v] (aCons (eSlot 4) (aKeep (eOp2 opIx (eSlot 1) (eCall (phi "_law_greatest") [.r] (aCons (eSlot 0) (aNil)))) (aNil)))))) (sRet (eC (.bl false))) (sNx)) (sSeq (sFor [5] (.one 5) (wR1 (eC (.int 8))) (sIf (tNotS (tTru (eCall (phi "_law_is") [.r, .v] (aCons (eOp2 opIx (eSlot 2) (eSlot 5)) (aKeep (eOp2 opIx (eSlot 1) (eOp2 opIx (eSlot 0) (eSlot 5))) (aNil)))))) (sRet (eC (.bl false))) (sNx))) (sSeq (sSet 6 (eMake "@Mark" (phi "Mark.__init__") [.v] (aKeep (eC (.str "none")) (aNil)))) (sSeq (sSet 4 (eOp1 (opStar (phi "strongest")) (eDisp mkTup (aKeep (eSlot 6) (aKeep (eSlot 6) (aKeep (eSlot 6) (aKeep (eSlot 6) (aKeep (eSlot 6) (aKeep (eSlot 6) (aKeep (eSlot 6) (aKeep (eSlot 6) (aKeep (eSlot 6) (aKeep (eMake "@Mark" (phi "Mark.__init__") [.v] (aKeep (eC (.str "own")) (aNil))) (aNil)))))))))))))) (sRet (eAnd (eCall (phi "_law_is") [.r, .v] (aCons (eSlot 4) (aKeep (eC (.str "own")) (aNil)))) (eCall (phi "_law_is") [.r, .v] (aCons (eSlot 6) (aKeep (eC (.str "none")) (aNil))))))))))))))))
def T__law_many_right : Def := ⟨[.r, .r], 7, b__law_many_right⟩

def b_law (phi : String → List D → RC) : SV :=
 sSeq (sSet 1 (eCall (phi "_law_draws_of") [.r] (aCons (eSlot 0) (aNil)))) (sSeq (sSet 2 (eDisp mkLst (aKeep (eC (.str "none")) (aKeep (eC (.str "own")) (aKeep (eC (.str "read")) (aKeep (eC (.str "write")) (aNil))))))) (sSeq (sIf (tOrS (tNotS (tTru (eOp1 opIsTupK (eC (.kt (wk_Mark_WORDS.map D.str)))))) (tVal (eOp2 opNeK (eC (.kt (wk_Mark_WORDS.map D.str))) (eDisp mkTup (aKeep (eC (.str "none")) (aKeep (eC (.str "own")) (aKeep (eC (.str "read")) (aKeep (eC (.str "write")) (aNil))))))))) (sRet (eC (.bl false))) (sNx)) (sSeq (sIf (tNotS (tTru (eCall (phi "_law_pairs_right") [.r] (aCons (eSlot 2) (aNil))))) (sRet (eC (.bl false))) (sNx)) (sSeq (sSet 3 (eLc [4] (.one 4) (wR1 (eC (.int 8))) (tYesS) (eOp2 opMod (eOp1 opInt (eCall (phi "_law_nth") [.r, .r] (aCons (eSlot 1) (aCons (eOp2 opAdd (eC (.int 1)) (eSlot 4)) (aNil))))) (eC (.int 4))))) (sSeq (sIf (tNotS (tTru (eCall (phi "_law_many_right") [.r, .r] (aCons (eSlot 3) (aCons (eSlot 2) (aNil)))))) (sRet (eC (.bl false))) (sNx)) (sSeq (sSet 5 (eC (.str ""))) (sSeq (sFor [4] (.one 4) (wR1 (eOp2 opMod (eOp1 opInt (eOp2 opIx (eSlot 1) (eC (.int 1)))) (eC (.int 6)))) (sSet 5 (eOp2 opAdd (eSlot 5) (eCall (phi "_law_sign_at") [.r] (aCons (eCall (phi "_law_nth") [.r, .r] (aCons (eSlot 1) (aCons (eOp2 opAdd (eC (.int 3)) (eSlot 4)) (aNil)))) (aNil)))))) (sSeq (sFor [6] (.one 6) (wAny (eDisp mkLst (aKeep (eC (.str "")) (aKeep (eC (.str "None")) (aKeep (eC (.str "READ")) (aKeep (eC (.str " own")) (aKeep (eC (.str "write ")) (aKeep (eC (.str "rea")) (aKeep (eC (.str "reads")) (aKeep (eC (.str "0")) (aKeep (eC (.str "-")) (aKeep (eSlot 5) (aNil))))))))))))) (sIf (tAndS (tVal (eOp2 opNotIn (eSlot 6) (eSlot 2))) (tNotS (tTru (eCall (phi "_law_refused") [.v] (aKeep (eSlot 6) (aNil)))))) (sRet (eC (.bl false))) (sNx))) (sRet (eC (.bl true)))))))))))
def T_law : Def := ⟨[.v], 7, b_law⟩

def tab : String → Option Def
  | "Mark.__init__" => some T_Mark___init__
  | "Mark.__eq__" => some T_Mark___eq__
  | "Mark.__lt__" => some T_Mark___lt__
  | "Mark.__le__" => some T_Mark___le__
  | "Mark.__or__" => some T_Mark___or__
  | "strongest" => some T_strongest
  | "_law_draws_of" => some T__law_draws_of
  | "_law_nth" => some T__law_nth
  | "_law_sign_at" => some T__law_sign_at
  | "_law_refused" => some T__law_refused
  | "_law_greatest" => some T__law_greatest
  | "_law_said" => some T__law_said
  | "_law_is" => some T__law_is
  | "_law_pairs_right" => some T__law_pairs_right
  | "_law_many_right" => some T__law_many_right
  | "law" => some T_law
  | _ => none
/-! ### the text says these terms -/
def top (i : Nat) : Stmt := PySem.Challenge.pw_letforget_k05_marks_in_order.main.body.getD i (.Pass ⟨0, 0, 0, 0⟩)
def clsB (s : Stmt) (j : Nat) : Stmt := match s with | .ClassDef _ _ _ body _ _ _ _ _ _ _ => body.getD j (.Pass ⟨0, 0, 0, 0⟩) | s => s
abbrev st_InvalidMark : Stmt := clsB (top 3) 0
theorem it_InvalidMark : PySem.S3X.InitTxt (defArgs st_InvalidMark) (defScope st_InvalidMark) (defBody st_InvalidMark) ["word"] := { head := ⟨_, rfl, rfl⟩, body := ⟨_, _, _, _, _, _, _, _, _, rfl, rfl, ⟨⟨_, _, _, _, rfl⟩, trivial⟩⟩, su := rfl, cl := rfl, se := rfl, fl := by decide +kernel, nd := by decide, db := by decide, nc := by decide +kernel, co := rfl, gn := rfl, kd := rfl }
structure Tab (ca : Str → Option Addr) (P : Program) (w : World) (K : PySem.W.Frag) (mg : Str → Option Value) (base : Heap) (k : Nat) (phi : String → List D → RC) : Prop where
  b_super : mg "super" = none
  b_isinstance : mg "isinstance" = none
  b_len : mg "len" = none
  b_int : mg "int" = none
  b_abs : mg "abs" = none
  b_range : mg "range" = none
  b_str : mg "str" = none
  b_tuple : mg "tuple" = none
  xs : XsOk ca K ["word"]
  c_InvalidMark : ClsT ca P K mg "InvalidMark" ["word"]
  is_InvalidStep : IsOwn ca K mg "InvalidStep" (subs [])
  is_KeeperError : IsOwn ca K mg "KeeperError" (subs ["InvalidMark"])
  ib_ValueError : IsBlt ca K mg "ValueError" "ValueError" (subs ["InvalidMark"])
  x_InvalidMark : ExcOf ca K mg "InvalidMark" (subs ["InvalidMark"])
  f_strongest : StarT ca P w K mg base k "strongest" (phi "strongest")
  f__law_draws_of : FnT ca P w K mg base k "_law_draws_of" [.r] (phi "_law_draws_of")
  f__law_nth : FnT ca P w K mg base k "_law_nth" [.r, .r] (phi "_law_nth")
  f__law_sign_at : FnT ca P w K mg base k "_law_sign_at" [.r] (phi "_law_sign_at")
  f__law_refused : FnT ca P w K mg base k "_law_refused" [.v] (phi "_law_refused")
  f__law_greatest : FnT ca P w K mg base k "_law_greatest" [.r] (phi "_law_greatest")
  f__law_said : FnT ca P w K mg base k "_law_said" [.r, .r] (phi "_law_said")
  f__law_is : FnT ca P w K mg base k "_law_is" [.r, .v] (phi "_law_is")
  f__law_pairs_right : FnT ca P w K mg base k "_law_pairs_right" [.r] (phi "_law_pairs_right")
  f__law_many_right : FnT ca P w K mg base k "_law_many_right" [.r, .r] (phi "_law_many_right")
  f_law : FnT ca P w K mg base k "law" [.v] (phi "law")
  ob : ObT ca K obAll
  kc_Mark : KitC ca K mg obAll "Mark" (subO "@Mark")
  fl_word : FldT ca K ["@Mark"] "word"
  fl_rank : FldT ca K ["@Mark"] "rank"
  mk_Mark : MkT ca P w K mg base k "@Mark" "Mark" [.v] (phi "Mark.__init__")
  op_Mark___eq__ : CmpT ca P w K mg base k "@Mark" "__eq__" (phi "Mark.__eq__")
  op_Mark___lt__ : CmpT ca P w K mg base k "@Mark" "__lt__" (phi "Mark.__lt__")
  op_Mark___le__ : CmpT ca P w K mg base k "@Mark" "__le__" (phi "Mark.__le__")
  ov_Mark___or__ : CmpVT ca P w K mg base k "@Mark" "__or__" (phi "Mark.__or__")
  cw_Mark_WORDS : ConW ca K ["@Mark"] "WORDS" wk_Mark_WORDS
  cc_Mark_WORDS : ConC K mg "Mark" "WORDS" wk_Mark_WORDS
section
variable {ca : Str → Option Addr} {P : Program} {w : World} {K : PySem.W.Frag} {mg : Str → Option Value} {base : Heap} {k : Nat} {phi : String → List D → RC}
abbrev st_Mark___init__ : Stmt := clsB (top 5) 1
abbrev N_Mark___init__ : List Str := ["self", "word"]
theorem sc_Mark___init__ : FnScope N_Mark___init__ ["self", "word"] (defScope st_Mark___init__) := ⟨rfl, rfl, rfl, by decide +kernel, rfl, by decide +kernel, by decide +kernel⟩
theorem ok_Mark___init__ {f : Addr} {fd : FuncData} (Fn : L2.Fun K "__init__" "Mark.__init__" st_Mark___init__ f fd) (G : Tab ca P w K mg base k phi) : FnOk P w K mg base (L2.CX P w) (2 * (k + 1)) f fd ["self", "word"] (spOf ⟨P, w, K, ca⟩ T_Mark___init__.ms (T_Mark___init__.run phi)) := by
  refine fn_ok (k := 2 * k + 1) (T := T_Mark___init__) (Nm := N_Mark___init__) Fn sc_Mark___init__ rfl rfl (by decide) fun cdv A outer s H E hr tk po hcd => ?_
  have nd : N_Mark___init__.Nodup := sc_Mark___init__.nd
  show Bv ca _ _ _ (b_Mark___init__ phi)
  unfold b_Mark___init__
  exact bv_cons (sv_if (tv_ninK (ev_slot 1) (ev_con G.cw_Mark_WORDS.con (ev_slot 0))) (bv_one (sv_raise G.c_InvalidMark G.b_super hr tk (av_keep (ev_slot 1) (av_nil)))) (bv_nil))
     (bv_cons (sv_fld G.fl_word (pv 0) (ev_slot 1))
     (bv_one (sv_fld G.fl_rank (pv 0) (ev_idxC G.cw_Mark_WORDS (ev_slot 0) (ev_slot 1)))))

abbrev st_Mark___eq__ : Stmt := clsB (top 5) 2
abbrev N_Mark___eq__ : List Str := ["self", "other"]
theorem sc_Mark___eq__ : FnScope N_Mark___eq__ ["self", "other"] (defScope st_Mark___eq__) := ⟨rfl, rfl, rfl, by decide +kernel, rfl, by decide +kernel, by decide +kernel⟩
theorem ok_Mark___eq__ {f : Addr} {fd : FuncData} (Fn : L2.Fun K "__eq__" "Mark.__eq__" st_Mark___eq__ f fd) (G : Tab ca P w K mg base k phi) : FnOk P w K mg base (L2.CX P w) (2 * (k + 1)) f fd ["self", "other"] (spOf ⟨P, w, K, ca⟩ T_Mark___eq__.ms (T_Mark___eq__.run phi)) := by
  refine fn_ok (k := 2 * k + 1) (T := T_Mark___eq__) (Nm := N_Mark___eq__) Fn sc_Mark___eq__ rfl rfl (by decide) fun cdv A outer s H E hr tk po hcd => ?_
  have nd : N_Mark___eq__.Nodup := sc_Mark___eq__.nd
  show Bv ca _ _ _ (b_Mark___eq__ phi)
  unfold b_Mark___eq__
  exact bv_one (sv_ret (ev_and (ev_isO G.ob G.kc_Mark G.b_isinstance (ev_slot 1)) (ev_one (ev_cmp (op_eqD hr.units) s_eq (ev_fld G.fl_rank (ev_slot 0)) (ev_fld G.fl_rank (ev_slot 1)) (nomark _)))))

abbrev st_Mark___lt__ : Stmt := clsB (top 5) 3
abbrev N_Mark___lt__ : List Str := ["self", "other"]
theorem sc_Mark___lt__ : FnScope N_Mark___lt__ ["self", "other"] (defScope st_Mark___lt__) := ⟨rfl, rfl, rfl, by decide +kernel, rfl, by decide +kernel, by decide +kernel⟩
theorem ok_Mark___lt__ {f : Addr} {fd : FuncData} (Fn : L2.Fun K "__lt__" "Mark.__lt__" st_Mark___lt__ f fd) (G : Tab ca P w K mg base k phi) : FnOk P w K mg base (L2.CX P w) (2 * (k + 1)) f fd ["self", "other"] (spOf ⟨P, w, K, ca⟩ T_Mark___lt__.ms (T_Mark___lt__.run phi)) := by
  refine fn_ok (k := 2 * k + 1) (T := T_Mark___lt__) (Nm := N_Mark___lt__) Fn sc_Mark___lt__ rfl rfl (by decide) fun cdv A outer s H E hr tk po hcd => ?_
  have nd : N_Mark___lt__.Nodup := sc_Mark___lt__.nd
  show Bv ca _ _ _ (b_Mark___lt__ phi)
  unfold b_Mark___lt__
  exact bv_cons (sv_if (tv_not (tv_tru (ev_isO G.ob G.kc_Mark G.b_isinstance (ev_slot 1)))) (bv_one (sv_ret (ev_no))) (bv_nil))
     (bv_one (sv_ret (ev_cmp op_ltA s_lt (ev_fld G.fl_rank (ev_slot 0)) (ev_fld G.fl_rank (ev_slot 1)) (nomark _))))

abbrev st_Mark___le__ : Stmt := clsB (top 5) 4
abbrev N_Mark___le__ : List Str := ["self", "other"]
theorem sc_Mark___le__ : FnScope N_Mark___le__ ["self", "other"] (defScope st_Mark___le__) := ⟨rfl, rfl, rfl, by decide +kernel, rfl, by decide +kernel, by decide +kernel⟩
theorem ok_Mark___le__ {f : Addr} {fd : FuncData} (Fn : L2.Fun K "__le__" "Mark.__le__" st_Mark___le__ f fd) (G : Tab ca P w K mg base k phi) : FnOk P w K mg base (L2.CX P w) (2 * (k + 1)) f fd ["self", "other"] (spOf ⟨P, w, K, ca⟩ T_Mark___le__.ms (T_Mark___le__.run phi)) := by
  refine fn_ok (k := 2 * k + 1) (T := T_Mark___le__) (Nm := N_Mark___le__) Fn sc_Mark___le__ rfl rfl (by decide) fun cdv A outer s H E hr tk po hcd => ?_
  have nd : N_Mark___le__.Nodup := sc_Mark___le__.nd
  show Bv ca _ _ _ (b_Mark___le__ phi)
  unfold b_Mark___le__
  exact bv_cons (sv_if (tv_not (tv_tru (ev_isO G.ob G.kc_Mark G.b_isinstance (ev_slot 1)))) (bv_one (sv_ret (ev_no))) (bv_nil))
     (bv_one (sv_ret (ev_cmp op_leA s_le (ev_fld G.fl_rank (ev_slot 0)) (ev_fld G.fl_rank (ev_slot 1)) (nomark _))))

abbrev st_Mark___or__ : Stmt := clsB (top 5) 5
abbrev N_Mark___or__ : List Str := ["self", "other"]
theorem sc_Mark___or__ : FnScope N_Mark___or__ ["self", "other"] (defScope st_Mark___or__) := ⟨rfl, rfl, rfl, by decide +kernel, rfl, by decide +kernel, by decide +kernel⟩
theorem ok_Mark___or__ {f : Addr} {fd : FuncData} (Fn : L2.Fun K "__or__" "Mark.__or__" st_Mark___or__ f fd) (G : Tab ca P w K mg base k phi) : FnOk P w K mg base (L2.CX P w) (2 * (k + 1)) f fd ["self", "other"] (spOf ⟨P, w, K, ca⟩ T_Mark___or__.ms (T_Mark___or__.run phi)) := by
  refine fn_ok (k := 2 * k + 1) (T := T_Mark___or__) (Nm := N_Mark___or__) Fn sc_Mark___or__ rfl rfl (by decide) fun cdv A outer s H E hr tk po hcd => ?_
  have nd : N_Mark___or__.Nodup := sc_Mark___or__.nd
  show Bv ca _ _ _ (b_Mark___or__ phi)
  unfold b_Mark___or__
  exact bv_cons (sv_if (tv_not (tv_tru (ev_isO G.ob G.kc_Mark G.b_isinstance (ev_slot 1)))) (bv_one (sv_ret (ev_no))) (bv_nil))
     (bv_cons (sv_if (tv_cmp op_ltA s_lt (ev_fld G.fl_rank (ev_slot 0)) (ev_fld G.fl_rank (ev_slot 1)) (nomark _)) (bv_one (sv_ret (ev_slot 1))) (bv_nil))
     (bv_one (sv_ret (ev_slot 0))))

abbrev st_strongest : Stmt := top 6
abbrev N_strongest : List Str := ["marks", "best", "mark"]
theorem sc_strongest : FnScope N_strongest ["marks"] (defScope st_strongest) := ⟨rfl, rfl, rfl, by decide +kernel, rfl, by decide +kernel, by decide +kernel⟩
theorem ok_strongest {f : Addr} {fd : FuncData} (Fn : L2.Fun K "strongest" "strongest" st_strongest f fd) (bd : ∀ rest : List Value, bindArgs fd ⟨rest, []⟩ = do let t ← newTuple rest; pure [("marks", t)]) (G : Tab ca P w K mg base k phi) : FnR P w K mg base (L2.CX P w) (2 * (k + 1)) f (fun vs H Q E => vs.length ≤ sizeLine ∧ ∀ p, H p = none → spOf ⟨P, w, K, ca⟩ [.v] (T_strongest.run phi) [.ref p] (upd H p (.tup vs)) Q E) := by
  refine star_ok (k := 2 * k + 1) (T := T_strongest) (Nm := N_strongest) Fn sc_strongest rfl rfl (by decide) bd fun cdv A outer s H E hr tk po hcd => ?_
  have nd : N_strongest.Nodup := sc_strongest.nd
  show Bv ca _ _ _ (b_strongest phi)
  unfold b_strongest
  exact bv_cons (sv_set 1 nd (ev_make G.mk_Mark hr tk (av_keep (ev_str) (av_nil))))
     (bv_cons (sv_for (tmp := [2]) (tt := .one 2) po rfl (pg_name (i := 2) nd rfl (by first | exact Or.inl rfl | exact Or.inr rfl)) (tg_one) (wv_any (ev_slot 0))
     (bv_one (sv_set 1 nd (ev_binV G.ov_Mark___or__ hr tk (ev_slot 1) (ev_slot 2)))))
     (bv_one (sv_ret (ev_slot 1))))

abbrev st__law_draws_of : Stmt := top 8
abbrev N__law_draws_of : List Str := ["_law_script", "_law_pool", "_law_cell", "_law_left", "_law_k"]
theorem sc__law_draws_of : FnScope N__law_draws_of ["_law_script"] (defScope st__law_draws_of) := ⟨rfl, rfl, rfl, by decide +kernel, rfl, by decide +kernel, by decide +kernel⟩
theorem ok__law_draws_of {f : Addr} {fd : FuncData} (Fn : L2.Fun K "_law_draws_of" "_law_draws_of" st__law_draws_of f fd) (G : Tab ca P w K mg base k phi) : FnOk P w K mg base (L2.CX P w) (2 * (k + 1)) f fd ["_law_script"] (spOf ⟨P, w, K, ca⟩ T__law_draws_of.ms (T__law_draws_of.run phi)) := by
  refine fn_ok (k := 2 * k + 1) (T := T__law_draws_of) (Nm := N__law_draws_of) Fn sc__law_draws_of rfl rfl (by decide) fun cdv A outer s H E hr tk po hcd => ?_
  have nd : N__law_draws_of.Nodup := sc__law_draws_of.nd
  show Bv ca _ _ _ (b__law_draws_of phi)
  unfold b__law_draws_of
  exact bv_cons (sv_set 1 nd (ev_lst (av_nil)))
     (bv_cons (sv_for (tmp := [2, 3, 4]) (tt := .one 2) po rfl (pg_name (i := 2) nd rfl (by first | exact Or.inl rfl | exact Or.inr rfl)) (tg_one) (wv_any (ev_slot 0))
     (bv_one (sv_if (tv_cmp op_ltA s_lt (ev_call1 call_lenA s_len G.b_len (ev_slot 1)) (ev_int) (nomark _)) (bv_cons (sv_set 3 nd (ev_call1 call_abs s_abs G.b_abs (ev_type1 call_int1 s_int G.b_int (ev_slot 2))))
     (bv_one (sv_if (tv_cmp op_ltA s_lt (ev_slot 3) (ev_bin op_pow s_pow (ev_int) (ev_int)) (nomark _)) (bv_one (sv_for (tmp := [4]) (tt := .one 4) po rfl (pg_name (i := 4) nd rfl (by first | exact Or.inl rfl | exact Or.inr rfl)) (tg_one) (wv_r1 G.b_range (ev_int))
     (bv_cons (sv_set 3 nd (ev_bin op_mod s_mod (ev_type1 call_int1 s_int G.b_int (ev_bin op_addA s_add (ev_bin op_addA s_add (ev_bin op_mulA s_mul (ev_slot 3) (ev_int)) (ev_bin op_mulA s_mul (ev_int) (ev_slot 4))) (ev_int))) (ev_int)))
     (bv_one (sv_expr (ev_append (pv 1) (av_keep (ev_slot 3) (av_nil)))))))) (bv_one (sv_for (tmp := [4]) (tt := .one 4) po rfl (pg_name (i := 4) nd rfl (by first | exact Or.inl rfl | exact Or.inr rfl)) (tg_one) (wv_r1 G.b_range (ev_int))
     (bv_one (sv_if (tv_cmp op_gtA s_gt (ev_slot 3) (ev_int) (nomark _)) (bv_cons (sv_expr (ev_append (pv 1) (av_keep (ev_bin op_mod s_mod (ev_type1 call_int1 s_int G.b_int (ev_slot 3)) (ev_int)) (av_nil))))
     (bv_one (sv_set 3 nd (ev_bin op_fdiv s_div (ev_slot 3) (ev_int))))) (bv_nil)))))))) (bv_nil))))
     (bv_cons (sv_if (tv_cmp (op_eqD hr.units) s_eq (ev_slot 1) (ev_lst (av_nil)) (nomark _)) (bv_one (sv_set 1 nd (ev_lst (av_keep (ev_int) (av_keep (ev_int) (av_keep (ev_int) (av_keep (ev_int) (av_keep (ev_int) (av_keep (ev_int) (av_keep (ev_int) (av_keep (ev_int) (av_keep (ev_int) (av_keep (ev_int) (av_keep (ev_int) (av_keep (ev_int) (av_keep (ev_int) (av_nil))))))))))))))))) (bv_nil))
     (bv_one (sv_ret (ev_slot 1)))))

abbrev st__law_nth : Stmt := top 9
abbrev N__law_nth : List Str := ["_law_pool", "_law_k"]
theorem sc__law_nth : FnScope N__law_nth ["_law_pool", "_law_k"] (defScope st__law_nth) := ⟨rfl, rfl, rfl, by decide +kernel, rfl, by decide +kernel, by decide +kernel⟩
theorem ok__law_nth {f : Addr} {fd : FuncData} (Fn : L2.Fun K "_law_nth" "_law_nth" st__law_nth f fd) (G : Tab ca P w K mg base k phi) : FnOk P w K mg base (L2.CX P w) (2 * (k + 1)) f fd ["_law_pool", "_law_k"] (spOf ⟨P, w, K, ca⟩ T__law_nth.ms (T__law_nth.run phi)) := by
  refine fn_ok (k := 2 * k + 1) (T := T__law_nth) (Nm := N__law_nth) Fn sc__law_nth rfl rfl (by decide) fun cdv A outer s H E hr tk po hcd => ?_
  have nd : N__law_nth.Nodup := sc__law_nth.nd
  show Bv ca _ _ _ (b__law_nth phi)
  unfold b__law_nth
  exact bv_cons (sv_if (tv_cmp op_ltA s_lt (ev_slot 1) (ev_call1 call_lenA s_len G.b_len (ev_slot 0)) (nomark _)) (bv_one (sv_ret (ev_ix (ev_slot 0) (ev_slot 1) (hu_of hr)))) (bv_nil))
     (bv_one (sv_ret (ev_bin op_mod s_mod (ev_type1 call_int1 s_int G.b_int (ev_bin op_addA s_add (ev_bin op_mulA s_mul (ev_ix (ev_slot 0) (ev_bin op_mod s_mod (ev_slot 1) (ev_call1 call_lenA s_len G.b_len (ev_slot 0))) (hu_of hr)) (ev_int)) (ev_bin op_mulA s_mul (ev_slot 1) (ev_int)))) (ev_int))))

abbrev st__law_sign_at : Stmt := top 10
abbrev N__law_sign_at : List Str := ["_law_k", "_law_signs"]
theorem sc__law_sign_at : FnScope N__law_sign_at ["_law_k"] (defScope st__law_sign_at) := ⟨rfl, rfl, rfl, by decide +kernel, rfl, by decide +kernel, by decide +kernel⟩
theorem ok__law_sign_at {f : Addr} {fd : FuncData} (Fn : L2.Fun K "_law_sign_at" "_law_sign_at" st__law_sign_at f fd) (G : Tab ca P w K mg base k phi) : FnOk P w K mg base (L2.CX P w) (2 * (k + 1)) f fd ["_law_k"] (spOf ⟨P, w, K, ca⟩ T__law_sign_at.ms (T__law_sign_at.run phi)) := by
  refine fn_ok (k := 2 * k + 1) (T := T__law_sign_at) (Nm := N__law_sign_at) Fn sc__law_sign_at rfl rfl (by decide) fun cdv A outer s H E hr tk po hcd => ?_
  have nd : N__law_sign_at.Nodup := sc__law_sign_at.nd
  show Bv ca _ _ _ (b__law_sign_at phi)
  unfold b__law_sign_at
  exact bv_cons (sv_set 1 nd (ev_str))
     (bv_cons (sv_set 1 nd (ev_bin op_addA s_add (ev_slot 1) (ev_str)))
     (bv_one (sv_ret (ev_ix (ev_slot 1) (ev_bin op_mod s_mod (ev_type1 call_int1 s_int G.b_int (ev_slot 0)) (ev_int)) (hu_of hr)))))

abbrev st__law_refused : Stmt := top 11
abbrev N__law_refused : List Str := ["_law_word", "e"]
theorem sc__law_refused : FnScope N__law_refused ["_law_word"] (defScope st__law_refused) := ⟨rfl, rfl, rfl, by decide +kernel, rfl, by decide +kernel, by decide +kernel⟩
theorem ok__law_refused {f : Addr} {fd : FuncData} (Fn : L2.Fun K "_law_refused" "_law_refused" st__law_refused f fd) (G : Tab ca P w K mg base k phi) : FnOk P w K mg base (L2.CX P w) (2 * (k + 1)) f fd ["_law_word"] (spOf ⟨P, w, K, ca⟩ T__law_refused.ms (T__law_refused.run phi)) := by
  refine fn_ok (k := 2 * k + 1) (T := T__law_refused) (Nm := N__law_refused) Fn sc__law_refused rfl rfl (by decide) fun cdv A outer s H E hr tk po hcd => ?_
  have nd : N__law_refused.Nodup := sc__law_refused.nd
  show Bv ca _ _ _ (b__law_refused phi)
  unfold b__law_refused
  exact bv_cons (sv_tryN 1 rfl rfl nd G.xs G.x_InvalidMark tk (fun W pn xe tk po => bv_one (sv_expr (ev_make G.mk_Mark hr tk (av_keep (ev_slot 0) (av_nil)))))
     (fun a oe cls d pn hz hf => bv_cons (sv_if (tv_w (wv_or (tv_tru (ev_xisO hz hf G.xs G.is_InvalidStep G.b_isinstance (ev_slot 1))) (wv_or (tv_not (tv_tru (ev_xisO hz hf G.xs G.is_KeeperError G.b_isinstance (ev_slot 1)))) (wv_or1 (tv_not (tv_tru (ev_xisB hz hf G.xs G.ib_ValueError G.b_isinstance (ev_slot 1)))))))) (bv_one (sv_ret (ev_bl))) (bv_nil))
     (bv_one (sv_ret (ev_and (ev_isty (T := "str") (s_isty rfl rfl rfl rfl rfl rfl rfl) G.b_isinstance G.b_str (ev_xfF hz hf G.xs (ev_slot 1))) (ev_one (ev_cmp (op_eqD hr.units) s_eq (ev_xfF hz hf G.xs (ev_slot 1)) (ev_slot 0) (nomark _))))))))
     (bv_one (sv_ret (ev_bl)))

abbrev st__law_greatest : Stmt := top 12
abbrev N__law_greatest : List Str := ["_law_places", "_law_best", "_law_place"]
theorem sc__law_greatest : FnScope N__law_greatest ["_law_places"] (defScope st__law_greatest) := ⟨rfl, rfl, rfl, by decide +kernel, rfl, by decide +kernel, by decide +kernel⟩
theorem ok__law_greatest {f : Addr} {fd : FuncData} (Fn : L2.Fun K "_law_greatest" "_law_greatest" st__law_greatest f fd) (G : Tab ca P w K mg base k phi) : FnOk P w K mg base (L2.CX P w) (2 * (k + 1)) f fd ["_law_places"] (spOf ⟨P, w, K, ca⟩ T__law_greatest.ms (T__law_greatest.run phi)) := by
  refine fn_ok (k := 2 * k + 1) (T := T__law_greatest) (Nm := N__law_greatest) Fn sc__law_greatest rfl rfl (by decide) fun cdv A outer s H E hr tk po hcd => ?_
  have nd : N__law_greatest.Nodup := sc__law_greatest.nd
  show Bv ca _ _ _ (b__law_greatest phi)
  unfold b__law_greatest
  exact bv_cons (sv_set 1 nd (ev_int))
     (bv_cons (sv_for (tmp := [2]) (tt := .one 2) po rfl (pg_name (i := 2) nd rfl (by first | exact Or.inl rfl | exact Or.inr rfl)) (tg_one) (wv_any (ev_slot 0))
     (bv_one (sv_if (tv_cmp op_gtA s_gt (ev_slot 2) (ev_slot 1) (nomark _)) (bv_one (sv_set 1 nd (ev_slot 2))) (bv_nil))))
     (bv_one (sv_ret (ev_slot 1))))

abbrev st__law_said : Stmt := top 13
abbrev N__law_said : List Str := ["_law_told", "_law_due"]
theorem sc__law_said : FnScope N__law_said ["_law_told", "_law_due"] (defScope st__law_said) := ⟨rfl, rfl, rfl, by decide +kernel, rfl, by decide +kernel, by decide +kernel⟩
theorem ok__law_said {f : Addr} {fd : FuncData} (Fn : L2.Fun K "_law_said" "_law_said" st__law_said f fd) (G : Tab ca P w K mg base k phi) : FnOk P w K mg base (L2.CX P w) (2 * (k + 1)) f fd ["_law_told", "_law_due"] (spOf ⟨P, w, K, ca⟩ T__law_said.ms (T__law_said.run phi)) := by
  refine fn_ok (k := 2 * k + 1) (T := T__law_said) (Nm := N__law_said) Fn sc__law_said rfl rfl (by decide) fun cdv A outer s H E hr tk po hcd => ?_
  have nd : N__law_said.Nodup := sc__law_said.nd
  show Bv ca _ _ _ (b__law_said phi)
  unfold b__law_said
  exact bv_cons (sv_if (tv_tru (ev_slot 1)) (bv_one (sv_ret (ev_cmp op_isA s_is (ev_slot 0) (ev_bl) (nomark _)))) (bv_nil))
     (bv_one (sv_ret (ev_cmp op_isA s_is (ev_slot 0) (ev_bl) (nomark _))))

abbrev st__law_is : Stmt := top 14
abbrev N__law_is : List Str := ["_law_mark", "_law_word", "_law_words", "_law_rank", "_law_k", "_law_other"]
theorem sc__law_is : FnScope N__law_is ["_law_mark", "_law_word"] (defScope st__law_is) := ⟨rfl, rfl, rfl, by decide +kernel, rfl, by decide +kernel, by decide +kernel⟩
theorem ok__law_is {f : Addr} {fd : FuncData} (Fn : L2.Fun K "_law_is" "_law_is" st__law_is f fd) (G : Tab ca P w K mg base k phi) : FnOk P w K mg base (L2.CX P w) (2 * (k + 1)) f fd ["_law_mark", "_law_word"] (spOf ⟨P, w, K, ca⟩ T__law_is.ms (T__law_is.run phi)) := by
  refine fn_ok (k := 2 * k + 1) (T := T__law_is) (Nm := N__law_is) Fn sc__law_is rfl rfl (by decide) fun cdv A outer s H E hr tk po hcd => ?_
  have nd : N__law_is.Nodup := sc__law_is.nd
  show Bv ca _ _ _ (b__law_is phi)
  unfold b__law_is
  exact bv_cons (sv_set 2 nd (ev_lst (av_keep (ev_str) (av_keep (ev_str) (av_keep (ev_str) (av_keep (ev_str) (av_nil)))))))
     (bv_cons (sv_if (tv_w (wv_or (tv_not (tv_tru (ev_isO G.ob G.kc_Mark G.b_isinstance (ev_slot 0)))) (wv_or (tv_not (tv_tru (ev_isty (T := "str") (s_isty rfl rfl rfl rfl rfl rfl rfl) G.b_isinstance G.b_str (ev_fld G.fl_word (ev_slot 0))))) (wv_or1 (tv_cmp (op_neD hr.units) s_ne (ev_fld G.fl_word (ev_slot 0)) (ev_slot 1) (nomark _)))))) (bv_one (sv_ret (ev_bl))) (bv_nil))
     (bv_cons (sv_set 3 nd (ev_idxL (ev_slot 2) (ev_slot 1)))
     (bv_cons (sv_for (tmp := [4, 5]) (tt := .one 4) po rfl (pg_name (i := 4) nd rfl (by first | exact Or.inl rfl | exact Or.inr rfl)) (tg_one) (wv_r1 G.b_range (ev_int))
     (bv_cons (sv_set 5 nd (ev_make G.mk_Mark hr tk (av_keep (ev_ix (ev_slot 2) (ev_slot 4) (hu_of hr)) (av_nil))))
     (bv_cons (sv_if (tv_not (tv_tru (ev_call G.f__law_said hr tk (av_cons (ev_cmpO G.op_Mark___eq__ hr (ev_slot 0) (ev_slot 5) (nomark _)) (av_cons (ev_cmp (op_eqD hr.units) s_eq (ev_slot 3) (ev_slot 4) (nomark _)) (av_nil)))))) (bv_one (sv_ret (ev_bl))) (bv_nil))
     (bv_cons (sv_if (tv_not (tv_tru (ev_call G.f__law_said hr tk (av_cons (ev_cmpO G.op_Mark___lt__ hr (ev_slot 0) (ev_slot 5) (nomark _)) (av_cons (ev_cmp op_ltA s_lt (ev_slot 3) (ev_slot 4) (nomark _)) (av_nil)))))) (bv_one (sv_ret (ev_bl))) (bv_nil))
     (bv_one (sv_if (tv_not (tv_tru (ev_call G.f__law_said hr tk (av_cons (ev_cmpO G.op_Mark___le__ hr (ev_slot 5) (ev_slot 0) (nomark _)) (av_cons (ev_cmp op_leA s_le (ev_slot 4) (ev_slot 3) (nomark _)) (av_nil)))))) (bv_one (sv_ret (ev_bl))) (bv_nil)))))))
     (bv_one (sv_ret (ev_bl))))))

abbrev st__law_pairs_right : Stmt := top 15
abbrev N__law_pairs_right : List Str := ["_law_words", "_law_i", "_law_j", "_law_one", "_law_two"]
theorem sc__law_pairs_right : FnScope N__law_pairs_right ["_law_words"] (defScope st__law_pairs_right) := ⟨rfl, rfl, rfl, by decide +kernel, rfl, by decide +kernel, by decide +kernel⟩
theorem ok__law_pairs_right {f : Addr} {fd : FuncData} (Fn : L2.Fun K "_law_pairs_right" "_law_pairs_right" st__law_pairs_right f fd) (G : Tab ca P w K mg base k phi) : FnOk P w K mg base (L2.CX P w) (2 * (k + 1)) f fd ["_law_words"] (spOf ⟨P, w, K, ca⟩ T__law_pairs_right.ms (T__law_pairs_right.run phi)) := by
  refine fn_ok (k := 2 * k + 1) (T := T__law_pairs_right) (Nm := N__law_pairs_right) Fn sc__law_pairs_right rfl rfl (by decide) fun cdv A outer s H E hr tk po hcd => ?_
  have nd : N__law_pairs_right.Nodup := sc__law_pairs_right.nd
  show Bv ca _ _ _ (b__law_pairs_right phi)
  unfold b__law_pairs_right
  exact bv_cons (sv_for (tmp := [1, 2, 3, 4]) (tt := .one 1) po rfl (pg_name (i := 1) nd rfl (by first | exact Or.inl rfl | exact Or.inr rfl)) (tg_one) (wv_r1 G.b_range (ev_int))
     (bv_one (sv_for (tmp := [2, 3, 4]) (tt := .one 2) po rfl (pg_name (i := 2) nd rfl (by first | exact Or.inl rfl | exact Or.inr rfl)) (tg_one) (wv_r1 G.b_range (ev_int))
     (bv_cons (sv_set 3 nd (ev_make G.mk_Mark hr tk (av_keep (ev_ix (ev_slot 0) (ev_slot 1) (hu_of hr)) (av_nil))))
     (bv_cons (sv_set 4 nd (ev_make G.mk_Mark hr tk (av_keep (ev_ix (ev_slot 0) (ev_slot 2) (hu_of hr)) (av_nil))))
     (bv_cons (sv_if (tv_not (tv_tru (ev_call G.f__law_said hr tk (av_cons (ev_cmpO G.op_Mark___lt__ hr (ev_slot 3) (ev_slot 4) (nomark _)) (av_cons (ev_cmp op_ltA s_lt (ev_slot 1) (ev_slot 2) (nomark _)) (av_nil)))))) (bv_one (sv_ret (ev_bl))) (bv_nil))
     (bv_cons (sv_if (tv_not (tv_tru (ev_call G.f__law_said hr tk (av_cons (ev_cmpO G.op_Mark___le__ hr (ev_slot 3) (ev_slot 4) (nomark _)) (av_cons (ev_cmp op_leA s_le (ev_slot 1) (ev_slot 2) (nomark _)) (av_nil)))))) (bv_one (sv_ret (ev_bl))) (bv_nil))
     (bv_cons (sv_if (tv_w (wv_or (tv_not (tv_tru (ev_call G.f__law_said hr tk (av_cons (ev_cmpO G.op_Mark___eq__ hr (ev_slot 3) (ev_slot 4) (nomark _)) (av_cons (ev_cmp (op_eqD hr.units) s_eq (ev_slot 1) (ev_slot 2) (nomark _)) (av_nil)))))) (wv_or1 (tv_not (tv_tru (ev_call G.f__law_is hr tk (av_cons (ev_slot 3) (av_keep (ev_ix (ev_slot 0) (ev_slot 1) (hu_of hr)) (av_nil))))))))) (bv_one (sv_ret (ev_bl))) (bv_nil))
     (bv_cons (sv_if (tv_not (tv_tru (ev_call G.f__law_is hr tk (av_cons (ev_binV G.ov_Mark___or__ hr tk (ev_slot 3) (ev_slot 4)) (av_keep (ev_ix (ev_slot 0) (ev_call G.f__law_greatest hr tk (av_cons (ev_lst (av_keep (ev_slot 1) (av_keep (ev_slot 2) (av_nil)))) (av_nil))) (hu_of hr)) (av_nil)))))) (bv_one (sv_ret (ev_bl))) (bv_nil))
     (bv_one (sv_if (tv_w (wv_or (tv_not (tv_tru (ev_call G.f__law_is hr tk (av_cons (ev_slot 3) (av_keep (ev_ix (ev_slot 0) (ev_slot 1) (hu_of hr)) (av_nil)))))) (wv_or1 (tv_not (tv_tru (ev_call G.f__law_is hr tk (av_cons (ev_slot 4) (av_keep (ev_ix (ev_slot 0) (ev_slot 2) (hu_of hr)) (av_nil))))))))) (bv_one (sv_ret (ev_bl))) (bv_nil))))))))))))
     (bv_one (sv_ret (ev_bl)))

abbrev st__law_many_right : Stmt := top 16
abbrev N__law_many_right : List Str := ["_law_places", "_law_words", "_law_m", "_law_place", "_law_told", "_law_k", "_law_weak"]
theorem sc__law_many_right : FnScope N__law_many_right ["_law_places", "_law_words"] (defScope st__law_many_right) := ⟨rfl, rfl, rfl, by decide +kernel, rfl, by decide +kernel, by decide +kernel⟩
theorem ok__law_many_right {f : Addr} {fd : FuncData} (Fn : L2.Fun K "_law_many_right" "_law_many_right" st__law_many_right f fd) (G : Tab ca P w K mg base k phi) : FnOk P w K mg base (L2.CX P w) (2 * (k + 1)) f fd ["_law_places", "_law_words"] (spOf ⟨P, w, K, ca⟩ T__law_many_right.ms (T__law_many_right.run phi)) := by
  refine fn_ok (k := 2 * k + 1) (T := T__law_many_right) (Nm := N__law_many_right) Fn sc__law_many_right rfl rfl (by decide) fun cdv A outer s H E hr tk po hcd => ?_
  have nd : N__law_many_right.Nodup := sc__law_many_right.nd
  show Bv ca _ _ _ (b__law_many_right phi)
  unfold b__law_many_right
  exact bv_cons (sv_setLc (own := [("_law_place", 3)]) 2 rfl nd rfl (sw_true rfl rfl rfl (by decide +kernel)) (wv_any (ev_slot 0)) (blkOk_by (own := [("_law_place", 3)]) (N := N__law_many_right) (sc := defScope st__law_many_right) (by decide +kernel)) (tg_one) (by decide) (fun _ _ _ _ _ => pg_name (i := 3) nd rfl (by first | exact Or.inl rfl | exact Or.inr rfl)) (fun _ _ _ _ _ => ptv_nil) (fun _ _ _ _ _ => ev_make G.mk_Mark hr takes0 (av_keep (ev_ix (ev_slot 1) (ev_slot 3) (hu_of hr)) (av_nil))))
     (bv_cons (sv_if (tv_w (wv_or (tv_not (tv_tru (ev_call G.f__law_is hr tk (av_cons (ev_star0 G.f_strongest hr) (av_keep (ev_str) (av_nil)))))) (wv_or1 (tv_not (tv_tru (ev_call G.f__law_is hr tk (av_cons (ev_star G.f_strongest hr (av_keep (ev_ix (ev_slot 2) (ev_int) (hu_of hr)) (av_nil))) (av_keep (ev_ix (ev_slot 1) (ev_ix (ev_slot 0) (ev_int) (hu_of hr)) (hu_of hr)) (av_nil))))))))) (bv_one (sv_ret (ev_bl))) (bv_nil))
     (bv_cons (sv_if (tv_not (tv_tru (ev_call G.f__law_is hr tk (av_cons (ev_star G.f_strongest hr (av_keep (ev_ix (ev_slot 2) (ev_int) (hu_of hr)) (av_keep (ev_ix (ev_slot 2) (ev_int) (hu_of hr)) (av_nil)))) (av_keep (ev_ix (ev_slot 1) (ev_call G.f__law_greatest hr tk (av_cons (ev_cutHi (ev_slot 0) (ev_int)) (av_nil))) (hu_of hr)) (av_nil)))))) (bv_one (sv_ret (ev_bl))) (bv_nil))
     (bv_cons (sv_if (tv_not (tv_tru (ev_call G.f__law_is hr tk (av_cons (ev_star G.f_strongest hr (av_keep (ev_ix (ev_slot 2) (ev_int) (hu_of hr)) (av_keep (ev_ix (ev_slot 2) (ev_int) (hu_of hr)) (av_keep (ev_ix (ev_slot 2) (ev_int) (hu_of hr)) (av_nil))))) (av_keep (ev_ix (ev_slot 1) (ev_call G.f__law_greatest hr tk (av_cons (ev_cutHi (ev_slot 0) (ev_int)) (av_nil))) (hu_of hr)) (av_nil)))))) (bv_one (sv_ret (ev_bl))) (bv_nil))
     (bv_cons (sv_set 4 nd (ev_star G.f_strongest hr (av_keep (ev_ix (ev_slot 2) (ev_int) (hu_of hr)) (av_keep (ev_ix (ev_slot 2) (ev_int) (hu_of hr)) (av_keep (ev_ix (ev_slot 2) (ev_int) (hu_of hr)) (av_keep (ev_ix (ev_slot 2) (ev_int) (hu_of hr)) (av_keep (ev_ix (ev_slot 2) (ev_int) (hu_of hr)) (av_keep (ev_ix (ev_slot 2) (ev_int) (hu_of hr)) (av_nil)))))))))
     (bv_cons (sv_if (tv_not (tv_tru (ev_call G.f__law_is hr tk (av_cons (ev_slot 4) (av_keep (ev_ix (ev_slot 1) (ev_call G.f__law_greatest hr tk (av_cons (ev_cutHi (ev_slot 0) (ev_int)) (av_nil))) (hu_of hr)) (av_nil)))))) (bv_one (sv_ret (ev_bl))) (bv_nil))
     (bv_cons (sv_set 4 nd (ev_star G.f_strongest hr (av_keep (ev_ix (ev_slot 2) (ev_int) (hu_of hr)) (av_keep (ev_ix (ev_slot 2) (ev_int) (hu_of hr)) (av_keep (ev_ix (ev_slot 2) (ev_int) (hu_of hr)) (av_keep (ev_ix (ev_slot 2) (ev_int) (hu_of hr)) (av_keep (ev_ix (ev_slot 2) (ev_int) (hu_of hr)) (av_keep (ev_ix (ev_slot 2) (ev_int) (hu_of hr)) (av_keep (ev_ix (ev_slot 2) (ev_int) (hu_of hr)) (av_keep (ev_ix (ev_slot 2) (ev_int) (hu_of hr)) (av_nil)))))))))))
     (bv_cons (sv_if (tv_not (tv_tru (ev_call G.f__law_is hr tk (av_cons (ev_slot 4) (av_keep (ev_ix (ev_slot 1) (ev_call G.f__law_greatest hr tk (av_cons (ev_slot 0) (av_nil))) (hu_of hr)) (av_nil)))))) (bv_one (sv_ret (ev_bl))) (bv_nil))
     (bv_cons (sv_for (tmp := [5]) (tt := .one 5) po rfl (pg_name (i := 5) nd rfl (by first | exact Or.inl rfl | exact Or.inr rfl)) (tg_one) (wv_r1 G.b_range (ev_int))
     (bv_one (sv_if (tv_not (tv_tru (ev_call G.f__law_is hr tk (av_cons (ev_ix (ev_slot 2) (ev_slot 5) (hu_of hr)) (av_keep (ev_ix (ev_slot 1) (ev_ix (ev_slot 0) (ev_slot 5) (hu_of hr)) (hu_of hr)) (av_nil)))))) (bv_one (sv_ret (ev_bl))) (bv_nil))))
     (bv_cons (sv_set 6 nd (ev_make G.mk_Mark hr tk (av_keep (ev_str) (av_nil))))
     (bv_cons (sv_set 4 nd (ev_star G.f_strongest hr (av_keep (ev_slot 6) (av_keep (ev_slot 6) (av_keep (ev_slot 6) (av_keep (ev_slot 6) (av_keep (ev_slot 6) (av_keep (ev_slot 6) (av_keep (ev_slot 6) (av_keep (ev_slot 6) (av_keep (ev_slot 6) (av_keep (ev_make G.mk_Mark hr tk (av_keep (ev_str) (av_nil))) (av_nil)))))))))))))
     (bv_one (sv_ret (ev_and (ev_call G.f__law_is hr tk (av_cons (ev_slot 4) (av_keep (ev_str) (av_nil)))) (ev_one (ev_call G.f__law_is hr tk (av_cons (ev_slot 6) (av_keep (ev_str) (av_nil))))))))))))))))))

abbrev st_law : Stmt := top 17
abbrev N_law : List Str := ["_law_script", "_law_pool", "_law_words", "_law_places", "_law_k", "_law_text", "_law_word"]
theorem sc_law : FnScope N_law ["_law_script"] (defScope st_law) := ⟨rfl, rfl, rfl, by decide +kernel, rfl, by decide +kernel, by decide +kernel⟩
theorem ok_law {f : Addr} {fd : FuncData} (Fn : L2.Fun K "law" "law" st_law f fd) (G : Tab ca P w K mg base k phi) : FnOk P w K mg base (L2.CX P w) (2 * (k + 1)) f fd ["_law_script"] (spOf ⟨P, w, K, ca⟩ T_law.ms (T_law.run phi)) := by
  refine fn_ok (k := 2 * k + 1) (T := T_law) (Nm := N_law) Fn sc_law rfl rfl (by decide) fun cdv A outer s H E hr tk po hcd => ?_
  have nd : N_law.Nodup := sc_law.nd
  show Bv ca _ _ _ (b_law phi)
  unfold b_law
  exact bv_cons (sv_set 1 nd (ev_call G.f__law_draws_of hr tk (av_cons (ev_slot 0) (av_nil))))
     (bv_cons (sv_set 2 nd (ev_lst (av_keep (ev_str) (av_keep (ev_str) (av_keep (ev_str) (av_keep (ev_str) (av_nil)))))))
     (bv_cons (sv_if (tv_w (wv_or (tv_not (tv_tru (ev_isty (T := "tuple") s_isTupK G.b_isinstance G.b_tuple (ev_cval G.cc_Mark_WORDS)))) (wv_or1 (tv_cmp (op_neD hr.units) s_neK (ev_cval G.cc_Mark_WORDS) (ev_tup (av_keep (ev_str) (av_keep (ev_str) (av_keep (ev_str) (av_keep (ev_str) (av_nil)))))) (nomark _))))) (bv_one (sv_ret (ev_bl))) (bv_nil))
     (bv_cons (sv_if (tv_not (tv_tru (ev_call G.f__law_pairs_right hr tk (av_cons (ev_slot 2) (av_nil))))) (bv_one (sv_ret (ev_bl))) (bv_nil))
     (bv_cons (sv_setLc (own := [("_law_k", 4)]) 3 rfl nd rfl (sw_true rfl rfl rfl (by decide +kernel)) (wv_r1 G.b_range (ev_int)) (blkOk_by (own := [("_law_k", 4)]) (N := N_law) (sc := defScope st_law) (by decide +kernel)) (tg_one) (by decide) (fun _ _ _ _ _ => pg_name (i := 4) nd rfl (by first | exact Or.inl rfl | exact Or.inr rfl)) (fun _ _ _ _ _ => ptv_nil) (fun _ _ _ _ _ => ev_bin op_mod s_mod (ev_type1 call_int1 s_int G.b_int (ev_call G.f__law_nth hr takes0 (av_cons (ev_slot 1) (av_cons (ev_bin op_addA s_add (ev_int) (ev_slot 4)) (av_nil))))) (ev_int)))
     (bv_cons (sv_if (tv_not (tv_tru (ev_call G.f__law_many_right hr tk (av_cons (ev_slot 3) (av_cons (ev_slot 2) (av_nil)))))) (bv_one (sv_ret (ev_bl))) (bv_nil))
     (bv_cons (sv_set 5 nd (ev_str))
     (bv_cons (sv_for (tmp := [4]) (tt := .one 4) po rfl (pg_name (i := 4) nd rfl (by first | exact Or.inl rfl | exact Or.inr rfl)) (tg_one) (wv_r1 G.b_range (ev_bin op_mod s_mod (ev_type1 call_int1 s_int G.b_int (ev_ix (ev_slot 1) (ev_int) (hu_of hr))) (ev_int)))
     (bv_one (sv_set 5 nd (ev_bin op_addA s_add (ev_slot 5) (ev_call G.f__law_sign_at hr tk (av_cons (ev_call G.f__law_nth hr tk (av_cons (ev_slot 1) (av_cons (ev_bin op_addA s_add (ev_int) (ev_slot 4)) (av_nil)))) (av_nil)))))))
     (bv_cons (sv_for (tmp := [6]) (tt := .one 6) po rfl (pg_name (i := 6) nd rfl (by first | exact Or.inl rfl | exact Or.inr rfl)) (tg_one) (wv_any (ev_lst (av_keep (ev_str) (av_keep (ev_str) (av_keep (ev_str) (av_keep (ev_str) (av_keep (ev_str) (av_keep (ev_str) (av_keep (ev_str) (av_keep (ev_str) (av_keep (ev_str) (av_keep (ev_slot 5) (av_nil)))))))))))))
     (bv_one (sv_if (tv_w (wv_and (tv_cmp (op_ninA (u65 hr)) s_nin (ev_slot 6) (ev_slot 2) (by rfl)) (wv_and1 (tv_not (tv_tru (ev_call G.f__law_refused hr tk (av_keep (ev_slot 6) (av_nil)))))))) (bv_one (sv_ret (ev_bl))) (bv_nil))))
     (bv_one (sv_ret (ev_bl)))))))))))

end
/-! ### the top, the law's end -/
set_option maxHeartbeats 0 in
theorem all_mk {l : PySem.W.OpenLaw} {w : World} {K : PySem.W.Frag} {h : Heap} {mg : Str → Option Value} {fa : Addr} (X : K.In h) (G : h.Ns mainGlobals mg) (hfa : mg "law" = some (.ref fa)) (sol : ∀ ns : List Int, ns.length ≤ 63 → sem tab 40 "law" [.scr (ns.map .int)] = .ok false (.bl true) []) 
    {od0 an0 : Option Addr} {sl0 : Array (Option Value)} {oc0 kV0 dc0 pm0 cd0 ct0 : Value} {f0 : Addr}
    {od1 an1 : Option Addr} {sl1 : Array (Option Value)} {oc1 kV1 dc1 pm1 cd1 ct1 : Value} {f1 : Addr}
    {od2 an2 : Option Addr} {sl2 : Array (Option Value)} {oc2 kV2 dc2 pm2 cd2 ct2 : Value} {f2 : Addr}
    {od3 an3 : Option Addr} {sl3 : Array (Option Value)} {oc3 kV3 dc3 pm3 cd3 ct3 : Value} {f3 : Addr}
    {od4 an4 : Option Addr} {sl4 : Array (Option Value)} {oc4 kV4 dc4 pm4 cd4 ct4 : Value} {f4 : Addr}
    {od5 an5 : Option Addr} {sl5 : Array (Option Value)} {oc5 kV5 dc5 pm5 cd5 ct5 : Value} {f5 : Addr}
    {od6 an6 : Option Addr} {sl6 : Array (Option Value)} {oc6 kV6 dc6 pm6 cd6 ct6 : Value} {f6 : Addr}
    {od7 an7 : Option Addr} {sl7 : Array (Option Value)} {oc7 kV7 dc7 pm7 cd7 ct7 : Value} {f7 : Addr}
    {od8 an8 : Option Addr} {sl8 : Array (Option Value)} {oc8 kV8 dc8 pm8 cd8 ct8 : Value} {f8 : Addr}
    {od9 an9 : Option Addr} {sl9 : Array (Option Value)} {oc9 kV9 dc9 pm9 cd9 ct9 : Value} {f9 : Addr}
    {od10 an10 : Option Addr} {sl10 : Array (Option Value)} {oc10 kV10 dc10 pm10 cd10 ct10 : Value} {f10 : Addr}
    {od11 an11 : Option Addr} {sl11 : Array (Option Value)} {oc11 kV11 dc11 pm11 cd11 ct11 : Value} {f11 : Addr}
    {od12 an12 : Option Addr} {sl12 : Array (Option Value)} {oc12 kV12 dc12 pm12 cd12 ct12 : Value} {f12 : Addr}
    {od13 an13 : Option Addr} {sl13 : Array (Option Value)} {oc13 kV13 dc13 pm13 cd13 ct13 : Value} {f13 : Addr}
    {od14 an14 : Option Addr} {sl14 : Array (Option Value)} {oc14 kV14 dc14 pm14 cd14 ct14 : Value} {f14 : Addr}
    {od15 an15 : Option Addr} {sl15 : Array (Option Value)} {oc15 kV15 dc15 pm15 cd15 ct15 : Value} {f15 : Addr}
    {C_Mark : Addr}
    {wp_Mark_WORDS : Addr} {wi_Mark_WORDS : Array Value} {wn_Mark_WORDS : Nat} {ws_Mark_WORDS : Array (Option Value)}
    {C_InvalidMark : Addr}
    {C_InvalidStep : Addr}
    {C_KeeperError : Addr}
    {nm_InvalidMark qn_InvalidMark : Str} {N_InvalidMark fI_InvalidMark cc_InvalidMark cda_InvalidMark : Addr} {bs_InvalidMark bm_InvalidMark : List Value} {sn_InvalidMark : List Str} {sb_InvalidMark : List Value} {ab_InvalidMark : Bool} {col_InvalidMark : Option Bool} {dd_InvalidMark : Option Addr} {k0_InvalidMark k1_InvalidMark k2_InvalidMark k3_InvalidMark k5_InvalidMark : Option Value}
    {ioc_InvalidMark ikV_InvalidMark idc_InvalidMark ipm_InvalidMark ict_InvalidMark gcl_InvalidMark hcl_InvalidMark : Value} {iod_InvalidMark ian_InvalidMark gcd_InvalidMark hcd_InvalidMark : Option Addr} {isl_InvalidMark gsl_InvalidMark hsl_InvalidMark : Array (Option Value)} {vs_InvalidMark : Array Value} {file_InvalidMark : Str} {tf_InvalidMark : Tok}
    (z_super : PySem.W.nsIn K mainGlobals "super" = some none)
    (z_isinstance : PySem.W.nsIn K mainGlobals "isinstance" = some none)
    (z_len : PySem.W.nsIn K mainGlobals "len" = some none)
    (z_int : PySem.W.nsIn K mainGlobals "int" = some none)
    (z_abs : PySem.W.nsIn K mainGlobals "abs" = some none)
    (z_range : PySem.W.nsIn K mainGlobals "range" = some none)
    (z_str : PySem.W.nsIn K mainGlobals "str" = some none)
    (z_tuple : PySem.W.nsIn K mainGlobals "tuple" = some none)
    (na_Mark : PySem.W.nsIn K mainGlobals "Mark" = some (some (.ref C_Mark)))
    (a0 : PySem.W.findIn K (.ref C_Mark) "__init__" = some (some (.ref f0)))
    (l0 : K.lookup f0 = some ⟨oc0, od0, .func (PySem.W.fnOf "__init__" "Mark.__init__" (defArgs st_Mark___init__) (defBody st_Mark___init__) (defScope st_Mark___init__) .none kV0 dc0 pm0 an0 cd0 ct0), sl0⟩)
    (d0 : PySem.W.codeIn K cd0 "Mark.__init__" = true)
    (k0 : PySem.W.keepIn K (.ref f0) = true)
    (a1 : PySem.W.findIn K (.ref C_Mark) "__eq__" = some (some (.ref f1)))
    (l1 : K.lookup f1 = some ⟨oc1, od1, .func (PySem.W.fnOf "__eq__" "Mark.__eq__" (defArgs st_Mark___eq__) (defBody st_Mark___eq__) (defScope st_Mark___eq__) .none kV1 dc1 pm1 an1 cd1 ct1), sl1⟩)
    (d1 : PySem.W.codeIn K cd1 "Mark.__eq__" = true)
    (k1 : PySem.W.keepIn K (.ref f1) = true)
    (a2 : PySem.W.findIn K (.ref C_Mark) "__lt__" = some (some (.ref f2)))
    (l2 : K.lookup f2 = some ⟨oc2, od2, .func (PySem.W.fnOf "__lt__" "Mark.__lt__" (defArgs st_Mark___lt__) (defBody st_Mark___lt__) (defScope st_Mark___lt__) .none kV2 dc2 pm2 an2 cd2 ct2), sl2⟩)
    (d2 : PySem.W.codeIn K cd2 "Mark.__lt__" = true)
    (k2 : PySem.W.keepIn K (.ref f2) = true)
    (a3 : PySem.W.findIn K (.ref C_Mark) "__le__" = some (some (.ref f3)))
    (l3 : K.lookup f3 = some ⟨oc3, od3, .func (PySem.W.fnOf "__le__" "Mark.__le__" (defArgs st_Mark___le__) (defBody st_Mark___le__) (defScope st_Mark___le__) .none kV3 dc3 pm3 an3 cd3 ct3), sl3⟩)
    (d3 : PySem.W.codeIn K cd3 "Mark.__le__" = true)
    (k3 : PySem.W.keepIn K (.ref f3) = true)
    (a4 : PySem.W.findIn K (.ref C_Mark) "__or__" = some (some (.ref f4)))
    (l4 : K.lookup f4 = some ⟨oc4, od4, .func (PySem.W.fnOf "__or__" "Mark.__or__" (defArgs st_Mark___or__) (defBody st_Mark___or__) (defScope st_Mark___or__) .none kV4 dc4 pm4 an4 cd4 ct4), sl4⟩)
    (d4 : PySem.W.codeIn K cd4 "Mark.__or__" = true)
    (k4 : PySem.W.keepIn K (.ref f4) = true)
    (a5 : PySem.W.nsIn K mainGlobals "strongest" = some (some (.ref f5)))
    (l5 : K.lookup f5 = some ⟨oc5, od5, .func (PySem.W.fnOf "strongest" "strongest" (defArgs st_strongest) (defBody st_strongest) (defScope st_strongest) .none kV5 dc5 pm5 an5 cd5 ct5), sl5⟩)
    (d5 : PySem.W.codeIn K cd5 "strongest" = true)
    (k5 : PySem.W.keepIn K (.ref f5) = true)
    (a6 : PySem.W.nsIn K mainGlobals "_law_draws_of" = some (some (.ref f6)))
    (l6 : K.lookup f6 = some ⟨oc6, od6, .func (PySem.W.fnOf "_law_draws_of" "_law_draws_of" (defArgs st__law_draws_of) (defBody st__law_draws_of) (defScope st__law_draws_of) .none kV6 dc6 pm6 an6 cd6 ct6), sl6⟩)
    (d6 : PySem.W.codeIn K cd6 "_law_draws_of" = true)
    (k6 : PySem.W.keepIn K (.ref f6) = true)
    (a7 : PySem.W.nsIn K mainGlobals "_law_nth" = some (some (.ref f7)))
    (l7 : K.lookup f7 = some ⟨oc7, od7, .func (PySem.W.fnOf "_law_nth" "_law_nth" (defArgs st__law_nth) (defBody st__law_nth) (defScope st__law_nth) .none kV7 dc7 pm7 an7 cd7 ct7), sl7⟩)
    (d7 : PySem.W.codeIn K cd7 "_law_nth" = true)
    (k7 : PySem.W.keepIn K (.ref f7) = true)
    (a8 : PySem.W.nsIn K mainGlobals "_law_sign_at" = some (some (.ref f8)))
    (l8 : K.lookup f8 = some ⟨oc8, od8, .func (PySem.W.fnOf "_law_sign_at" "_law_sign_at" (defArgs st__law_sign_at) (defBody st__law_sign_at) (defScope st__law_sign_at) .none kV8 dc8 pm8 an8 cd8 ct8), sl8⟩)
    (d8 : PySem.W.codeIn K cd8 "_law_sign_at" = true)
    (k8 : PySem.W.keepIn K (.ref f8) = true)
    (a9 : PySem.W.nsIn K mainGlobals "_law_refused" = some (some (.ref f9)))
    (l9 : K.lookup f9 = some ⟨oc9, od9, .func (PySem.W.fnOf "_law_refused" "_law_refused" (defArgs st__law_refused) (defBody st__law_refused) (defScope st__law_refused) .none kV9 dc9 pm9 an9 cd9 ct9), sl9⟩)
    (d9 : PySem.W.codeIn K cd9 "_law_refused" = true)
    (k9 : PySem.W.keepIn K (.ref f9) = true)
    (a10 : PySem.W.nsIn K mainGlobals "_law_greatest" = some (some (.ref f10)))
    (l10 : K.lookup f10 = some ⟨oc10, od10, .func (PySem.W.fnOf "_law_greatest" "_law_greatest" (defArgs st__law_greatest) (defBody st__law_greatest) (defScope st__law_greatest) .none kV10 dc10 pm10 an10 cd10 ct10), sl10⟩)
    (d10 : PySem.W.codeIn K cd10 "_law_greatest" = true)
    (k10 : PySem.W.keepIn K (.ref f10) = true)
    (a11 : PySem.W.nsIn K mainGlobals "_law_said" = some (some (.ref f11)))
    (l11 : K.lookup f11 = some ⟨oc11, od11, .func (PySem.W.fnOf "_law_said" "_law_said" (defArgs st__law_said) (defBody st__law_said) (defScope st__law_said) .none kV11 dc11 pm11 an11 cd11 ct11), sl11⟩)
    (d11 : PySem.W.codeIn K cd11 "_law_said" = true)
    (k11 : PySem.W.keepIn K (.ref f11) = true)
    (a12 : PySem.W.nsIn K mainGlobals "_law_is" = some (some (.ref f12)))
    (l12 : K.lookup f12 = some ⟨oc12, od12, .func (PySem.W.fnOf "_law_is" "_law_is" (defArgs st__law_is) (defBody st__law_is) (defScope st__law_is) .none kV12 dc12 pm12 an12 cd12 ct12), sl12⟩)
    (d12 : PySem.W.codeIn K cd12 "_law_is" = true)
    (k12 : PySem.W.keepIn K (.ref f12) = true)
    (a13 : PySem.W.nsIn K mainGlobals "_law_pairs_right" = some (some (.ref f13)))
    (l13 : K.lookup f13 = some ⟨oc13, od13, .func (PySem.W.fnOf "_law_pairs_right" "_law_pairs_right" (defArgs st__law_pairs_right) (defBody st__law_pairs_right) (defScope st__law_pairs_right) .none kV13 dc13 pm13 an13 cd13 ct13), sl13⟩)
    (d13 : PySem.W.codeIn K cd13 "_law_pairs_right" = true)
    (k13 : PySem.W.keepIn K (.ref f13) = true)
    (a14 : PySem.W.nsIn K mainGlobals "_law_many_right" = some (some (.ref f14)))
    (l14 : K.lookup f14 = some ⟨oc14, od14, .func (PySem.W.fnOf "_law_many_right" "_law_many_right" (defArgs st__law_many_right) (defBody st__law_many_right) (defScope st__law_many_right) .none kV14 dc14 pm14 an14 cd14 ct14), sl14⟩)
    (d14 : PySem.W.codeIn K cd14 "_law_many_right" = true)
    (k14 : PySem.W.keepIn K (.ref f14) = true)
    (a15 : PySem.W.nsIn K mainGlobals "law" = some (some (.ref f15)))
    (l15 : K.lookup f15 = some ⟨oc15, od15, .func (PySem.W.fnOf "law" "law" (defArgs st_law) (defBody st_law) (defScope st_law) .none kV15 dc15 pm15 an15 cd15 ct15), sl15⟩)
    (d15 : PySem.W.codeIn K cd15 "law" = true)
    (k15 : PySem.W.keepIn K (.ref f15) = true)
    (opg_Mark : PySem.W.plainGet K C_Mark Str.empty = true)
    (ohd_Mark : PySem.W.hasDictIn K C_Mark = true)
    (opo_Mark : PySem.W.plainOver K C_Mark = true)
    (osa_Mark : PySem.W.findIn K (.ref C_Mark) "__setattr__" = some (some (.builtin "object.__setattr__")))
    (oga_Mark : PySem.W.findIn K (.ref C_Mark) "__class__" = some (some (.builtin "object.__class__")))
    (omo_Mark : PySem.W.mroIn K C_Mark (.type "object") = some true)
    (xhn : PySem.W.specialIn K (.builtin "object.__class__") "__get__" = some (some (.builtin "getset_descriptor.__get__")))
    (xht : PySem.W.takesIn K (.builtin "object.__class__") = some true)
    (ono_Mark_word : PySem.W.findIn K (.ref C_Mark) "word" = some none)
    (ono_Mark_rank : PySem.W.findIn K (.ref C_Mark) "rank" = some none)
    (omk_Mark : PySem.W.makesIn K C_Mark = true)
    (oke_Mark : PySem.W.keepIn K (.ref C_Mark) = true)
    (ofn_0 : PySem.W.isFn K (.ref f0) = true)
    (wf_Mark_WORDS : PySem.W.findIn K (.ref C_Mark) "WORDS" = some (some (.ref wp_Mark_WORDS)))
    (wl_Mark_WORDS : K.lookup wp_Mark_WORDS = some ⟨.type "tuple", none, .seq wi_Mark_WORDS wn_Mark_WORDS, ws_Mark_WORDS⟩)
    (wg_Mark_WORDS : PySem.W.specialIn K (.ref wp_Mark_WORDS) "__get__" = some none)
    (wv_Mark_WORDS : Vals (wk_Mark_WORDS.map V.str) wi_Mark_WORDS.toList)
    (wt_Mark_WORDS : PySem.W.findCls K (.ref C_Mark) (.type "type") "WORDS" = some (PySem.W.CFound.val (.ref wp_Mark_WORDS)))
    (wr_Mark_WORDS : PySem.W.readsIn K C_Mark (.type "type") = true)
    (wa_Mark_WORDS : PySem.W.specialIn K (.ref C_Mark) "__getattribute__" = some (some (.builtin "type.__getattribute__")))
    (ofn_1 : PySem.W.isFn K (.ref f1) = true)
    (ofn_2 : PySem.W.isFn K (.ref f2) = true)
    (ofn_3 : PySem.W.isFn K (.ref f3) = true)
    (ofn_4 : PySem.W.isFn K (.ref f4) = true)
    (osf_Mark : PySem.W.selfFirst K C_Mark = true)
    (oki_Mark_Mark : PySem.W.kitOne K (.ref C_Mark) (.ref C_Mark) = some true)
    (okb_NoneType_Mark : PySem.W.kitOne K (.type "NoneType") (.ref C_Mark) = some false)
    (okb_bool_Mark : PySem.W.kitOne K (.type "bool") (.ref C_Mark) = some false)
    (okb_int_Mark : PySem.W.kitOne K (.type "int") (.ref C_Mark) = some false)
    (okb_str_Mark : PySem.W.kitOne K (.type "str") (.ref C_Mark) = some false)
    (okb_list_Mark : PySem.W.kitOne K (.type "list") (.ref C_Mark) = some false)
    (okb_tuple_Mark : PySem.W.kitOne K (.type "tuple") (.ref C_Mark) = some false)
    (okb_dict_Mark : PySem.W.kitOne K (.type "dict") (.ref C_Mark) = some false)
    (na_InvalidMark : PySem.W.nsIn K mainGlobals "InvalidMark" = some (some (.ref C_InvalidMark)))
    (na_InvalidStep : PySem.W.nsIn K mainGlobals "InvalidStep" = some (some (.ref C_InvalidStep)))
    (na_KeeperError : PySem.W.nsIn K mainGlobals "KeeperError" = some (some (.ref C_KeeperError)))
    (xo : PySem.W.nsIn K cStatics "thirdparty.any" = some none)
    (xtop : (l.prog.main.scope.names.lookup ("super" : Str)).isSome = false)
    (xL_InvalidMark : K.lookup C_InvalidMark = some (excClassObj nm_InvalidMark qn_InvalidMark C_InvalidMark N_InvalidMark bs_InvalidMark bm_InvalidMark true sn_InvalidMark sb_InvalidMark ab_InvalidMark col_InvalidMark dd_InvalidMark k0_InvalidMark k1_InvalidMark k2_InvalidMark k3_InvalidMark k5_InvalidMark "ValueError.__new__"))
    (xbm_InvalidMark : PySem.HandSPX.refsVE bm_InvalidMark = true)
    (xsa_InvalidMark : PySem.W.findIn K (.ref C_InvalidMark) "__setattr__" = some (some (.builtin "object.__setattr__")))
    (xbe_InvalidMark : PySem.W.subIn K (.ref C_InvalidMark) (.type "BaseException") = some true)
    (xty_InvalidMark : PySem.W.typeIn K (.ref C_InvalidMark) = some (.type "type"))
    (xke_InvalidMark : PySem.W.keepIn K (.ref C_InvalidMark) = true)
    (xno_InvalidMark_word : PySem.W.findIn K (.ref C_InvalidMark) "word" = some none)
    (xin_InvalidMark : PySem.W.findIn K (.ref C_InvalidMark) "__init__" = some (some (.ref fI_InvalidMark)))
    (xfn_InvalidMark : K.lookup fI_InvalidMark = some ⟨ioc_InvalidMark, iod_InvalidMark, .func (PySem.W.ksFn "__init__" "InvalidMark.__init__" (defArgs st_InvalidMark) (defBody st_InvalidMark) (defScope st_InvalidMark) .none ikV_InvalidMark idc_InvalidMark ipm_InvalidMark ian_InvalidMark (.ref cda_InvalidMark) ict_InvalidMark cc_InvalidMark), isl_InvalidMark⟩)
    (xti_InvalidMark : PySem.W.typeIn K (.ref fI_InvalidMark) = some (.type "function"))
    (xsu_InvalidMark : PySem.W.ks_superIn K C_InvalidMark C_InvalidMark "__init__" = some (some (.builtin "ValueError.__init__")))
    (xve_InvalidMark : PySem.W.subIn K (.ref C_InvalidMark) (.type "ValueError") = some true)
    (xmc_InvalidMark : PySem.W.mroIn K C_InvalidMark (.ref C_InvalidMark) = some true)
    (xcd_InvalidMark : PySem.W.codeIn K (.ref cda_InvalidMark) "InvalidMark.__init__" = true)
    (xco_InvalidMark : K.lookup cda_InvalidMark = some ⟨gcl_InvalidMark, gcd_InvalidMark, .fields vs_InvalidMark, gsl_InvalidMark⟩)
    (xvs_InvalidMark : vs_InvalidMark[2]? = some (.str file_InvalidMark tf_InvalidMark))
    (xfi_InvalidMark : ((l.prog.main.file : Str) == file_InvalidMark) = true)
    (xce_InvalidMark : K.lookup cc_InvalidMark = some ⟨hcl_InvalidMark, hcd_InvalidMark, .cell (some (.ref C_InvalidMark)), hsl_InvalidMark⟩)
    (xga_InvalidMark : PySem.W.findIn K (.ref C_InvalidMark) "__getattribute__" = some (some (.builtin "BaseException.__getattribute__")))
    (xgt_InvalidMark : PySem.W.findIn K (.ref C_InvalidMark) "__getattr__" = some none)
    (xha_InvalidMark : PySem.W.findIn K (.ref C_InvalidMark) "__class__" = some (some (.builtin "object.__class__")))
    (xhm_InvalidMark : PySem.W.mroIn K C_InvalidMark (.type "object") = some true)
    (xhd_InvalidMark : PySem.W.hasDictIn K C_InvalidMark = true)
    (ki_InvalidMark_InvalidStep : PySem.W.kitOne K (.ref C_InvalidMark) (.ref C_InvalidStep) = some false)
    (ki_InvalidMark_KeeperError : PySem.W.kitOne K (.ref C_InvalidMark) (.ref C_KeeperError) = some true)
    (zn_ValueError : PySem.W.nsIn K mainGlobals "ValueError" = some none)
    (kb_InvalidMark_ValueError : PySem.W.kitOne K (.ref C_InvalidMark) (.type "ValueError") = some true)
    (eb_InvalidMark : PySem.W.subIn K (.ref C_InvalidMark) (.type "BaseException") = some true)
    (eh_InvalidMark : PySem.W.hasDictIn K C_InvalidMark = true)
    (et_InvalidMark : PySem.W.typeIn K (.ref C_InvalidMark) = some (.type "type"))
    (es_InvalidMark_InvalidMark : PySem.W.subIn K (.ref C_InvalidMark) (.ref C_InvalidMark) = some true) :
    ∃ fd : FuncData, (∀ (s : Shared) (v : Value), BindsTo s fd ⟨[v], []⟩ [("_law_script", v)]) ∧ ∀ base : Heap, K.In base → base.Ns mainGlobals mg → FnOk l.prog w K mg base (L2.CX l.prog w) (2 * 40) fa fd ["_law_script"] (spL K) := by
  have e := hfa.symm.trans (PySem.W.mg_of X G a15)
  cases e
  have Cls_Mark : Cls K C_Mark := ⟨opg_Mark, ohd_Mark, opo_Mark, osa_Mark⟩
  have T_InvalidMark : PySem.S3X.ExT l.prog K C_InvalidMark fI_InvalidMark cc_InvalidMark cda_InvalidMark (PySem.W.ksFn "__init__" "InvalidMark.__init__" (defArgs st_InvalidMark) (defBody st_InvalidMark) (defScope st_InvalidMark) .none ikV_InvalidMark idc_InvalidMark ipm_InvalidMark ian_InvalidMark (.ref cda_InvalidMark) ict_InvalidMark cc_InvalidMark) ["word"] := {
    cls := ⟨_, _, _, _, _, _, _, _, _, _, _, _, _, _, _, xL_InvalidMark, xbm_InvalidMark⟩, sa := xsa_InvalidMark, exC := xbe_InvalidMark, tyC := xty_InvalidMark, kC := xke_InvalidMark
    noN := fun f hf => by
      simp only [List.mem_cons, List.not_mem_nil, or_false] at hf
      subst hf
      exact xno_InvalidMark_word
    iC := xin_InvalidMark, tI := xti_InvalidMark, sup := xsu_InvalidMark, vB := xve_InvalidMark, mC := xmc_InvalidMark, opq := xo, fn := ⟨_, _, _, xfn_InvalidMark⟩, fe := ⟨_, _, _, _, _, _, _, _, _, _, _, rfl, it_InvalidMark⟩, cd := xcd_InvalidMark
    code := ⟨_, _, _, _, _, _, xco_InvalidMark, xvs_InvalidMark, xfi_InvalidMark⟩, cell := ⟨_, _, _, xce_InvalidMark⟩, bd := fun s e us hl => match us, hl with | [_], _ => .of_eq rfl, top := xtop }
  have X_InvalidMark : XcK K C_InvalidMark ["word"] := {
    cl := by obtain ⟨cd, h, _⟩ := PySem.S3X.clsIn_of T_InvalidMark; rw [h]; rfl
    ga := xga_InvalidMark, gt := xgt_InvalidMark, sb := xbe_InvalidMark, ha := xha_InvalidMark, hn := xhn, ht := xht, hm := xhm_InvalidMark, hd := xhd_InvalidMark
    no := fun f hf => by
      simp only [List.mem_cons, List.not_mem_nil, or_false] at hf
      subst hf
      exact xno_InvalidMark_word }
  have F0 := fun_mk (st := st_Mark___init__) l0 d0 k0
  have b0 := F0.binds (ps := ["self", "word"]) fun _ _ _ _ _ _ us hl => match us, hl with | [_, _], _ => rfl
  have F1 := fun_mk (st := st_Mark___eq__) l1 d1 k1
  have b1 := F1.binds (ps := ["self", "other"]) fun _ _ _ _ _ _ us hl => match us, hl with | [_, _], _ => rfl
  have F2 := fun_mk (st := st_Mark___lt__) l2 d2 k2
  have b2 := F2.binds (ps := ["self", "other"]) fun _ _ _ _ _ _ us hl => match us, hl with | [_, _], _ => rfl
  have F3 := fun_mk (st := st_Mark___le__) l3 d3 k3
  have b3 := F3.binds (ps := ["self", "other"]) fun _ _ _ _ _ _ us hl => match us, hl with | [_, _], _ => rfl
  have F4 := fun_mk (st := st_Mark___or__) l4 d4 k4
  have b4 := F4.binds (ps := ["self", "other"]) fun _ _ _ _ _ _ us hl => match us, hl with | [_, _], _ => rfl
  have F5 := fun_mk (st := st_strongest) l5 d5 k5
  have b5 : ∀ rest : List Value, bindArgs (PySem.W.fnOf "strongest" "strongest" (defArgs st_strongest) (defBody st_strongest) (defScope st_strongest) .none kV5 dc5 pm5 an5 cd5 ct5) ⟨rest, []⟩ = (do let t ← newTuple rest; pure [("marks", t)]) := fun rest => by cases rest <;> rfl
  have F6 := fun_mk (st := st__law_draws_of) l6 d6 k6
  have b6 := F6.binds (ps := ["_law_script"]) fun _ _ _ _ _ _ us hl => match us, hl with | [_], _ => rfl
  have F7 := fun_mk (st := st__law_nth) l7 d7 k7
  have b7 := F7.binds (ps := ["_law_pool", "_law_k"]) fun _ _ _ _ _ _ us hl => match us, hl with | [_, _], _ => rfl
  have F8 := fun_mk (st := st__law_sign_at) l8 d8 k8
  have b8 := F8.binds (ps := ["_law_k"]) fun _ _ _ _ _ _ us hl => match us, hl with | [_], _ => rfl
  have F9 := fun_mk (st := st__law_refused) l9 d9 k9
  have b9 := F9.binds (ps := ["_law_word"]) fun _ _ _ _ _ _ us hl => match us, hl with | [_], _ => rfl
  have F10 := fun_mk (st := st__law_greatest) l10 d10 k10
  have b10 := F10.binds (ps := ["_law_places"]) fun _ _ _ _ _ _ us hl => match us, hl with | [_], _ => rfl
  have F11 := fun_mk (st := st__law_said) l11 d11 k11
  have b11 := F11.binds (ps := ["_law_told", "_law_due"]) fun _ _ _ _ _ _ us hl => match us, hl with | [_, _], _ => rfl
  have F12 := fun_mk (st := st__law_is) l12 d12 k12
  have b12 := F12.binds (ps := ["_law_mark", "_law_word"]) fun _ _ _ _ _ _ us hl => match us, hl with | [_, _], _ => rfl
  have F13 := fun_mk (st := st__law_pairs_right) l13 d13 k13
  have b13 := F13.binds (ps := ["_law_words"]) fun _ _ _ _ _ _ us hl => match us, hl with | [_], _ => rfl
  have F14 := fun_mk (st := st__law_many_right) l14 d14 k14
  have b14 := F14.binds (ps := ["_law_places", "_law_words"]) fun _ _ _ _ _ _ us hl => match us, hl with | [_, _], _ => rfl
  have F15 := fun_mk (st := st_law) l15 d15 k15
  have b15 := F15.binds (ps := ["_law_script"]) fun _ _ _ _ _ _ us hl => match us, hl with | [_], _ => rfl
  refine ⟨PySem.W.fnOf "law" "law" (defArgs st_law) (defBody st_law) (defScope st_law) .none kV15 dc15 pm15 an15 cd15 ct15, fun s v => .of_eq rfl, fun base _ _ => ?_⟩
  have all : ∀ k, Tab (caL [("InvalidMark", C_InvalidMark), ("@Mark", C_Mark)]) l.prog w K mg base k (sem tab k) := fun k => by
    induction k with
    | zero => exact ⟨PySem.W.mg_none_of X G z_super, PySem.W.mg_none_of X G z_isinstance, PySem.W.mg_none_of X G z_len, PySem.W.mg_none_of X G z_int, PySem.W.mg_none_of X G z_abs, PySem.W.mg_none_of X G z_range, PySem.W.mg_none_of X G z_str, PySem.W.mg_none_of X G z_tuple, ⟨⟨rfl, rfl, rfl⟩, caL_all (P := fun m C => xnm m = true → XcK K C ["word"]) (List.forall_mem_cons.mpr ⟨fun _ => X_InvalidMark, List.forall_mem_cons.mpr ⟨fun z => absurd (show xnm "@Mark" = true from z) (by decide), fun p hp => by cases hp⟩⟩)⟩, ⟨C_InvalidMark, fI_InvalidMark, cc_InvalidMark, cda_InvalidMark, _, rfl, T_InvalidMark, PySem.W.mg_of X G na_InvalidMark⟩, ⟨C_InvalidStep, PySem.W.mg_of X G na_InvalidStep, caL_all (P := fun m C => xnm m = true → PySem.W.kitOne K (.ref C) (.ref C_InvalidStep) = some ((subs []) m)) (List.forall_mem_cons.mpr ⟨fun _ => ki_InvalidMark_InvalidStep, List.forall_mem_cons.mpr ⟨fun z => absurd (show xnm "@Mark" = true from z) (by decide), fun p hp => by cases hp⟩⟩)⟩, ⟨C_KeeperError, PySem.W.mg_of X G na_KeeperError, caL_all (P := fun m C => xnm m = true → PySem.W.kitOne K (.ref C) (.ref C_KeeperError) = some ((subs ["InvalidMark"]) m)) (List.forall_mem_cons.mpr ⟨fun _ => ki_InvalidMark_KeeperError, List.forall_mem_cons.mpr ⟨fun z => absurd (show xnm "@Mark" = true from z) (by decide), fun p hp => by cases hp⟩⟩)⟩, ⟨PySem.W.mg_none_of X G zn_ValueError, caL_all (P := fun m C => xnm m = true → PySem.W.kitOne K (.ref C) (.type "ValueError") = some ((subs ["InvalidMark"]) m)) (List.forall_mem_cons.mpr ⟨fun _ => kb_InvalidMark_ValueError, List.forall_mem_cons.mpr ⟨fun z => absurd (show xnm "@Mark" = true from z) (by decide), fun p hp => by cases hp⟩⟩)⟩, ⟨C_InvalidMark, PySem.W.mg_of X G na_InvalidMark, caL_all (P := fun m C => xnm m = true → PySem.W.exmOne K (.ref C) (.ref C_InvalidMark) = some ((subs ["InvalidMark"]) m)) (List.forall_mem_cons.mpr ⟨fun _ => PySem.W.exm_ref eb_InvalidMark eh_InvalidMark et_InvalidMark es_InvalidMark_InvalidMark, List.forall_mem_cons.mpr ⟨fun z => absurd (show xnm "@Mark" = true from z) (by decide), fun p hp => by cases hp⟩⟩)⟩, StarT.zero starR0 (PySem.W.mg_of X G a5) k5, FnT.zero (PySem.W.mg_of X G a6) k6 b6, FnT.zero (PySem.W.mg_of X G a7) k7 b7, FnT.zero (PySem.W.mg_of X G a8) k8 b8, FnT.zero (PySem.W.mg_of X G a9) k9 b9, FnT.zero (PySem.W.mg_of X G a10) k10 b10, FnT.zero (PySem.W.mg_of X G a11) k11 b11, FnT.zero (PySem.W.mg_of X G a12) k12 b12, FnT.zero (PySem.W.mg_of X G a13) k13 b13, FnT.zero (PySem.W.mg_of X G a14) k14 b14, FnT.zero (PySem.W.mg_of X G a15) k15 b15, ⟨fun c hc C h => caL_all (P := fun m C => inL m obAll = true → Cls K C ∧ PySem.W.findIn K (.ref C) "__class__" = some (some (.builtin "object.__class__")) ∧ PySem.W.mroIn K C (.type "object") = some true) (List.forall_mem_cons.mpr ⟨fun z => absurd (show inL "InvalidMark" ["@Mark"] = true from z) (by decide), List.forall_mem_cons.mpr ⟨fun _ => ⟨Cls_Mark, oga_Mark, omo_Mark⟩, fun p hp => by cases hp⟩⟩) c C h hc, xhn, xht⟩, ⟨C_Mark, PySem.W.mg_of X G na_Mark, ⟨fun c hc C h => caL_all (P := fun m C => inL m obAll = true → PySem.W.kitOne K (.ref C) (.ref C_Mark) = some (subO "@Mark" m)) (List.forall_mem_cons.mpr ⟨fun z => absurd (show inL "InvalidMark" ["@Mark"] = true from z) (by decide), List.forall_mem_cons.mpr ⟨fun _ => oki_Mark_Mark, fun p hp => by cases hp⟩⟩) c C h hc⟩, by
      intro T hT
      simp only [List.mem_cons, List.not_mem_nil, or_false] at hT
      rcases hT with rfl | rfl | rfl | rfl | rfl | rfl | rfl
      · exact okb_NoneType_Mark
      · exact okb_bool_Mark
      · exact okb_int_Mark
      · exact okb_str_Mark
      · exact okb_list_Mark
      · exact okb_tuple_Mark
      · exact okb_dict_Mark⟩, ⟨fun c hc C h => caL_all (P := fun m C => inL m ["@Mark"] = true → Cls K C ∧ NoAttr K C "word") (List.forall_mem_cons.mpr ⟨fun z => absurd (show inL "InvalidMark" ["@Mark"] = true from z) (by decide), List.forall_mem_cons.mpr ⟨fun _ => ⟨Cls_Mark, by exact ono_Mark_word⟩, fun p hp => by cases hp⟩⟩) c C h hc⟩, ⟨fun c hc C h => caL_all (P := fun m C => inL m ["@Mark"] = true → Cls K C ∧ NoAttr K C "rank") (List.forall_mem_cons.mpr ⟨fun z => absurd (show inL "InvalidMark" ["@Mark"] = true from z) (by decide), List.forall_mem_cons.mpr ⟨fun _ => ⟨Cls_Mark, by exact ono_Mark_rank⟩, fun p hp => by cases hp⟩⟩) c C h hc⟩, ⟨C_Mark, f0, _, _, rfl, ⟨omk_Mark, a0, ofn_0, oke_Mark⟩, fnok0, PySem.W.mg_of X G na_Mark, b0⟩, ⟨C_Mark, f1, _, _, rfl, osf_Mark, a1, ofn_1, fnok0, b1⟩, ⟨C_Mark, f2, _, _, rfl, osf_Mark, a2, ofn_2, fnok0, b2⟩, ⟨C_Mark, f3, _, _, rfl, osf_Mark, a3, ofn_3, fnok0, b3⟩, ⟨C_Mark, f4, _, _, rfl, osf_Mark, a4, ofn_4, fnok0, b4⟩, ⟨fun c hc C h => caL_all (P := fun m C => inL m ["@Mark"] = true → ConWP K "WORDS" wk_Mark_WORDS C) (List.forall_mem_cons.mpr ⟨fun z => absurd (show inL "InvalidMark" ["@Mark"] = true from z) (by decide), List.forall_mem_cons.mpr ⟨fun _ => ⟨Cls_Mark, _, _, _, _, ⟨wf_Mark_WORDS, rfl, wg_Mark_WORDS, by decide⟩, wl_Mark_WORDS, rfl, rfl, rfl, vals_size wv_Mark_WORDS (by decide), wv_Mark_WORDS, by decide +kernel⟩, fun p hp => by cases hp⟩⟩) c C h hc⟩, ⟨C_Mark, .type "type", wp_Mark_WORDS, _, _, _, PySem.W.mg_of X G na_Mark, ⟨wr_Mark_WORDS, wa_Mark_WORDS⟩, ⟨wt_Mark_WORDS, rfl⟩, wl_Mark_WORDS, rfl, rfl, vals_size wv_Mark_WORDS (by decide), wv_Mark_WORDS, by decide +kernel⟩⟩
    | succ k ih => exact ⟨PySem.W.mg_none_of X G z_super, PySem.W.mg_none_of X G z_isinstance, PySem.W.mg_none_of X G z_len, PySem.W.mg_none_of X G z_int, PySem.W.mg_none_of X G z_abs, PySem.W.mg_none_of X G z_range, PySem.W.mg_none_of X G z_str, PySem.W.mg_none_of X G z_tuple, ⟨⟨rfl, rfl, rfl⟩, caL_all (P := fun m C => xnm m = true → XcK K C ["word"]) (List.forall_mem_cons.mpr ⟨fun _ => X_InvalidMark, List.forall_mem_cons.mpr ⟨fun z => absurd (show xnm "@Mark" = true from z) (by decide), fun p hp => by cases hp⟩⟩)⟩, ⟨C_InvalidMark, fI_InvalidMark, cc_InvalidMark, cda_InvalidMark, _, rfl, T_InvalidMark, PySem.W.mg_of X G na_InvalidMark⟩, ⟨C_InvalidStep, PySem.W.mg_of X G na_InvalidStep, caL_all (P := fun m C => xnm m = true → PySem.W.kitOne K (.ref C) (.ref C_InvalidStep) = some ((subs []) m)) (List.forall_mem_cons.mpr ⟨fun _ => ki_InvalidMark_InvalidStep, List.forall_mem_cons.mpr ⟨fun z => absurd (show xnm "@Mark" = true from z) (by decide), fun p hp => by cases hp⟩⟩)⟩, ⟨C_KeeperError, PySem.W.mg_of X G na_KeeperError, caL_all (P := fun m C => xnm m = true → PySem.W.kitOne K (.ref C) (.ref C_KeeperError) = some ((subs ["InvalidMark"]) m)) (List.forall_mem_cons.mpr ⟨fun _ => ki_InvalidMark_KeeperError, List.forall_mem_cons.mpr ⟨fun z => absurd (show xnm "@Mark" = true from z) (by decide), fun p hp => by cases hp⟩⟩)⟩, ⟨PySem.W.mg_none_of X G zn_ValueError, caL_all (P := fun m C => xnm m = true → PySem.W.kitOne K (.ref C) (.type "ValueError") = some ((subs ["InvalidMark"]) m)) (List.forall_mem_cons.mpr ⟨fun _ => kb_InvalidMark_ValueError, List.forall_mem_cons.mpr ⟨fun z => absurd (show xnm "@Mark" = true from z) (by decide), fun p hp => by cases hp⟩⟩)⟩, ⟨C_InvalidMark, PySem.W.mg_of X G na_InvalidMark, caL_all (P := fun m C => xnm m = true → PySem.W.exmOne K (.ref C) (.ref C_InvalidMark) = some ((subs ["InvalidMark"]) m)) (List.forall_mem_cons.mpr ⟨fun _ => PySem.W.exm_ref eb_InvalidMark eh_InvalidMark et_InvalidMark es_InvalidMark_InvalidMark, List.forall_mem_cons.mpr ⟨fun z => absurd (show xnm "@Mark" = true from z) (by decide), fun p hp => by cases hp⟩⟩)⟩, StarT.succ (ok_strongest F5 b5 ih) (PySem.W.mg_of X G a5) k5 rfl, FnT.succ (ok__law_draws_of F6 ih) (PySem.W.mg_of X G a6) k6 b6 rfl, FnT.succ (ok__law_nth F7 ih) (PySem.W.mg_of X G a7) k7 b7 rfl, FnT.succ (ok__law_sign_at F8 ih) (PySem.W.mg_of X G a8) k8 b8 rfl, FnT.succ (ok__law_refused F9 ih) (PySem.W.mg_of X G a9) k9 b9 rfl, FnT.succ (ok__law_greatest F10 ih) (PySem.W.mg_of X G a10) k10 b10 rfl, FnT.succ (ok__law_said F11 ih) (PySem.W.mg_of X G a11) k11 b11 rfl, FnT.succ (ok__law_is F12 ih) (PySem.W.mg_of X G a12) k12 b12 rfl, FnT.succ (ok__law_pairs_right F13 ih) (PySem.W.mg_of X G a13) k13 b13 rfl, FnT.succ (ok__law_many_right F14 ih) (PySem.W.mg_of X G a14) k14 b14 rfl, FnT.succ (ok_law F15 ih) (PySem.W.mg_of X G a15) k15 b15 rfl, ⟨fun c hc C h => caL_all (P := fun m C => inL m obAll = true → Cls K C ∧ PySem.W.findIn K (.ref C) "__class__" = some (some (.builtin "object.__class__")) ∧ PySem.W.mroIn K C (.type "object") = some true) (List.forall_mem_cons.mpr ⟨fun z => absurd (show inL "InvalidMark" ["@Mark"] = true from z) (by decide), List.forall_mem_cons.mpr ⟨fun _ => ⟨Cls_Mark, oga_Mark, omo_Mark⟩, fun p hp => by cases hp⟩⟩) c C h hc, xhn, xht⟩, ⟨C_Mark, PySem.W.mg_of X G na_Mark, ⟨fun c hc C h => caL_all (P := fun m C => inL m obAll = true → PySem.W.kitOne K (.ref C) (.ref C_Mark) = some (subO "@Mark" m)) (List.forall_mem_cons.mpr ⟨fun z => absurd (show inL "InvalidMark" ["@Mark"] = true from z) (by decide), List.forall_mem_cons.mpr ⟨fun _ => oki_Mark_Mark, fun p hp => by cases hp⟩⟩) c C h hc⟩, by
      intro T hT
      simp only [List.mem_cons, List.not_mem_nil, or_false] at hT
      rcases hT with rfl | rfl | rfl | rfl | rfl | rfl | rfl
      · exact okb_NoneType_Mark
      · exact okb_bool_Mark
      · exact okb_int_Mark
      · exact okb_str_Mark
      · exact okb_list_Mark
      · exact okb_tuple_Mark
      · exact okb_dict_Mark⟩, ⟨fun c hc C h => caL_all (P := fun m C => inL m ["@Mark"] = true → Cls K C ∧ NoAttr K C "word") (List.forall_mem_cons.mpr ⟨fun z => absurd (show inL "InvalidMark" ["@Mark"] = true from z) (by decide), List.forall_mem_cons.mpr ⟨fun _ => ⟨Cls_Mark, by exact ono_Mark_word⟩, fun p hp => by cases hp⟩⟩) c C h hc⟩, ⟨fun c hc C h => caL_all (P := fun m C => inL m ["@Mark"] = true → Cls K C ∧ NoAttr K C "rank") (List.forall_mem_cons.mpr ⟨fun z => absurd (show inL "InvalidMark" ["@Mark"] = true from z) (by decide), List.forall_mem_cons.mpr ⟨fun _ => ⟨Cls_Mark, by exact ono_Mark_rank⟩, fun p hp => by cases hp⟩⟩) c C h hc⟩, ⟨C_Mark, f0, _, _, rfl, ⟨omk_Mark, a0, ofn_0, oke_Mark⟩, (fnokS (ok_Mark___init__ F0 ih) rfl), PySem.W.mg_of X G na_Mark, b0⟩, ⟨C_Mark, f1, _, _, rfl, osf_Mark, a1, ofn_1, (fnokS (ok_Mark___eq__ F1 ih) rfl), b1⟩, ⟨C_Mark, f2, _, _, rfl, osf_Mark, a2, ofn_2, (fnokS (ok_Mark___lt__ F2 ih) rfl), b2⟩, ⟨C_Mark, f3, _, _, rfl, osf_Mark, a3, ofn_3, (fnokS (ok_Mark___le__ F3 ih) rfl), b3⟩, ⟨C_Mark, f4, _, _, rfl, osf_Mark, a4, ofn_4, (fnokS (ok_Mark___or__ F4 ih) rfl), b4⟩, ⟨fun c hc C h => caL_all (P := fun m C => inL m ["@Mark"] = true → ConWP K "WORDS" wk_Mark_WORDS C) (List.forall_mem_cons.mpr ⟨fun z => absurd (show inL "InvalidMark" ["@Mark"] = true from z) (by decide), List.forall_mem_cons.mpr ⟨fun _ => ⟨Cls_Mark, _, _, _, _, ⟨wf_Mark_WORDS, rfl, wg_Mark_WORDS, by decide⟩, wl_Mark_WORDS, rfl, rfl, rfl, vals_size wv_Mark_WORDS (by decide), wv_Mark_WORDS, by decide +kernel⟩, fun p hp => by cases hp⟩⟩) c C h hc⟩, ⟨C_Mark, .type "type", wp_Mark_WORDS, _, _, _, PySem.W.mg_of X G na_Mark, ⟨wr_Mark_WORDS, wa_Mark_WORDS⟩, ⟨wt_Mark_WORDS, rfl⟩, wl_Mark_WORDS, rfl, rfl, vals_size wv_Mark_WORDS (by decide), wv_Mark_WORDS, by decide +kernel⟩⟩
  have e : sem tab 40 "law" = T_law.run (sem tab 39) := by funext ds; simp only [sem, tab]
  have okl := ok_law F15 (all 39)
  rw [← e] at okl
  exact spL_ok okl sol

theorem lawWalk (sol : ∀ ns : List Int, ns.length ≤ 63 → sem tab 40 "law" [.scr (ns.map .int)] = .ok false (.bl true) []) {l : PySem.W.OpenLaw} {q : Program} {loose : List Str} {XP : (Str → Option Value) → Heap → Prop} {YP : World → Heap → Prop} {d : DefRec} {K : Params → PySem.W.Frag} (hn : l.most = some 63) (hdf : d.params.defaults = [])
    (hY : ∀ (w : World) (h : Heap), YP w h → (K w.params).In h)
    (F : ∀ (w : World) (mg : Str → Option Value) (fa : Addr) (h : Heap), (K w.params).In h → h.Ns mainGlobals mg → mg d.name = some (.ref fa) →
      ∃ fd : FuncData, (∀ (s : Shared) (u : Value), BindsTo s fd ⟨[u], []⟩ [("_law_script", u)]) ∧ ∀ base : Heap, (K w.params).In base → base.Ns mainGlobals mg → FnOk l.prog w (K w.params) mg base (L2.CX l.prog w) (2 * 40) fa fd ["_law_script"] (spL (K w.params))) :
    PySem.W.WalkO q loose XP YP l.row.toRowW d [] (fun f vs => PySem.call f vs) :=
  L2.walk_of (n := 63) (k := 2 * 40) (x := "_law_script") (CX := fun w => L2.CX l.prog w) (sp := fun w => (spL (K w.params))) hn (by decide) hdf ⟨rfl, by decide, by decide⟩ hY F (fun _ _ a ns hl _ hS => ⟨a, ns, rfl, hl, hS, fun _ => rfl⟩) law_CX
end S3


namespace S3
open PySem
/-! the pool of draws -/
def InR (ps : List Int) : Prop := ∀ p ∈ ps, 0 ≤ p ∧ p < 65536
theorem InR.app {ps : List Int} {p : Int} (h : InR ps) (h0 : 0 ≤ p) (h1 : p < 65536) : InR (ps ++ [p]) := fun q hq => by
  rcases List.mem_append.mp hq with z | z
  · exact h q z
  · cases List.mem_singleton.mp z; exact ⟨h0, h1⟩
def lints (ps : List Int) : D := .lst (ps.map .int)
theorem lints_app (ps : List Int) (p : Int) (h : ps.length < BIG) : mAppend (lints ps) [.int p] = some (lints (ps ++ [p]), .fz .non) := by
  show (if (ps.map D.int).length < BIG then _ else _) = _
  rw [if_pos (by rw [List.length_map]; exact h)]
  simp [lints]
theorem lints_isLst (ps : List Int) : isLst (lints ps) = true := rfl
theorem lints_len (ps : List Int) : opLen (lints ps) = some (.fz (.int ps.length)) := by simp [lints]
def Long (ps : List Int) (i : Nat) : Prop := ps.length ≤ 131 ∧ ((i = 0 ∧ ps.length = 0) ∨ 3 ≤ ps.length)
theorem draws_run (phi : String → List D → RC) (ns : List Int) (hn : ns.length ≤ 63) : ∃ ps : List Int, 3 ≤ ps.length ∧ ps.length ≤ 131 ∧ InR ps ∧ T__law_draws_of.run phi [.scr (ns.map .int)] = .ok true (lints ps) [] := by
  rw [run_is rfl]
  show ∃ ps : List Int, _ ∧ _ ∧ _ ∧ finish [.r] (b__law_draws_of phi [.bo (.scr (ns.map .int)), .no, .no, .no, .no]) = _
  unfold b__law_draws_of
  rw [sSeq_e]
  simp [-sSeq_e]
  refine seq_for (ds := ns.map .int) (Q := fun r => ∃ ps : List Int, 3 ≤ ps.length ∧ ps.length ≤ 131 ∧ InR ps ∧ finish [Md.r] r = .ok true (lints ps) []) (e0 := [.bo (.scr (ns.map .int)), .ow (lints []), .no, .no, .no]) ?_
    (fun i e => ∃ ps, e = [.bo (.scr (ns.map .int)), .ow (lints ps), .no, .no, .no] ∧ InR ps ∧ Long ps i) ⟨[], rfl, fun _ h => absurd h (by simp), by decide, .inl ⟨rfl, rfl⟩⟩ ?_ ?_
  · simp [lints]
  · rintro R _ _ _ i d e hd ⟨ps, rfl, hr, hl⟩
    rw [List.getElem?_map, Option.map_eq_some_iff] at hd
    obtain ⟨z, _, rfl⟩ := hd
    refine ⟨_, rfl, ?_⟩
    by_cases h1 : (ps.length : Int) < 72
    · have hps : ps.length < 72 := by omega
      by_cases h2 : (if z < 0 then -z else z) < 1000000000000000000
      · simp [lints_len, h1, opPow_i, h2]
        have hw0 : 0 ≤ (if z < 0 then -z else z) := by split <;> omega
        generalize (if z < 0 then -z else z) = w at h2 hw0
        refine sole_for (Q := turnP _ _ _) (ds := rng 0 3) (e0 := [.bo (.scr (ns.map .int)), .ow (lints ps), .fz (.int z), .fz (.int w), .no]) (by simp)
          (fun j e => ∃ qs w, e = [.bo (.scr (ns.map .int)), .ow (lints qs), .fz (.int z), .fz (.int w), .no] ∧ InR qs ∧ qs.length = ps.length + j ∧ 0 ≤ w) ⟨ps, w, rfl, hr, rfl, hw0⟩ ?_ ?_
        · rintro j d e hd ⟨qs, w, rfl, hq, hl2, hw⟩
          obtain ⟨rfl, hj⟩ := rng0_get hd
          refine ⟨_, rfl, ?_⟩
          have hb : qs.length < BIG := by simp [BIG]; omega
          simp [lints_isLst]
          rw [lints_app _ _ hb]
          simp
          exact ⟨_, _, ⟨rfl, rfl⟩, hq.app (by omega) (by omega), by simp; omega, by omega⟩
        · rintro e ⟨qs, w, rfl, hq, hl2, hw⟩
          simp
          refine ⟨qs, rfl, hq, ?_, .inr ?_⟩
          · simp at hl2; omega
          · simp at hl2; omega
      · simp [lints_len, h1, opPow_i, h2]
        have hw0 : 1000000000000000000 ≤ (if z < 0 then -z else z) := by omega
        generalize (if z < 0 then -z else z) = w at h2 hw0
        refine sole_for (Q := turnP _ _ _) (ds := rng 0 60) (e0 := [.bo (.scr (ns.map .int)), .ow (lints ps), .fz (.int z), .fz (.int w), .no]) (by simp)
          (fun j e => ∃ qs w, e = [.bo (.scr (ns.map .int)), .ow (lints qs), .fz (.int z), .fz (.int w), .no] ∧ InR qs ∧ qs.length ≤ ps.length + j ∧ 0 ≤ w ∧
            ((j = 0 ∧ 1000000000000000000 ≤ w) ∨ (j = 1 ∧ 15258789062500 ≤ w ∧ 1 ≤ qs.length) ∨ (j = 2 ∧ 232830643 ≤ w ∧ 2 ≤ qs.length) ∨ 3 ≤ qs.length)) ⟨ps, w, rfl, hr, Nat.le_refl _, by omega, .inl ⟨rfl, hw0⟩⟩ ?_ ?_
        · rintro j d e hd ⟨qs, w, rfl, hq, hl2, hw, hc⟩
          obtain ⟨rfl, hj⟩ := rng0_get hd
          refine ⟨_, rfl, ?_⟩
          have hb : qs.length < BIG := by simp [BIG]; omega
          by_cases h3 : 0 < w
          · simp [lints_isLst, h3]
            rw [lints_app _ _ hb]
            simp
            exact ⟨_, _, ⟨rfl, rfl⟩, hq.app (by omega) (by omega), by simp; omega, by omega, by simp; omega⟩
          · simp [h3]
            exact ⟨_, _, ⟨rfl, rfl⟩, hq, by omega, by omega, by omega⟩
        · rintro e ⟨qs, w, rfl, hq, hl2, hw, hc⟩
          simp at hl2 hc
          simp
          refine ⟨qs, rfl, hq, ?_, .inr ?_⟩
          · omega
          · omega
    · have h3 : 3 ≤ ps.length := by omega
      simp [lints_len, h1]
      exact ⟨ps, rfl, hr, hl.1, .inr h3⟩
  · rintro e ⟨ps, rfl, hr, hl⟩
    cases ps with
    | nil =>
      have hq : opEq (lints []) (.lst []) = some (.fz (.bl true)) := opEq_nil []
      refine ⟨[2, 10, 1, 0, 4, 0, 1052, 0, 148, 26, 132, 0, 20], by decide, by decide, fun p hp => (by simp at hp; omega), ?_⟩
      simp [hq]
      rfl
    | cons p ps =>
      have hq : opEq (lints (p :: ps)) (.lst []) = some (.fz (.bl false)) := opEq_nil (p :: ps)
      refine ⟨p :: ps, ?_, hl.1, hr, ?_⟩
      · rcases hl.2 with ⟨_, z⟩ | z
        · cases z
        · exact z
      · simp [hq]
theorem lints_get {ps : List Int} (hr : InR ps) {i : Int} (h0 : 0 ≤ i) (h1 : i < ps.length) : ∃ p, 0 ≤ p ∧ p < 65536 ∧ opIx (lints ps) (.int i) = some (.fz (.int p)) := by
  obtain ⟨x, h2, h3⟩ := atI_lt (xs := ps.map D.int) h0 (by rw [List.length_map]; exact h1)
  rw [List.getElem?_map, Option.map_eq_some_iff] at h2
  obtain ⟨p, h4, rfl⟩ := h2
  have := hr p (List.mem_of_getElem? h4)
  refine ⟨p, this.1, this.2, ?_⟩
  show (L2.atI (ps.map D.int) i).map RV.fz = _
  rw [h3]
  rfl
theorem nth_run (phi : String → List D → RC) {ps : List Int} (hr : InR ps) (hl : 3 ≤ ps.length) {k : Int} (hk : 0 ≤ k) (hk2 : k < 2 ^ 40) : ∃ p, 0 ≤ p ∧ p < 65536 ∧ T__law_nth.run phi [lints ps, .int k] = .ok false (.int p) [] := by
  rw [run_is rfl]
  show ∃ p, _ ∧ _ ∧ finish [.r, .r] (b__law_nth phi [.bo (lints ps), .bo (.int k)]) = _
  unfold b__law_nth
  by_cases h : k < ps.length
  · obtain ⟨p, h1, h2, h3⟩ := lints_get hr hk h
    refine ⟨p, h1, h2, ?_⟩
    simp [lints_len, h, h3]
  · have hm : 0 ≤ k % (ps.length : Int) := Int.emod_nonneg _ (by omega)
    have hm2 : k % (ps.length : Int) < ps.length := Int.emod_lt_of_pos _ (by omega)
    have hp : 0 < ps.length := by omega
    obtain ⟨p, h1, h2, h3⟩ := lints_get hr hm hm2
    refine ⟨(p * 31 + k * 7919) % 65521, by omega, by omega, ?_⟩
    simp [lints_len, h, h3, hp]


end S3
namespace S3
open PySem
/-! k05: marks -/
theorem st5 (k : Nat) (g : String) (T : Def) (h : tab g = some T) : sem tab (k + 1) g = T.run (sem tab k) := by funext ds; simp only [sem, h]
def isT : RC → Bool
  | .ok false (.bl true) [] => true
  | _ => false
theorem isT_eq {r : RC} (h : isT r = true) : r = .ok false (.bl true) [] := by
  unfold isT at h
  split at h
  · rfl
  · cases h
def wd (a : Nat) : Str := wk_Mark_WORDS.getD a ""
def mkD (a : Nat) : D := .obj "@Mark" [("word", .str (wd a)), ("rank", .int a)]
def WL : List D := wk_Mark_WORDS.map D.str
def isMk (a : Nat) : D → Bool
  | .obj c [(f, .str x), (g, .int i)] => decide (c = "@Mark") && decide (f = "word") && decide (g = "rank") && decide (x = wd a) && decide (i = a)
  | _ => false
theorem isMk_eq {a : Nat} {d : D} (h : isMk a d = true) : d = mkD a := by
  unfold isMk at h
  split at h
  · simp only [Bool.and_eq_true, decide_eq_true_iff] at h
    obtain ⟨⟨⟨⟨rfl, rfl⟩, rfl⟩, rfl⟩, rfl⟩ := h
    rfl
  · cases h
def isI (a : Nat) : RC → Bool
  | .ok false .non [d] => isMk a d
  | _ => false
theorem isI_eq {a : Nat} {r : RC} (h : isI a r = true) : r = .ok false .non [mkD a] := by
  unfold isI at h
  split at h
  · rw [isMk_eq h]
  · cases h
def isV (a : Nat) : RC → Bool
  | .ok false d [] => isMk a d
  | _ => false
theorem isV_eq {a : Nat} {r : RC} (h : isV a r = true) : r = .ok false (mkD a) [] := by
  unfold isV at h
  split at h
  · rw [isMk_eq h]
  · cases h
theorem lt4 {P : Nat → Prop} (h0 : P 0) (h1 : P 1) (h2 : P 2) (h3 : P 3) : ∀ a, a < 4 → P a := fun a h => by
  match a, h with
  | 0, _ => exact h0
  | 1, _ => exact h1
  | 2, _ => exact h2
  | 3, _ => exact h3
theorem init38 : ∀ a, a < 4 → sem tab 38 "Mark.__init__" [.obj "@Mark" [], .str (wd a)] = .ok false .non [mkD a] :=
  lt4 (isI_eq (by decide +kernel)) (isI_eq (by decide +kernel)) (isI_eq (by decide +kernel)) (isI_eq (by decide +kernel))
theorem init37 : sem tab 37 "Mark.__init__" [.obj "@Mark" [], .str "none"] = .ok false .non [mkD 0] := isI_eq (by decide +kernel)
theorem or37 : ∀ a, a < 4 → ∀ b, b < 4 → sem tab 37 "Mark.__or__" [mkD a, mkD b] = .ok false (mkD (max a b)) [] :=
  lt4 (lt4 (isV_eq (by decide +kernel)) (isV_eq (by decide +kernel)) (isV_eq (by decide +kernel)) (isV_eq (by decide +kernel)))
    (lt4 (isV_eq (by decide +kernel)) (isV_eq (by decide +kernel)) (isV_eq (by decide +kernel)) (isV_eq (by decide +kernel)))
    (lt4 (isV_eq (by decide +kernel)) (isV_eq (by decide +kernel)) (isV_eq (by decide +kernel)) (isV_eq (by decide +kernel)))
    (lt4 (isV_eq (by decide +kernel)) (isV_eq (by decide +kernel)) (isV_eq (by decide +kernel)) (isV_eq (by decide +kernel)))
theorem is38 : ∀ a, a < 4 → sem tab 38 "_law_is" [mkD a, .str (wd a)] = .ok false (.bl true) [] :=
  lt4 (isT_eq (by decide +kernel)) (isT_eq (by decide +kernel)) (isT_eq (by decide +kernel)) (isT_eq (by decide +kernel))
theorem pairs39 : sem tab 39 "_law_pairs_right" [.lst WL] = .ok false (.bl true) [] := isT_eq (by decide +kernel)
theorem wl_get : ∀ a : Nat, a < 4 → opIx (.lst WL) (.int a) = some (.fz (.str (wd a))) := lt4 rfl rfl rfl rfl
/-! the strongest of some -/
def mx (a : Nat) (l : List Nat) : Nat := l.foldl max a
theorem mx_lt : ∀ {l : List Nat} {a : Nat}, a < 4 → (∀ b ∈ l, b < 4) → mx a l < 4
  | [], _, h, _ => h
  | b :: l, a, h, k => mx_lt (l := l) (a := max a b) (by have := k b List.mem_cons_self; omega) fun c hc => k c (List.mem_cons_of_mem _ hc)
theorem mx_take {l : List Nat} {i b : Nat} (h : l[i]? = some b) : mx 0 (l.take (i + 1)) = max (mx 0 (l.take i)) b := by
  unfold mx
  rw [List.take_add_one, h]
  simp [List.foldl_append]
theorem ownV_mk {phi : List D → RC} {f g : EV} {e e1 e2 : Env} {a b c : Nat} (h1 : eFz f e = .ok (.fz (mkD a)) e1) (h2 : eFz g e1 = .ok (.fz (mkD b)) e2) (h : phi [mkD a, mkD b] = .ok false (mkD c) []) : eOwnV "@Mark" phi f g e = .ok (.fz (mkD c)) e2 := by
  unfold eOwnV
  rw [eBind_e, h1]
  dsimp only
  rw [eBind_e, h2]
  unfold mkD at h ⊢
  simp [h]
theorem star_run (phi : String → List D → RC) (hI : phi "Mark.__init__" [.obj "@Mark" [], .str "none"] = .ok false .non [mkD 0]) (hO : ∀ a, a < 4 → ∀ b, b < 4 → phi "Mark.__or__" [mkD a, mkD b] = .ok false (mkD (max a b)) [])
    {l : List Nat} (h : ∀ a ∈ l, a < 4) : T_strongest.run phi [.tup (l.map mkD)] = .ok l.isEmpty (mkD (mx 0 l)) [] := by
  rw [run_is rfl]
  show finish [.v] (b_strongest phi [.fz (.tup (l.map mkD)), .no, .no]) = _
  unfold b_strongest
  rw [sSeq_e]
  simp [hI, -sSeq_e]
  refine seq_for (ds := l.map mkD) (e0 := [.fz (.tup (l.map mkD)), .ow (mkD 0), .no]) (Q := fun r => finish [.v] r = .ok l.isEmpty (mkD (mx 0 l)) []) (by simp)
    (fun i e => ∃ s, e = [.fz (.tup (l.map mkD)), s, .no] ∧ ((i = 0 ∧ s = .ow (mkD (mx 0 (l.take i)))) ∨ (i ≠ 0 ∧ s = .fz (mkD (mx 0 (l.take i)))))) ⟨_, rfl, .inl ⟨rfl, rfl⟩⟩ ?_ ?_
  · rintro R _ _ _ i d e hd ⟨s, rfl, hs⟩
    rw [List.getElem?_map, Option.map_eq_some_iff] at hd
    obtain ⟨b, hb, rfl⟩ := hd
    have hb4 := h b (List.mem_of_getElem? hb)
    have ha4 : mx 0 (l.take i) < 4 := mx_lt (by decide) fun c hc => h c (List.mem_of_mem_take hc)
    refine ⟨_, rfl, ?_⟩
    rw [mx_take hb]
    generalize mx 0 (l.take i) = a at *
    have k := ownV_mk (phi := phi "Mark.__or__") (f := eSlot 1) (g := eSlot 2) (e := [.fz (.tup (l.map mkD)), s, .fz (mkD b)]) (e1 := [.fz (.tup (l.map mkD)), .fz (mkD a), .fz (mkD b)]) (e2 := [.fz (.tup (l.map mkD)), .fz (mkD a), .fz (mkD b)])
      (by rcases hs with ⟨_, rfl⟩ | ⟨_, rfl⟩ <;> simp [eFz]) (by simp [eFz]) (hO a ha4 b hb4)
    show turnP [2] _ R (sSet 1 (eOwnV "@Mark" (phi "Mark.__or__") (eSlot 1) (eSlot 2)) [.fz (.tup (l.map mkD)), s, .fz (mkD b)])
    rw [sSet_e, k]
    exact ⟨_, rfl, .inr ⟨by omega, rfl⟩⟩
  · rintro e ⟨s, rfl, hs⟩
    rw [List.length_map, List.take_length] at hs
    rcases hs with ⟨z, rfl⟩ | ⟨z, rfl⟩
    · rw [List.eq_nil_of_length_eq_zero z]
      simp
    · have e : l.isEmpty = false := by cases l with
        | nil => exact absurd rfl z
        | cons _ _ => rfl
      rw [e]
      simp
def intsN (l : List Nat) : List D := l.map fun k : Nat => D.int (k : Int)
theorem greatest_run (phi : String → List D → RC) (l : List Nat) : T__law_greatest.run phi [.lst (intsN l)] = .ok false (.int (mx 0 l : Nat)) [] := by
  rw [run_is rfl]
  show finish [.r] (b__law_greatest phi [.bo (.lst (intsN l)), .no, .no]) = _
  unfold b__law_greatest
  rw [sSeq_e]
  simp [-sSeq_e]
  refine seq_for (ds := intsN l) (e0 := [.bo (.lst (intsN l)), .fz (.int 0), .no]) (Q := fun r => finish [.r] r = .ok false (.int (mx 0 l : Nat)) []) (by simp)
    (fun i e => e = [.bo (.lst (intsN l)), .fz (.int (mx 0 (l.take i) : Nat)), .no]) rfl ?_ ?_
  · rintro R _ _ _ i d e hd rfl
    unfold intsN at hd
    rw [List.getElem?_map, Option.map_eq_some_iff] at hd
    obtain ⟨b, hb, rfl⟩ := hd
    refine ⟨_, rfl, ?_⟩
    rw [mx_take hb]
    generalize mx 0 (l.take i) = a
    by_cases c : a < b
    · have e : max a b = b := by omega
      simp [c, e]
    · have e : max a b = a := by omega
      simp [c, e]
  · rintro e rfl
    unfold intsN
    rw [List.length_map, List.take_length]
    simp

end S3
namespace S3
open PySem
/-! k05: many marks -/
theorem mx_ub : ∀ {l : List Nat} {a m : Nat}, mx a l ≤ m ↔ a ≤ m ∧ ∀ b ∈ l, b ≤ m
  | [], a, m => by simp [mx]
  | b :: l, a, m => by
    have ih := mx_ub (l := l) (a := max a b) (m := m)
    show mx (max a b) l ≤ m ↔ _
    rw [ih]
    simp only [List.mem_cons, forall_eq_or_imp]
    constructor
    · rintro ⟨h, k⟩; exact ⟨by omega, by omega, k⟩
    · rintro ⟨h, k, q⟩; exact ⟨by omega, q⟩
theorem mx_rev {l : List Nat} : mx 0 l.reverse = mx 0 l :=
  Nat.le_antisymm (mx_ub.mpr ⟨Nat.zero_le _, fun b hb => (mx_ub.mp (Nat.le_refl _)).2 b (List.mem_reverse.mp hb)⟩) (mx_ub.mpr ⟨Nat.zero_le _, fun b hb => (mx_ub.mp (Nat.le_refl _)).2 b (List.mem_reverse.mpr hb)⟩)
theorem star38 {l : List Nat} (h : ∀ a ∈ l, a < 4) : opStar (sem tab 38 "strongest") (.tup (l.map mkD)) = some (rv l.isEmpty (mkD (mx 0 l))) := by
  have e : sem tab 38 "strongest" [.tup (l.map mkD)] = .ok l.isEmpty (mkD (mx 0 l)) [] := by
    rw [st5 37 _ T_strongest rfl]; exact star_run _ init37 or37 h
  show (match sem tab 38 "strongest" [.tup (l.map mkD)] with | .ok n d _ => some (rv n d) | _ => none) = _
  rw [e]
theorem greatest38 (l : List Nat) : sem tab 38 "_law_greatest" [.lst (intsN l)] = .ok false (.int (mx 0 l : Nat)) [] := by
  rw [st5 37 _ T__law_greatest rfl]; exact greatest_run _ l
theorem made38 {l : List Nat} (h : ∀ a ∈ l, a < 4) (hz : l.length ≤ 100) {e : Env} (he : e = [.bo (.lst (intsN l)), .bo (.lst WL), .no, .no, .no, .no, .no]) :
    eLc [3] (.one 3) (wAny (eSlot 0)) tYesS (eMake "@Mark" (sem tab 38 "Mark.__init__") [.v] (aKeep (eOp2 opIx (eSlot 1) (eSlot 3)) aNil)) e = .ok (.nw (.lst (l.map mkD))) e := by
  subst he
  refine eLc_ok (xs := intsN l) (by simp) ?_ (by unfold intsN; rw [List.length_map]; omega)
  unfold intsN
  rw [lcL_mp (mk := fun k : Nat => D.int (k : Int)) mkD fun a ha => ?_, List.nil_append]
  simp [lc1, wl_get a (h a ha), init38 a (h a ha), -opIx_l]
set_option maxHeartbeats 2000000 in
theorem many39 {l : List Nat} (h : ∀ a ∈ l, a < 4) (hl : l.length = 8) : sem tab 39 "_law_many_right" [.lst (intsN l), .lst WL] = .ok false (.bl true) [] := by
  rw [st5 38 _ T__law_many_right rfl, run_is rfl]
  show finish [.r, .r] (b__law_many_right (sem tab 38) [.bo (.lst (intsN l)), .bo (.lst WL), .no, .no, .no, .no, .no]) = _
  unfold b__law_many_right
  rw [sSeq_e, sSet_e, made38 h (by omega) rfl]
  obtain ⟨k0, k1, k2, k3, k4, k5, k6, k7, rfl⟩ : ∃ a b c d e f g i, l = [a, b, c, d, e, f, g, i] := by
    match l, hl with
    | [a, b, c, d, e, f, g, i], _ => exact ⟨_, _, _, _, _, _, _, _, rfl⟩
  have h0 : k0 < 4 := h _ (by simp)
  have h1 : k1 < 4 := h _ (by simp)
  have h2 : k2 < 4 := h _ (by simp)
  have h3 : k3 < 4 := h _ (by simp)
  have h4 : k4 < 4 := h _ (by simp)
  have h5 : k5 < 4 := h _ (by simp)
  have h6 : k6 < 4 := h _ (by simp)
  have h7 : k7 < 4 := h _ (by simp)
  have L : ∀ {xs : List Nat}, (∀ a ∈ xs, a < 4) → mx 0 xs < 4 := fun q => mx_lt (by decide) q
  have q0 : ∀ a ∈ ([] : List Nat), a < 4 := by simp
  have q1 : ∀ a ∈ [k0], a < 4 := by simp [h0]
  have q2 : ∀ a ∈ [k0, k1], a < 4 := by simp [h0, h1]
  have q3 : ∀ a ∈ [k0, k1, k2], a < 4 := by simp [h0, h1, h2]
  have q6 : ∀ a ∈ [k0, k1, k2, k3, k4, k5], a < 4 := by simp [h0, h1, h2, h3, h4, h5]
  have q8 : ∀ a ∈ [k7, k6, k5, k4, k3, k2, k1, k0], a < 4 := by simp [h0, h1, h2, h3, h4, h5, h6, h7]
  have q9 : ∀ a ∈ [0, 0, 0, 0, 0, 0, 0, 0, 0, 1], a < 4 := by simp
  have s0 : opStar (sem tab 38 "strongest") (.tup []) = some (.nw (mkD 0)) := star38 q0
  have s1 : opStar (sem tab 38 "strongest") (.tup [mkD k0]) = some (.fz (mkD (mx 0 [k0]))) := star38 q1
  have s2 : opStar (sem tab 38 "strongest") (.tup [mkD k0, mkD k1]) = some (.fz (mkD (mx 0 [k0, k1]))) := star38 q2
  have s3 : opStar (sem tab 38 "strongest") (.tup [mkD k0, mkD k1, mkD k2]) = some (.fz (mkD (mx 0 [k0, k1, k2]))) := star38 q3
  have s6 : opStar (sem tab 38 "strongest") (.tup [mkD k0, mkD k1, mkD k2, mkD k3, mkD k4, mkD k5]) = some (.fz (mkD (mx 0 [k0, k1, k2, k3, k4, k5]))) := star38 q6
  have s8 : opStar (sem tab 38 "strongest") (.tup [mkD k7, mkD k6, mkD k5, mkD k4, mkD k3, mkD k2, mkD k1, mkD k0]) = some (.fz (mkD (mx 0 [k7, k6, k5, k4, k3, k2, k1, k0]))) := star38 q8
  have s9 : opStar (sem tab 38 "strongest") (.tup [mkD 0, mkD 0, mkD 0, mkD 0, mkD 0, mkD 0, mkD 0, mkD 0, mkD 0, mkD 1]) = some (.fz (mkD 1)) := star38 q9
  have e1 : mx 0 [k0] = k0 := by simp [mx]
  have e8 : mx 0 [k7, k6, k5, k4, k3, k2, k1, k0] = mx 0 [k0, k1, k2, k3, k4, k5, k6, k7] := mx_rev (l := [k0, k1, k2, k3, k4, k5, k6, k7])
  rw [e1] at s1
  have l8 := L q8
  rw [e8] at s8 l8
  have g2 := greatest38 [k0, k1]
  have g3 := greatest38 [k0, k1, k2]
  have g6 := greatest38 [k0, k1, k2, k3, k4, k5]
  have g8 := greatest38 [k0, k1, k2, k3, k4, k5, k6, k7]
  have i0 := is38 0 (by decide)
  have i1 := is38 1 (by decide)
  have w2 := wl_get _ (L q2)
  have w3 := wl_get _ (L q3)
  have w6 := wl_get _ (L q6)
  have w8 := wl_get _ l8
  have j2 := is38 _ (L q2)
  have j3 := is38 _ (L q3)
  have j6 := is38 _ (L q6)
  have j8 := is38 _ l8
  have v0 := wl_get _ h0
  have u0 := is38 _ h0
  generalize mx 0 [k0, k1] = x2 at *
  generalize mx 0 [k0, k1, k2] = x3 at *
  generalize mx 0 [k0, k1, k2, k3, k4, k5] = x6 at *
  generalize mx 0 [k0, k1, k2, k3, k4, k5, k6, k7] = x8 at *
  have c2 : opCutHi (.lst (intsN [k0, k1, k2, k3, k4, k5, k6, k7])) (.int 2) = some (.nw (.lst (intsN [k0, k1]))) := rfl
  have c3 : opCutHi (.lst (intsN [k0, k1, k2, k3, k4, k5, k6, k7])) (.int 3) = some (.nw (.lst (intsN [k0, k1, k2]))) := rfl
  have c6 : opCutHi (.lst (intsN [k0, k1, k2, k3, k4, k5, k6, k7])) (.int 6) = some (.nw (.lst (intsN [k0, k1, k2, k3, k4, k5]))) := rfl
  have pi : ∀ (i k : Nat), [k0, k1, k2, k3, k4, k5, k6, k7][i]? = some k → opIx (.lst (intsN [k0, k1, k2, k3, k4, k5, k6, k7])) (.int i) = some (.fz (.int (k : Int))) := fun i k hk => by
    rw [opIx_l, atI_nat (x := D.int (k : Int)) (by omega) (by unfold intsN; rw [Int.toNat_natCast, List.getElem?_map, hk]; rfl)]
    rfl
  have mi : ∀ (i k : Nat), [k0, k1, k2, k3, k4, k5, k6, k7][i]? = some k → opIx (.lst ([k0, k1, k2, k3, k4, k5, k6, k7].map mkD)) (.int i) = some (.fz (mkD k)) := fun i k hk => by
    rw [opIx_l, atI_nat (x := mkD k) (by omega) (by rw [Int.toNat_natCast, List.getElem?_map, hk]; rfl)]
    rfl
  have p0 : opIx (.lst (intsN [k0, k1, k2, k3, k4, k5, k6, k7])) (.int 0) = some (.fz (.int (k0 : Int))) := pi 0 k0 rfl
  have m0 : opIx (.lst ([k0, k1, k2, k3, k4, k5, k6, k7].map mkD)) (.int 0) = some (.fz (mkD k0)) := mi 0 k0 rfl
  have m1 : opIx (.lst ([k0, k1, k2, k3, k4, k5, k6, k7].map mkD)) (.int 1) = some (.fz (mkD k1)) := mi 1 k1 rfl
  have m2 : opIx (.lst ([k0, k1, k2, k3, k4, k5, k6, k7].map mkD)) (.int 2) = some (.fz (mkD k2)) := mi 2 k2 rfl
  have m3 : opIx (.lst ([k0, k1, k2, k3, k4, k5, k6, k7].map mkD)) (.int 3) = some (.fz (mkD k3)) := mi 3 k3 rfl
  have m4 : opIx (.lst ([k0, k1, k2, k3, k4, k5, k6, k7].map mkD)) (.int 4) = some (.fz (mkD k4)) := mi 4 k4 rfl
  have m5 : opIx (.lst ([k0, k1, k2, k3, k4, k5, k6, k7].map mkD)) (.int 5) = some (.fz (mkD k5)) := mi 5 k5 rfl
  have m6 : opIx (.lst ([k0, k1, k2, k3, k4, k5, k6, k7].map mkD)) (.int 6) = some (.fz (mkD k6)) := mi 6 k6 rfl
  have m7 : opIx (.lst ([k0, k1, k2, k3, k4, k5, k6, k7].map mkD)) (.int 7) = some (.fz (mkD k7)) := mi 7 k7 rfl
  have mk0 : sem tab 38 "Mark.__init__" [.obj "@Mark" [], .str "none"] = .ok false .non [mkD 0] := init38 0 (by decide)
  have mk1 : sem tab 38 "Mark.__init__" [.obj "@Mark" [], .str "own"] = .ok false .non [mkD 1] := init38 1 (by decide)
  have i0 : sem tab 38 "_law_is" [mkD 0, .str "none"] = .ok false (.bl true) [] := i0
  have i1 : sem tab 38 "_law_is" [mkD 1, .str "own"] = .ok false (.bl true) [] := i1
  generalize hM : [k0, k1, k2, k3, k4, k5, k6, k7].map mkD = M at *
  generalize hP : intsN [k0, k1, k2, k3, k4, k5, k6, k7] = PL at *
  have wl_get' := wl_get
  generalize WL = WW at *
  clear hM hP
  dsimp only [setS_nw]
  rw [sSeq_e]
  simp [s0, i0, m0, s1, p0, v0, u0, -opIx_l, -sSeq_e]
  rw [sSeq_e]
  simp [m0, m1, s2, c2, g2, w2, j2, -opIx_l, -sSeq_e]
  rw [sSeq_e]
  simp [m0, m1, m2, s3, c3, g3, w3, j3, -opIx_l, -sSeq_e]
  rw [sSeq_e]
  simp [m0, m1, m2, m3, m4, m5, s6, -opIx_l, -sSeq_e]
  rw [sSeq_e]
  simp [c6, g6, w6, j6, -opIx_l, -sSeq_e]
  rw [sSeq_e]
  simp [m0, m1, m2, m3, m4, m5, m6, m7, s8, -opIx_l, -sSeq_e]
  rw [sSeq_e]
  simp [g8, w8, j8, -opIx_l, -sSeq_e]
  refine seq_for (ds := rng 0 8) (e0 := [.bo (.lst PL), .bo (.lst WW), .ow (.lst M), .no, .fz (mkD x8), .no, .no]) (Q := fun r => finish [.r, .r] r = .ok false (.bl true) []) (by simp)
    (fun i e => e = [.bo (.lst PL), .bo (.lst WW), .ow (.lst M), .no, .fz (mkD x8), .no, .no]) rfl ?_ ?_
  · rintro R _ _ _ i d e hd rfl
    obtain ⟨rfl, hi⟩ := rng0_get hd
    have hi : i < 8 := by omega
    obtain ⟨k, hk⟩ : ∃ k, [k0, k1, k2, k3, k4, k5, k6, k7][i]? = some k := ⟨_, List.getElem?_eq_getElem (by simpa using hi)⟩
    have hk4 := h k (List.mem_of_getElem? hk)
    refine ⟨_, rfl, ?_⟩
    simp [pi i k hk, mi i k hk, wl_get' k hk4, is38 k hk4, -opIx_l]
  · rintro e rfl
    rw [sSeq_e]
    simp [mk0, -opIx_l, -sSeq_e]
    rw [sSeq_e]
    simp [mk1, s9, -opIx_l, -sSeq_e]
    simp [i0, i1]

end S3
namespace S3
open PySem
/-! k05: odd words; the law -/
theorem sTry5 (sub : Str → Bool) (i : Nat) (b h : SV) (e : Env) : sTry sub i b h e = match b e with
  | .ex x e1 => if xnm x.c then (if sub x.c then (match h (e1.set i (.fz (.xn x.c x.fs))) with
      | .nx e2 => .nx ((keepX e2).set i .no)
      | .bk e2 => .bk ((keepX e2).set i .no)
      | .ct e2 => .ct ((keepX e2).set i .no)
      | .rt (.fz d) e2 => if xfree 12 d then .rt (.fz d) (keepX e2) else .no
      | .rt (.nw d) e2 => if xfree 12 d then .rt (.nw d) (keepX e2) else .no
      | _ => .no) else .ex x e1) else .no
  | r => r := rfl
theorem init_bad (phi : String → List D → RC) {x : Str} (h : x ∉ wk_Mark_WORDS) : T_Mark___init__.run phi [.obj "@Mark" [], .str x] = .ex ⟨"InvalidMark", [("word", .str x)]⟩ [.obj "@Mark" []] := by
  rw [run_is rfl]
  show finish [.m, .v] (b_Mark___init__ phi [.mu (.obj "@Mark" []), .fz (.str x)]) = _
  unfold b_Mark___init__
  have c : opCon ["@Mark"] "WORDS" (.kt (wk_Mark_WORDS.map D.str)) (.obj "@Mark" []) = some (.fz (.kt (wk_Mark_WORDS.map D.str))) := rfl
  have t : txtsOf (wk_Mark_WORDS.map D.str) = some wk_Mark_WORDS := rfl
  have k : opNinK (.str x) (.kt (wk_Mark_WORDS.map D.str)) = some (.fz (.bl true)) := by
    simp only [opNinK, t, Option.map_some, decide_eq_false h, Bool.not_false]
  rw [sSeq_e]
  simp [c, k, sRaise]
theorem refused_run (phi : String → List D → RC) {x : Str} (hI : phi "Mark.__init__" [.obj "@Mark" [], .str x] = .ex ⟨"InvalidMark", [("word", .str x)]⟩ [.obj "@Mark" []]) : T__law_refused.run phi [.str x] = .ok false (.bl true) [] := by
  rw [run_is rfl]
  show finish [.v] (b__law_refused phi [.fz (.str x), .no]) = _
  unfold b__law_refused
  have s1 : subs ["InvalidMark"] "InvalidMark" = true := by decide
  have s2 : ∀ m, subs [] m = false := fun m => by simp [subs]
  have nm : xnm "InvalidMark" = true := by decide
  have xf : opXf "word" (.xn "InvalidMark" [("word", .str x)]) = some (.fz (.str x)) := rfl
  have xi : ∀ (sub : Str → Bool) (fs : List (Str × D)), opXis sub (.xn "InvalidMark" fs) = some (.fz (.bl (sub "InvalidMark"))) := fun _ _ => rfl
  have t3 : opIsTy "str" (.str x) = some (.fz (.bl true)) := rfl
  have q : opEq (.str x) (.str x) = some (.fz (.bl (decide (x = x)))) := opEq_enc x x
  rw [decide_eq_true rfl] at q
  simp [sTry5, hI, s1, s2, nm, xf, xi, t3, q, xfree, keepX]
theorem sign5 (phi : String → List D → RC) {k : Int} (hk : 0 ≤ k) : ∃ c : Str, c.length = 1 ∧ T__law_sign_at.run phi [.int k] = .ok false (.str c) [] := by
  rw [run_is rfl]
  show ∃ c : Str, _ ∧ finish [.r] (b__law_sign_at phi [.bo (.int k), .no]) = _
  unfold b__law_sign_at
  generalize h1 : (Str.ofString " !\"#$&'()*+,-./0123456789:;<=>?@ABCDEFGHIJKLMNOPQRSTUVWXYZ[\\]^_`") = A
  generalize h2 : (Str.ofString "abcdefghijklmnopqrstuvwxyz{|}~\n") = B
  have hl : (A ++ B).cps.toList.length = 95 := by rw [← h1, ← h2]; decide +kernel
  have hz : A.length + B.length ≤ BIG := by rw [← h1, ← h2]; decide +kernel
  obtain ⟨c, h3⟩ : ∃ c, (A ++ B).cps.toList[(k % 95).toNat]? = some c := ⟨_, List.getElem?_eq_getElem (by rw [hl]; omega)⟩
  have h4 : L2.atI (A ++ B).cps.toList (k % 95) = some c := atI_nat (by omega) h3
  have ha : opAdd (.str A) (.str B) = some (.fz (.str (A ++ B))) := by rw [opAdd_s, if_pos hz]
  refine ⟨⟨#[c]⟩, rfl, ?_⟩
  simp [ha, -opAdd_s]
  simp [h4]
theorem nth5 {ps : List Int} (hr : InR ps) (h3 : 3 ≤ ps.length) {k : Int} (h0 : 0 ≤ k) (h1 : k < 100) : ∃ p, 0 ≤ p ∧ p < 65536 ∧ sem tab 39 "_law_nth" [lints ps, .int k] = .ok false (.int p) [] := by
  rw [st5 38 _ T__law_nth rfl]; exact nth_run _ hr h3 h0 (by omega)
theorem lc_exists {t : Tg} {c : TV} {f : EV} {e : Env} {P : Nat → D → Prop} : ∀ {n : Nat} (a : Int), (∀ i : Nat, i < n → ∃ k : Nat, k < 4 ∧ lc1 t c f e (.int (a + i)) = some (some (.int (k : Int)))) → ∃ l : List Nat, l.length = n ∧ (∀ k ∈ l, k < 4) ∧ ∀ acc, lcL t c f ((List.range n).map fun i : Nat => D.int (a + (i : Int))) e acc = some (acc ++ intsN l)
  | 0, a, h => ⟨[], rfl, by simp, fun acc => by simp [lcL, intsN]⟩
  | n + 1, a, h => by
    have hx : ∀ i : Nat, ∃ k : Nat, i < n + 1 → k < 4 ∧ lc1 t c f e (.int (a + i)) = some (some (.int (k : Int))) := fun i => by
      by_cases c : i < n + 1
      · obtain ⟨k, h1, h2⟩ := h i c; exact ⟨k, fun _ => ⟨h1, h2⟩⟩
      · exact ⟨0, fun z => absurd z c⟩
    obtain ⟨g, hg⟩ := Classical.axiomOfChoice hx
    refine ⟨(List.range (n + 1)).map g, by simp, fun k hk => ?_, fun acc => ?_⟩
    · obtain ⟨i, hi, rfl⟩ := List.mem_map.mp hk
      exact (hg i (List.mem_range.mp hi)).1
    · rw [lcL_mp (mk := fun i : Nat => D.int (a + (i : Int))) (fun i => D.int (g i : Int)) fun i hi => (hg i (List.mem_range.mp hi)).2]
      unfold intsN
      rw [List.map_map]
      rfl
theorem sol (ns : List Int) (hn : ns.length ≤ 63) : sem tab 40 "law" [.scr (ns.map .int)] = .ok false (.bl true) [] := by
  obtain ⟨ps, h3, h4, hr, hd⟩ := draws_run (sem tab 38) ns hn
  rw [st5 39 _ T_law rfl]
  have run : T_law.run (sem tab 39) [.scr (ns.map .int)] = finish [.v] (b_law (sem tab 39) [.fz (.scr (ns.map .int)), .no, .no, .no, .no, .no, .no]) := run_is rfl
  rw [run]
  unfold b_law
  have hD : sem tab 39 "_law_draws_of" [.scr (ns.map .int)] = .ok true (lints ps) [] := by rw [st5 38 _ T__law_draws_of rfl]; exact hd
  obtain ⟨p1, p10, p11, i1⟩ := lints_get hr (i := 1) (by decide) (by omega)
  generalize ns.map D.int = S at hD
  have kt : opIsTupK (.kt (wk_Mark_WORDS.map D.str)) = some (.fz (.bl true)) := rfl
  have ne : opNeK (.kt (wk_Mark_WORDS.map D.str)) (.tup [.str "none", .str "own", .str "read", .str "write"]) = some (.fz (.bl false)) := by
    have e : PyData.eqv (py 6 (.tup (wk_Mark_WORDS.map D.str))) (py 6 (.tup [.str "none", .str "own", .str "read", .str "write"])) = true := by decide +kernel
    unfold opNeK
    dsimp only
    rw [if_pos (by decide +kernel), e]
    rfl
  have wl : [D.str "none", D.str "own", D.str "read", D.str "write"] = WL := rfl
  have lp : ∀ e : Env, e = [.fz (.scr S), .ow (lints ps), .ow (.lst WL), .no, .no, .no, .no] → ∃ l : List Nat, l.length = 8 ∧ (∀ k ∈ l, k < 4) ∧ eLc [4] (.one 4) (wR1 (eC (.int 8))) tYesS (eOp2 opMod (eOp1 opInt (eCall (sem tab 39 "_law_nth") [.r, .r] (aCons (eSlot 1) (aCons (eOp2 opAdd (eC (.int 1)) (eSlot 4)) aNil)))) (eC (.int 4))) e = .ok (.nw (.lst (intsN l))) e := by
    rintro e rfl
    obtain ⟨l, l1, l2, l3⟩ := lc_exists (t := .one 4) (c := tYesS) (f := eOp2 opMod (eOp1 opInt (eCall (sem tab 39 "_law_nth") [.r, .r] (aCons (eSlot 1) (aCons (eOp2 opAdd (eC (.int 1)) (eSlot 4)) aNil)))) (eC (.int 4))) (e := [.fz (.scr S), .bo (lints ps), .bo (.lst WL), .no, .no, .no, .no]) (P := fun _ _ => True) (n := 8) 0 fun i hi => by
      obtain ⟨p, q0, q1, hp⟩ := nth5 hr h3 (k := 1 + (i : Int)) (by omega) (by omega)
      refine ⟨(p % 4).toNat, by omega, ?_⟩
      have e : ((p % 4).toNat : Int) = p % 4 := Int.toNat_of_nonneg (by omega)
      rw [e]
      simp [lc1, hp]
    refine ⟨l, l1, l2, eLc_ok (xs := rng 0 8) (by simp) ?_ (by rw [rng_len]; decide)⟩
    have := l3 []
    rw [List.nil_append] at this
    exact this
  rw [sSeq_e]
  simp [hD, -sSeq_e]
  rw [sSeq_e]
  simp [-sSeq_e]
  rw [wl]
  rw [sSeq_e]
  simp [kt, ne, -sSeq_e]
  rw [sSeq_e]
  simp [pairs39, -sSeq_e]
  obtain ⟨l, l1, l2, l3⟩ := lp _ rfl
  have mn := many39 l2 l1
  rw [sSeq_e, sSet_e, l3]
  generalize intsN l = PL at *
  generalize hWW : WL = WW at *
  dsimp only [setS_nw]
  rw [sSeq_e]
  simp [mn, -sSeq_e]
  rw [sSeq_e]
  simp [-sSeq_e]
  refine seq_for (ds := rng 0 (p1 % 6)) (e0 := [.fz (.scr S), .ow (lints ps), .ow (.lst WW), .ow (.lst PL), .no, .fz (.str ""), .no]) (Q := fun r => finish [.v] r = .ok false (.bl true) []) ?_
    (fun i e => ∃ x : Str, e = [.fz (.scr S), .ow (lints ps), .ow (.lst WW), .ow (.lst PL), .no, .fz (.str x), .no] ∧ x.length ≤ i) ⟨_, rfl, by decide⟩ ?_ ?_
  · have c1 : -4611686018427387904 ≤ p1 % 6 := by omega
    have c2 : p1 % 6 < 4611686018427387904 := by omega
    simp [i1, c1, c2, -opIx_l]
  · rintro R _ _ _ i d e hd ⟨x, rfl, hx⟩
    obtain ⟨rfl, hi⟩ := rng0_get hd
    have hi : i < 6 := by omega
    obtain ⟨p, q0, q1, hp⟩ := nth5 hr h3 (k := 3 + (i : Int)) (by omega) (by omega)
    obtain ⟨c, hc, hs⟩ : ∃ c : Str, c.length = 1 ∧ sem tab 39 "_law_sign_at" [.int p] = .ok false (.str c) [] := by
      rw [st5 38 _ T__law_sign_at rfl]; exact sign5 _ q0
    have ad : opAdd (.str x) (.str c) = some (.fz (.str (x ++ c))) := if_pos (by show _ ≤ 16777216; omega)
    refine ⟨_, rfl, ?_⟩
    simp [hp, hs, ad, -opAdd_s]
    rw [str_len]; omega
  · rintro e ⟨x, rfl, hx⟩
    refine seq_for (ds := [.str "", .str "None", .str "READ", .str " own", .str "write ", .str "rea", .str "reads", .str "0", .str "-", .str x]) (e0 := [.fz (.scr S), .ow (lints ps), .ow (.lst WW), .ow (.lst PL), .no, .fz (.str x), .no]) (Q := fun r => finish [.v] r = .ok false (.bl true) []) (by simp)
      (fun i e => e = [.fz (.scr S), .ow (lints ps), .ow (.lst WW), .ow (.lst PL), .no, .fz (.str x), .no]) rfl ?_ ?_
    · rintro R _ _ _ i d e hd rfl
      obtain ⟨y, rfl⟩ : ∃ y : Str, d = .str y := by
        have hm := List.mem_of_getElem? hd
        simp only [List.mem_cons, List.not_mem_nil, or_false] at hm
        rcases hm with rfl | rfl | rfl | rfl | rfl | rfl | rfl | rfl | rfl | rfl <;> exact ⟨_, rfl⟩
      refine ⟨_, rfl, ?_⟩
      have ni : opNotIn (.str y) (.lst WW) = some (.fz (.bl (!decide (y ∈ wk_Mark_WORDS)))) := by rw [← hWW]; exact opNotIn_enc y wk_Mark_WORDS
      by_cases c : y ∈ wk_Mark_WORDS
      · rw [decide_eq_true c] at ni
        simp [ni]
      · rw [decide_eq_false c] at ni
        have rf : sem tab 39 "_law_refused" [.str y] = .ok false (.bl true) [] := by
          rw [st5 38 _ T__law_refused rfl]
          exact refused_run _ (by rw [st5 37 _ T_Mark___init__ rfl]; exact init_bad _ c)
        simp [ni, rf]
    · rintro e rfl
      simp

end S3
open PySem PySem.W PyProof.Rows
set_option maxRecDepth 100000 in
set_option maxHeartbeats 0 in
theorem hh : PySem.Challenge.rw_letforget_k05_marks_in_order.Holds := by
  w_on; o_law; k_head; (case hw => w_witness2)
  k_fill
  refine S3.lawWalk S3.sol (l := PySem.Challenge.rw_letforget_k05_marks_in_order) rfl rfl (fun w h Y => PySem.W.kIn_of Y) ?F
  case F =>
    intro w mg fa h KX G hmg
    refine' S3.all_mk KX G hmg S3.sol ?z_super ?z_isinstance ?z_len ?z_int ?z_abs ?z_range ?z_str ?z_tuple ?na_Mark ?a0 ?l0 ?d0 ?k0 ?a1 ?l1 ?d1 ?k1 ?a2 ?l2 ?d2 ?k2 ?a3 ?l3 ?d3 ?k3 ?a4 ?l4 ?d4 ?k4 ?a5 ?l5 ?d5 ?k5 ?a6 ?l6 ?d6 ?k6 ?a7 ?l7 ?d7 ?k7 ?a8 ?l8 ?d8 ?k8 ?a9 ?l9 ?d9 ?k9 ?a10 ?l10 ?d10 ?k10 ?a11 ?l11 ?d11 ?k11 ?a12 ?l12 ?d12 ?k12 ?a13 ?l13 ?d13 ?k13 ?a14 ?l14 ?d14 ?k14 ?a15 ?l15 ?d15 ?k15 ?opg_Mark ?ohd_Mark ?opo_Mark ?osa_Mark ?oga_Mark ?omo_Mark ?xhn ?xht ?ono_Mark_word ?ono_Mark_rank ?omk_Mark ?oke_Mark ?ofn_0 ?wf_Mark_WORDS ?wl_Mark_WORDS ?wg_Mark_WORDS ?wv_Mark_WORDS ?wt_Mark_WORDS ?wr_Mark_WORDS ?wa_Mark_WORDS ?ofn_1 ?ofn_2 ?ofn_3 ?ofn_4 ?osf_Mark ?oki_Mark_Mark ?okb_NoneType_Mark ?okb_bool_Mark ?okb_int_Mark ?okb_str_Mark ?okb_list_Mark ?okb_tuple_Mark ?okb_dict_Mark ?na_InvalidMark ?na_InvalidStep ?na_KeeperError ?xo ?xtop ?xL_InvalidMark ?xbm_InvalidMark ?xsa_InvalidMark ?xbe_InvalidMark ?xty_InvalidMark ?xke_InvalidMark ?xno_InvalidMark_word ?xin_InvalidMark ?xfn_InvalidMark ?xti_InvalidMark ?xsu_InvalidMark ?xve_InvalidMark ?xmc_InvalidMark ?xcd_InvalidMark ?xco_InvalidMark ?xvs_InvalidMark ?xfi_InvalidMark ?xce_InvalidMark ?xga_InvalidMark ?xgt_InvalidMark ?xha_InvalidMark ?xhm_InvalidMark ?xhd_InvalidMark ?ki_InvalidMark_InvalidStep ?ki_InvalidMark_KeeperError ?zn_ValueError ?kb_InvalidMark_ValueError ?eb_InvalidMark ?eh_InvalidMark ?et_InvalidMark ?es_InvalidMark_InvalidMark
    (case z_super => k_is)
    (case z_isinstance => k_is)
    (case z_len => k_is)
    (case z_int => k_is)
    (case z_abs => k_is)
    (case z_range => k_is)
    (case z_str => k_is)
    (case z_tuple => k_is)
    (case na_Mark => k_is)
    (case a0 => k_is)
    (case l0 => k_is)
    (case d0 => k_is)
    (case k0 => k_is)
    (case a1 => k_is)
    (case l1 => k_is)
    (case d1 => k_is)
    (case k1 => k_is)
    (case a2 => k_is)
    (case l2 => k_is)
    (case d2 => k_is)
    (case k2 => k_is)
    (case a3 => k_is)
    (case l3 => k_is)
    (case d3 => k_is)
    (case k3 => k_is)
    (case a4 => k_is)
    (case l4 => k_is)
    (case d4 => k_is)
    (case k4 => k_is)
    (case a5 => k_is)
    (case l5 => k_is)
    (case d5 => k_is)
    (case k5 => k_is)
    (case a6 => k_is)
    (case l6 => k_is)
    (case d6 => k_is)
    (case k6 => k_is)
    (case a7 => k_is)
    (case l7 => k_is)
    (case d7 => k_is)
    (case k7 => k_is)
    (case a8 => k_is)
    (case l8 => k_is)
    (case d8 => k_is)
    (case k8 => k_is)
    (case a9 => k_is)
    (case l9 => k_is)
    (case d9 => k_is)
    (case k9 => k_is)
    (case a10 => k_is)
    (case l10 => k_is)
    (case d10 => k_is)
    (case k10 => k_is)
    (case a11 => k_is)
    (case l11 => k_is)
    (case d11 => k_is)
    (case k11 => k_is)
    (case a12 => k_is)
    (case l12 => k_is)
    (case d12 => k_is)
    (case k12 => k_is)
    (case a13 => k_is)
    (case l13 => k_is)
    (case d13 => k_is)
    (case k13 => k_is)
    (case a14 => k_is)
    (case l14 => k_is)
    (case d14 => k_is)
    (case k14 => k_is)
    (case a15 => k_is)
    (case l15 => k_is)
    (case d15 => k_is)
    (case k15 => k_is)
    (case opg_Mark => k_is)
    (case ohd_Mark => k_is)
    (case opo_Mark => k_is)
    (case osa_Mark => k_is)
    (case oga_Mark => k_is)
    (case omo_Mark => k_is)
    (case xhn => k_is)
    (case xht => k_is)
    (case ono_Mark_word => k_is)
    (case ono_Mark_rank => k_is)
    (case omk_Mark => k_is)
    (case oke_Mark => k_is)
    (case ofn_0 => k_is)
    (case wf_Mark_WORDS => k_is)
    (case wl_Mark_WORDS => k_is)
    (case wg_Mark_WORDS => k_is)
    (case wv_Mark_WORDS => exact .cons ⟨_, rfl⟩ (.cons ⟨_, rfl⟩ (.cons ⟨_, rfl⟩ (.cons ⟨_, rfl⟩ (.nil)))))
    (case wt_Mark_WORDS => k_is)
    (case wr_Mark_WORDS => k_is)
    (case wa_Mark_WORDS => k_is)
    (case ofn_1 => k_is)
    (case ofn_2 => k_is)
    (case ofn_3 => k_is)
    (case ofn_4 => k_is)
    (case osf_Mark => k_is)
    (case oki_Mark_Mark => first | k_is | kernel_rfl | rfl)
    (case okb_NoneType_Mark => first | k_is | kernel_rfl | rfl)
    (case okb_bool_Mark => first | k_is | kernel_rfl | rfl)
    (case okb_int_Mark => first | k_is | kernel_rfl | rfl)
    (case okb_str_Mark => first | k_is | kernel_rfl | rfl)
    (case okb_list_Mark => first | k_is | kernel_rfl | rfl)
    (case okb_tuple_Mark => first | k_is | kernel_rfl | rfl)
    (case okb_dict_Mark => first | k_is | kernel_rfl | rfl)
    (case na_InvalidMark => k_is)
    (case na_InvalidStep => k_is)
    (case na_KeeperError => k_is)
    (case xo => k_is)
    (case xtop => first | rfl | k_is)
    (case xL_InvalidMark => k_is)
    (case xbm_InvalidMark => decide +kernel)
    (case xsa_InvalidMark => k_is)
    (case xbe_InvalidMark => k_is)
    (case xty_InvalidMark => k_is)
    (case xke_InvalidMark => k_is)
    (case xno_InvalidMark_word => k_is)
    (case xin_InvalidMark => k_is)
    (case xfn_InvalidMark => k_is)
    (case xti_InvalidMark => k_is)
    (case xsu_InvalidMark => ks_is)
    (case xve_InvalidMark => k_is)
    (case xmc_InvalidMark => k_is)
    (case xcd_InvalidMark => k_is)
    (case xco_InvalidMark => k_is)
    (case xvs_InvalidMark => first | rfl | k_is)
    (case xfi_InvalidMark => first | rfl | k_is)
    (case xce_InvalidMark => k_is)
    (case xga_InvalidMark => k_is)
    (case xgt_InvalidMark => k_is)
    (case xha_InvalidMark => k_is)
    (case xhm_InvalidMark => k_is)
    (case xhd_InvalidMark => k_is)
    (case ki_InvalidMark_InvalidStep => first | k_is | kernel_rfl | rfl)
    (case ki_InvalidMark_KeeperError => first | k_is | kernel_rfl | rfl)
    (case zn_ValueError => k_is)
    (case kb_InvalidMark_ValueError => first | k_is | kernel_rfl | rfl)
    (case eb_InvalidMark => k_is)
    (case eh_InvalidMark => k_is)
    (case et_InvalidMark => k_is)
    (case es_InvalidMark_InvalidMark => k_is)

theorem PySem.Challenge.cw_letforget_k05_marks_in_order_holds : PySem.Challenge.rw_letforget_k05_marks_in_order.Holds := by
  exact hh
