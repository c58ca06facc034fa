import PyProof.Rows.All
import PySem.PyData
import PyProof.P3Statements
import HandS.List
import HandS.Text
import Wide.All
import OpenK.AllK
import Wide.FinOn
import HandS.Set
import HandS.SetBool
import HandS.SetKeys
import HandS.SetIn
import HandS.SetFor
import HandS.Strs
import PyProof.Rows.SortShellAny
import HandS.Comp
import HandS.ForMost
import HandS.ForExc
import HandS.CallSlots
import HandS.Deep
import HandS.IsInst
import HandS.RaiseMore
import HandS.Style
import HandS.Flow
import HandS.TupAny
import HandS.Star
import KE.KExcSuper
import HandS.ExcInit
import HandS.ExcIs
import KE.KExcIs
import HandS.RaiseFrom
import HandS.ExcValue
import PyProof.RulesMatchSeq
import HandS.Property
import OpenK.KMeth
import HandS.SlotsOwn
import HandS.TupSets
import HandS.DictComp
import PyProof.SeqIndex
import HandS.DeepEq
import HandS.More
import HandS.TryOnly
import HandS.FStr
import KE.KxField
import PyProof.FString3
import HandS.ReplaceLit
import HandS.ClsMeth
import HandS.Defaults
import KE.KCallOwn
import HandS.Conv
import HandS.MakeKwOnly
import HandS.OwnIter
import HandS.IterNext
import HandS.TryElse
import KE.KStateDown
import HandS.Head0
import HandS.Head1
import HandS.Head2
import PySem.Challenge.RW_letforget_k10_refutations
set_option Elab.async false
set_option linter.all false
set_option maxRecDepth 100000
namespace HR
open PySem PySem.W PySem.Calls PyProof.Rows
/-! the written part of the heap: k_head's own, kept by its name -/
local macro_rules | `(tactic| o_head $h) => `(tactic| assumption)
abbrev R : OpenRow := OpenLaw.row PySem.Challenge.rw_letforget_k10_refutations
theorem kk (h : R.Holds) : R.Holds := by k_head
abbrev qv : Program := view R.prog [15]
def nm0 : List PySem.Str := ["__name__", "_missed", "_covering", "_refuted", "refutation", "_law_draws_of", "_law_nth", "_law_named", "_law_picked", "_law_groups_of", "_law_hits", "_law_least", "_law_refutes", "_law_wide_right"]
def names : List PySem.Str := nm0
def as0 : List Addr := [2, 3, 6, 15, 18, 19, 20, 22, 23, 25, 26, 27, 30, 31, 32, 34, 35, 37, 38, 39, 41, 42, 44, 45, 46, 48, 49, 51, 52, 53]
def as1 : List Addr := [55, 56, 58, 59, 60, 62, 63, 65, 66, 67, 69, 70, 72, 73, 74, 76, 77, 79, 80, 81, 83, 84, 86, 87, 88, 90, 91, 93, 94, 95]
def as2 : List Addr := [98, 99, 100, 103, 104]
def asL : List Addr := as0 ++ (as1 ++ (as2))
theorem asL_eq (P : Params) : asL = (HR.kk.heap_1 P).map (fun p => p.1) := by kernel_rfl
noncomputable abbrev hk : Hook := kHook HR.kk.heap_1 asL asL_eq
noncomputable def ob (s : SharedT) : hk.α := asL.map (HandSHeadRun.getT s)
theorem ob_eq (s : SharedT) : ob s = hk.obs s.abs := List.map_congr_left fun a _ => HandSHeadRun.getT_eq s a
set_option maxHeartbeats 0 in
theorem runF (w : World) : HandSHeadRun.RunEq R qv hk ob 20000 names (w.withFollow "special-get-raises" false) := by
  intro os
  kernel_rfl
set_option maxHeartbeats 0 in
theorem runT (w : World) : HandSHeadRun.RunEq R qv hk ob 20000 names (w.withFollow "special-get-raises" true) := by
  intro os
  kernel_rfl
theorem run (w : World) : HandSHeadRun.RunEq R qv hk ob 20000 names w := byRow2 "special-get-raises" (P := HandSHeadRun.RunEq R qv hk ob 20000 names) runF runT w
abbrev dL : DefRec := HandSHeadRun.topDef R.prog 15
theorem dL_name : dL.name = ("law" : PySem.Str) := by kernel_rfl
theorem dL_dfl : dL.params.defaults = [] := by kernel_rfl
end HR

/-! A1: a small language of values as trees, its flows and its words (no heap, no program in sight). -/
namespace S3
open PySem

abbrev Key := Sum Int Str

def kIn (k : Key) (xs : List Key) : Bool := xs.any fun j => decide (j = k)
/-- values as trees -/
inductive D where
  | non | bl (b : Bool) | int (i : Int) | str (x : Str)
  | lst (xs : List D) | tup (xs : List D)
  | dk (kvs : List (Key × D)) | dt (kvs : List (List Key × D))
  | st (xs : List Key)
  | obj (c : Str) (fs : List (Str × D))
  | scr (xs : List D)
  | kt (xs : List D)
  | xn (c : Str) (fs : List (Str × D))
  | xv (c : Str) (fs : List (Str × D))
  | cl (c : Str)
  | ob (d : D)
  | any

/-! owned parts (ob) made frozen: a part; what stands at a place -/
mutual
def D.sb : D → D
  | .ob d => d.sbT
  | d => d
def D.sbT : D → D
  | .lst xs => .lst (unbL xs)
  | .tup xs => .tup (unbL xs)
  | .dk kvs => .dk (unbK kvs)
  | .obj c fs => .obj c (unbF fs)
  | d => d
def unbL : List D → List D
  | [] => []
  | d :: ds => d.sb :: unbL ds
def unbK : List (Key × D) → List (Key × D)
  | [] => []
  | (k, d) :: ds => (k, d.sb) :: unbK ds
def unbF : List (Str × D) → List (Str × D)
  | [] => []
  | (k, d) :: ds => (k, d.sb) :: unbF ds
end
/-- a slot: without a value; frozen; owned; lent to be read; lent to be changed; a deep tree (f: new in this frame) -/
inductive Sl where
  | no | fz (d : D) | ow (d : D) | bo (d : D) | mu (d : D) | dp (f : Bool) (d : D)
abbrev Env := List Sl
/-- what an expression gives: a frozen value, a new object, the object that stands at a slot -/
inductive RV where
  | fz (d : D) | nw (d : D) | at (i : Nat) | dn (d : D)
/-- an exception: its class, its fields -/
structure Exn where
  c : Str
  fs : List (Str × D)
inductive RE where
  | ok (r : RV) (e : Env) | ex (x : Exn) (e : Env) | no
inductive RT where
  | ok (b : Bool) (e : Env) | ex (x : Exn) (e : Env) | no
inductive RA where
  | ok (rs : List RV) (e : Env) | ex (x : Exn) (e : Env) | no
inductive RS where
  | nx (e : Env) | rt (r : RV) (e : Env) | bk (e : Env) | ct (e : Env) | ex (x : Exn) (e : Env) | no
/-- a call's end: is the value new; the value; the lent parameters' values behind it -/
inductive RC where
  | ok (n : Bool) (d : D) (outs : List D) | ex (x : Exn) (outs : List D) | no | dp (d : D) (outs : List D)
inductive Md where
  | v | r | m
abbrev EV := Env → RE
abbrev TV := Env → RT
abbrev AV := Env → RA
abbrev SV := Env → RS

def Sl.val : Sl → Option D
  | .no => none | .fz d => some d | .ow d => some d | .bo d => some d | .mu d => some d | .dp _ _ => none
def slot (e : Env) (i : Nat) : Sl := e.getD i .no
/-- to be read -/
def rd : RV → Env → Option D
  | .fz d, _ => some d
  | .nw d, _ => some d
  | .at i, e => (slot e i).val
  | .dn _, _ => none
/-- to be kept: frozen -/
def stl : RV → Env → Option (D × Env)
  | .fz d, e => some (d, e)
  | .nw d, e => some (d, e)
  | .at i, e => (match slot e i with
    | .fz d => some (d, e)
    | .ow d => some (d, e.set i (.fz d))
    | .dp true d => some (d.sbT, e.set i (.fz d.sbT))
    | _ => none)
  | .dn d, e => some (d.sbT, e)

/-! ### expressions -/
def eBind (f : EV) (k : RV → EV) : EV := fun e => match f e with
  | .ok r e1 => k r e1
  | .ex x e1 => .ex x e1
  | .no => .no
def eC (d : D) : EV := fun e => .ok (.fz d) e
def eSlot (i : Nat) : EV := fun e => match slot e i with
  | .no => .no
  | .fz d => .ok (.fz d) e
  | _ => .ok (.at i) e
def ofOp (o : Option RV) (e : Env) : RE := match o with
  | some r => .ok r e
  | none => .no
/-- one value read -/
def eOp1 (op : D → Option RV) (f : EV) : EV := eBind f fun r e => match rd r e with
  | some x => ofOp (op x) e
  | none => .no
/-- two values read -/
def eOp2 (op : D → D → Option RV) (f g : EV) : EV := eBind f fun r => eBind g fun q e => match rd r e, rd q e with
  | some x, some y => ofOp (op x y) e
  | _, _ => .no
/-- an int, known as it comes -/
def eI (f : EV) : EV := eBind f fun r e => match r with
  | .fz (.int i) => .ok (.fz (.int i)) e
  | _ => .no
/-! arguments: from the left; kept values are frozen as they come -/
def aNil : AV := fun e => .ok [] e
def aCons (f : EV) (g : AV) : AV := fun e => match f e with
  | .ok r e1 => (match g e1 with
    | .ok rs e2 => .ok (r :: rs) e2
    | .ex x e2 => .ex x e2
    | .no => .no)
  | .ex x e1 => .ex x e1
  | .no => .no
/-- kept -/
def aKeep (f : EV) (g : AV) : AV := fun e => match f e with
  | .ok r e1 => (match stl r e1 with
    | some (d, e1') => (match g e1' with
      | .ok rs e2 => .ok (.fz d :: rs) e2
      | .ex x e2 => .ex x e2
      | .no => .no)
    | none => .no)
  | .ex x e1 => .ex x e1
  | .no => .no
def fzs : List RV → Option (List D)
  | [] => some []
  | .fz d :: r => (fzs r).map (d :: ·)
  | _ :: _ => none
/-- a display: all items kept -/
def eDisp (mk : List D → RV) (a : AV) : EV := fun e => match a e with
  | .ok rs e1 => (match fzs rs with
    | some ds => if ds.length ≤ 16777216 then .ok (mk ds) e1 else .no
    | none => .no)
  | .ex x e1 => .ex x e1
  | .no => .no

/-! calls -/
/-- the arguments' values by the parameters' modes -/
def argD : List Md → List RV → Env → Option (List D)
  | [], [], _ => some []
  | .v :: ms, .fz d :: rs, e => (argD ms rs e).map (d :: ·)
  | .r :: ms, r :: rs, e => (match rd r e with
    | some d => (argD ms rs e).map (d :: ·)
    | none => none)
  | .m :: ms, .at i :: rs, e => (match slot e i with
    | .ow d => (argD ms rs e).map (d :: ·)
    | .mu d => (argD ms rs e).map (d :: ·)
    | _ => none)
  | _, _, _ => none
/-- the places of the changed ones; all places that are handed on -/
def mutIx : List Md → List RV → List Nat
  | .m :: ms, .at i :: rs => i :: mutIx ms rs
  | _ :: ms, _ :: rs => mutIx ms rs
  | _, _ => []
def atIx : List RV → List Nat
  | .at i :: rs => i :: atIx rs
  | _ :: rs => atIx rs
  | [] => []
/-- no changed place is handed on twice -/
def apart (ms : List Md) (rs : List RV) : Bool := (mutIx ms rs).all fun i => (atIx rs).count i == 1
/-- the changed ones written back -/
def wback : List Nat → List D → Env → Option Env
  | [], [], e => some e
  | i :: is, d :: ds, e => (match slot e i with
    | .ow _ => wback is ds (e.set i (.ow d))
    | .mu _ => wback is ds (e.set i (.mu d))
    | _ => none)
  | _, _, _ => none
def rv (n : Bool) (d : D) : RV := if n then .nw d else .fz d
def eCall (phi : List D → RC) (ms : List Md) (a : AV) : EV := fun e => match a e with
  | .ok rs e1 => (match argD ms rs e1 with
    | some ds => if apart ms rs then (match phi ds with
        | .ok n d outs => (match wback (mutIx ms rs) outs e1 with
          | some e2 => .ok (rv n d) e2
          | none => .no)
        | .ex x outs => (match wback (mutIx ms rs) outs e1 with
          | some e2 => .ex x e2
          | none => .no)
        | .dp d outs => (match wback (mutIx ms rs) outs e1 with
          | some e2 => .ok (.dn d) e2
          | none => .no)
        | .no => .no)
      else .no
    | none => .no)
  | .ex x e1 => .ex x e1
  | .no => .no
def isLst : D → Bool
  | .lst _ => true | _ => false
def mine (k : D → Bool) : Sl → Bool
  | .ow d => k d | .mu d => k d | _ => false
def reown (s : Sl) (d : D) : Sl := match s with
  | .mu _ => .mu d | _ => .ow d
/-- a call that changes the object at a slot: x.append(..); k: its kind -/
def eMut (i : Nat) (k : D → Bool) (op : D → List D → Option (D × RV)) (a : AV) : EV := fun e => if mine k (slot e i) then (match a e with
  | .ok rs e1 => (match fzs rs with
    | some ds => if mine k (slot e1 i) then (match (slot e1 i).val with
      | some d => (match op d ds with
        | some (d', r) => .ok r (e1.set i (reown (slot e1 i) d'))
        | none => .no)
      | none => .no) else .no
    | none => .no)
  | .ex x e1 => .ex x e1
  | .no => .no) else .no

/-! truth, and, or, not -/
def truth : D → Option Bool
  | .non => some false
  | .bl b => some b
  | .int i => some (i != 0)
  | .str x => some (x.length != 0)
  | .lst xs => some (!xs.isEmpty)
  | .tup xs => some (!xs.isEmpty)
  | _ => none
def asBool : D → Option Bool
  | .bl b => some b
  | _ => none
def tRd (p : D → Option Bool) (f : EV) : TV := fun e => match f e with
  | .ok r e1 => (match rd r e1 with
    | some d => (match p d with
      | some b => .ok b e1
      | none => .no)
    | none => .no)
  | .ex x e1 => .ex x e1
  | .no => .no
/-- an expression that gives True or False; any value by its truth -/
def tVal : EV → TV := tRd asBool
def tTru : EV → TV := tRd truth
def tAndS (f g : TV) : TV := fun e => match f e with
  | .ok true e1 => g e1
  | r => r
def tOrS (f g : TV) : TV := fun e => match f e with
  | .ok false e1 => g e1
  | r => r
def tNotS (f : TV) : TV := fun e => match f e with
  | .ok b e1 => .ok (!b) e1
  | r => r
/-! ### statements -/
def sBind (f : SV) (k : SV) : SV := fun e => match f e with
  | .nx e1 => k e1
  | r => r
def sNx : SV := fun e => .nx e
def sSeq (f g : SV) : SV := sBind f g
def sE (f : EV) (k : RV → SV) : SV := fun e => match f e with
  | .ok r e1 => k r e1
  | .ex x e1 => .ex x e1
  | .no => .no
def sExpr (f : EV) : SV := sE f fun _ e => .nx e
/-- handed back: a new object, or one of one's own, or a frozen value -/
def ret (r : RV) (e : Env) : RS := match r with
  | .fz d => .rt (.fz d) e
  | .nw d => .rt (.nw d) e
  | .at i => (match slot e i with
    | .fz d => .rt (.fz d) e
    | .ow d => .rt (.nw d) (e.set i .no)
    | .dp true d => .rt (.dn d) (e.set i .no)
    | _ => .no)
  | .dn d => .rt (.dn d) e
def sRet (f : EV) : SV := sE f ret
def sIf (c : TV) (f g : SV) : SV := fun e => match c e with
  | .ok true e1 => f e1
  | .ok false e1 => g e1
  | .ex x e1 => .ex x e1
  | .no => .no
/-- name = value: a new object is owned -/
def setS (i : Nat) (r : RV) (e : Env) : Option Env := match r with
  | .fz d => some (e.set i (.fz d))
  | .nw d => some (e.set i (.ow d))
  | .at _ => (stl r e).map fun p => p.2.set i (.fz p.1)
  | .dn d => some (e.set i (.dp true d))
def sSet (i : Nat) (f : EV) : SV := sE f fun r e => match setS i r e with
  | some e1 => .nx e1
  | none => .no
/-- names = the items of a frozen tuple -/
def setAll : List Nat → List D → Env → Option Env
  | [], [], e => some e
  | i :: is, d :: ds, e => setAll is ds (e.set i (.fz d))
  | _, _, _ => none
/-- a loop's target: a name; names -/
inductive Tg where
  | one (i : Nat) | tup (is : List Nat)
def tgt : Tg → D → Env → Option Env
  | .one i, d, e => some (e.set i (.fz d))
  | .tup is, .tup ds, e => setAll is ds e
  | _, _, _ => none
/-- slots forgotten -/
def wipeE (e : Env) : List Nat → Env
  | [] => e
  | i :: is => (wipeE e is).set i .no
/-- the turns of a loop; tmp: the slots forgotten behind each turn -/
def forL (tmp : List Nat) (t : Tg) (b : SV) : List D → SV
  | [], e => .nx e
  | d :: ds, e => (match tgt t d e with
    | some e1 => (match b e1 with
      | .nx e2 => forL tmp t b ds (wipeE e2 tmp)
      | .ct e2 => forL tmp t b ds (wipeE e2 tmp)
      | .bk e2 => .nx (wipeE e2 tmp)
      | .rt r e2 => .rt r e2
      | .ex x e2 => .ex x e2
      | .no => .no)
    | none => .no)
/-- what is walked: the items of a value -/
def items : D → Option (List D)
  | .lst xs => some xs
  | .tup xs => some xs
  | .scr xs => some xs
  | .str x => some (x.cps.toList.map fun c => .str ⟨#[c]⟩)
  | _ => none
/-- walked: the value is frozen, or lent to be read -/
def walk (r : RV) (e : Env) : Option (D × Env) := match r with
  | .fz d => some (d, e)
  | .nw d => some (d, e)
  | .at i => (match slot e i with
    | .fz d => some (d, e)
    | .ow d => some (d, e.set i (.fz d))
    | .bo d => some (d, e)
    | .dp true d => some (d.sbT, e.set i (.fz d.sbT))
    | _ => none)
  | .dn d => some (d.sbT, e)
/-- what is walked: the items -/
inductive RW where
  | ok (xs : List D) (e : Env) | ex (x : Exn) (e : Env) | no
abbrev WV := Env → RW
def wE (f : EV) (k : RV → WV) : WV := fun e => match f e with
  | .ok r e1 => k r e1
  | .ex x e1 => .ex x e1
  | .no => .no
def wAny (f : EV) : WV := wE f fun r e => match walk r e with
  | some (d, e1) => (match items d with
    | some xs => .ok xs e1
    | none => .no)
  | none => .no
def rng (a b : Int) : List D := (List.range (b - a).toNat).map fun i => .int (a + (i : Nat))
/-- range(b), range(a, b) -/
def wR1 (g : EV) : WV := wE (eI g) fun q e => match q with
  | .fz (.int y) => if -(2 ^ 62) ≤ y ∧ y < 2 ^ 62 then .ok (rng 0 y) e else .no
  | _ => .no
def sFor (tmp : List Nat) (t : Tg) (w : WV) (b : SV) : SV := fun e => match w e with
  | .ok xs e1 => forL tmp t b xs e1
  | .ex x e1 => .ex x e1
  | .no => .no
/-! ### comprehensions -/
/-- within: what is owned or lent to be changed is lent to be read; the block's own names forgotten -/
def Sl.lock : Sl → Sl
  | .ow d => .bo d
  | .mu d => .bo d
  | .dp _ _ => .no
  | s => s
def lock (e : Env) : Env := e.map Sl.lock
/-- the items made; nothing may be raised -/
def lcL (t : Tg) (c : TV) (f : EV) : List D → Env → List D → Option (List D)
  | [], _, acc => some acc
  | d :: ds, e, acc => (match tgt t d e with
    | some e1 => (match c e1 with
      | .ok true e2 => (match f e2 with
        | .ok r e3 => (match stl r e3 with
          | some (x, _) => lcL t c f ds e (acc ++ [x])
          | none => none)
        | _ => none)
      | .ok false _ => lcL t c f ds e acc
      | _ => none)
    | none => none)
def tYesS : TV := fun e => .ok true e
/-- [f for t in w if c] -/
def eLc (own : List Nat) (t : Tg) (w : WV) (c : TV) (f : EV) : EV := fun e => match w e with
  | .ok xs e1 => (match lcL t c f xs (wipeE (lock e1) own) [] with
    | some ys => if xs.length ≤ 16777216 then .ok (.nw (.lst ys)) e1 else .no
    | none => .no)
  | .ex x e1 => .ex x e1
  | .no => .no

/-! ### a def -/
def startE (ms : List Md) (ds : List D) (n : Nat) : Env :=
  (ms.zip ds).map (fun p => match p.1 with | .v => Sl.fz p.2 | .r => Sl.bo p.2 | .m => Sl.mu p.2) ++ List.replicate (n - ds.length) Sl.no
/-- the lent parameters' values at the end -/
def outsE : List Md → Env → Option (List D)
  | [], _ => some []
  | .m :: ms, .mu d :: e => (outsE ms e).map (d :: ·)
  | .m :: _, _ => none
  | _ :: ms, _ :: e => outsE ms e
  | _ :: _, [] => none
def finish (ms : List Md) : RS → RC
  | .nx e => (match outsE ms e with
    | some o => .ok false .non o
    | none => .no)
  | .rt r e => (match r with
    | .fz d => (match outsE ms e with
      | some o => .ok false d o
      | none => .no)
    | .nw d => (match outsE ms e with
      | some o => .ok true d o
      | none => .no)
    | .dn d => (match outsE ms e with
      | some o => .dp d o
      | none => .no)
    | .at _ => .no)
  | .ex x e => (match outsE ms e with
    | some o => .ex x o
    | none => .no)
  | _ => .no
/-- a def's text: its parameters' modes, the number of its slots, its body over what the others do -/
structure Def where
  ms : List Md
  n : Nat
  body : (String → List D → RC) → SV
def Def.run (f : Def) (phi : String → List D → RC) (ds : List D) : RC :=
  if ds.length = f.ms.length then finish f.ms (f.body phi (startE f.ms ds f.n)) else .no
/-- all defs, by their names, to a depth of calls -/
def sem (tab : String → Option Def) : Nat → String → List D → RC
  | 0, _, _ => .no
  | k + 1, g, ds => match tab g with
    | some f => f.run (sem tab k) ds
    | none => .no
end S3

/-! A2: what the operators and the built-ins give, on trees. -/
namespace S3
open PySem

abbrev BIG : Nat := 16777216
/-- plain data, to a depth -/
def okD : Nat → D → Bool
  | _, .non => true
  | _, .bl _ => true
  | _, .int _ => true
  | _, .str _ => true
  | n + 1, .lst xs => xs.all (okD n)
  | n + 1, .tup xs => xs.all (okD n)
  | _, _ => false
def py : Nat → D → PyData
  | _, .bl b => .bool b
  | _, .int i => .int i
  | _, .str x => .str x
  | n + 1, .lst xs => .list (xs.map (py n))
  | n + 1, .tup xs => .tuple (xs.map (py n))
  | _, _ => .none
/-- x == y -/
def dEq (x y : D) : Option Bool := if okD 6 x && okD 6 y then some (PyData.eqv (py 6 x) (py 6 y)) else none
def bRV (o : Option Bool) : Option RV := o.map fun b => .fz (.bl b)
def opEq (x y : D) : Option RV := bRV (dEq x y)
def opNe (x y : D) : Option RV := bRV ((dEq x y).map not)
def opLt : D → D → Option RV
  | .int i, .int j => some (.fz (.bl (decide (i < j))))
  | .str x, .str y => some (.fz (.bl (decide (x.cps.toList < y.cps.toList))))
  | _, _ => none
def opGt : D → D → Option RV
  | .int i, .int j => some (.fz (.bl (decide (j < i))))
  | .str x, .str y => some (.fz (.bl (decide (y.cps.toList < x.cps.toList))))
  | _, _ => none
def opGe : D → D → Option RV
  | .int i, .int j => some (.fz (.bl (decide (j ≤ i))))
  | .str x, .str y => some (.fz (.bl (!decide (x.cps.toList < y.cps.toList))))
  | _, _ => none
def dIs : D → D → Option Bool
  | x, .non => some (match x with | .non => true | _ => false)
  | .bl a, .bl b => some (decide (a = b))
  | _, _ => none
def opIs (x y : D) : Option RV := bRV (dIs x y)
def opIsNot (x y : D) : Option RV := bRV ((dIs x y).map not)
/-- a dict's or set's key -/
def toKey : D → Option Key
  | .int i => some (.inl i)
  | .str x => some (.inr x)
  | _ => none
def toKeys : List D → Option (List Key)
  | [] => some []
  | d :: ds => match toKey d, toKeys ds with
    | some k, some ks => some (k :: ks)
    | _, _ => none
section
variable {κ : Type} [DecidableEq κ]
def dVal (kvs : List (κ × D)) (k : κ) : Option D := (kvs.find? fun kv => decide (kv.1 = k)).map (·.2)
end
def dGet (x y : D) : Option (Option D) := match x, y with
  | .dk kvs, y => (toKey y).map fun k => dVal kvs k
  | .dt kvs, .tup ys => (toKeys ys).map fun k => dVal kvs k
  | _, _ => none
def dIn (x y : D) : Option Bool := match y with
  | .lst ys => if okD 6 x && ys.all (okD 5) then some (ys.any fun z => PyData.eqv (py 6 z) (py 6 x)) else none
  | .tup ys => if okD 0 x && ys.all (okD 0) then some (ys.any fun z => PyData.eqv (py 0 z) (py 0 x)) else none
  | .str z => match x with
    | .str c => if c.cps.size = 1 then some (decide (c.cps.getD 0 0 ∈ z.cps.toList)) else none
    | _ => none
  | .st ks => (toKey x).map fun k => kIn k ks
  | y => (dGet y x).map (·.isSome)
def opIn (x y : D) : Option RV := bRV (dIn x y)
def opAdd : D → D → Option RV
  | .int i, .int j => some (.fz (.int (i + j)))
  | .str x, .str y => if x.length + y.length ≤ BIG then some (.fz (.str (x ++ y))) else none
  | .lst xs, .lst ys => if xs.length + ys.length ≤ BIG then some (.nw (.lst (xs ++ ys))) else none
  | .tup xs, .tup ys => if xs.length + ys.length ≤ BIG then some (.fz (.tup (xs ++ ys))) else none
  | _, _ => none
def opSub : D → D → Option RV
  | .int i, .int j => some (.fz (.int (i - j)))
  | _, _ => none
def strRep (x : Str) (n : Int) : Str := ⟨(List.replicate n.toNat x.cps.toList).flatten.toArray⟩
def opMul : D → D → Option RV
  | .str x, .int n => if -1000 ≤ n ∧ n ≤ 1000 ∧ x.length ≤ 1000 then some (.fz (.str (strRep x n))) else none
  | .int i, .int j => if (-(2 ^ 64) < i ∧ i < 2 ^ 64) ∨ (-(2 ^ 64) < j ∧ j < 2 ^ 64) then some (.fz (.int (i * j))) else none
  | _, _ => none
def opMod : D → D → Option RV
  | .int i, .int j => if 0 < j then some (.fz (.int (i % j))) else none
  | _, _ => none
def opDiv : D → D → Option RV
  | .int i, .int j => if 0 < j ∧ j < 1073741824 then some (.fz (.int (i / j))) else none
  | _, _ => none
def opPow : D → D → Option RV
  | .int i, .int j => if 0 ≤ j ∧ j ≤ 1000000 ∧ i.natAbs < 2 ^ 64 then some (.fz (.int (i ^ j.toNat))) else none
  | _, _ => none
def opShr : D → D → Option RV
  | .int i, .int j => if 0 ≤ j then some (.fz (.int (i / 2 ^ j.toNat))) else none
  | _, _ => none
/-- x[i] -/
def opIx : D → D → Option RV
  | .lst xs, .int i => (L2.atI xs i).map .fz
  | .tup xs, .int i => (L2.atI xs i).map .fz
  | .str z, .int i => (L2.atI z.cps.toList i).map fun c => .fz (.str ⟨#[c]⟩)
  | x, y => (dGet x y).join.map .fz
/-- x[lo:hi] -/
def cutD (xs : List D) (lo hi : Option Int) : List D := (xs.drop (HT.sIx xs.length 0 lo)).take (HT.sIx xs.length xs.length hi - HT.sIx xs.length 0 lo)
def dCut (x : D) (l h : Option Int) : Option RV := match x with
  | .lst xs => some (.nw (.lst (cutD xs l h)))
  | .str z => some (.fz (.str (L2.cutS z l h)))
  | .tup xs => some (.fz (.tup (cutD xs l h)))
  | _ => none
def opCutLo : D → D → Option RV
  | x, .int i => dCut x (some i) none
  | _, _ => none
def opCutHi : D → D → Option RV
  | x, .int j => dCut x none (some j)
  | _, _ => none
def opRev : D → Option RV
  | .lst xs => some (.nw (.lst xs.reverse))
  | _ => none
/-! built-ins -/
def opLen : D → Option RV
  | .str x => some (.fz (.int x.length))
  | .lst xs => some (.fz (.int xs.length))
  | .tup xs => some (.fz (.int xs.length))
  | .dk xs => some (.fz (.int xs.length))
  | .st xs => some (.fz (.int xs.length))
  | _ => none
def opInt : D → Option RV
  | .int i => some (.fz (.int i))
  | .bl b => some (.fz (.int (if b then 1 else 0)))
  | _ => none
def opAbs : D → Option RV
  | .int i => some (.fz (.int (if i < 0 then -i else i)))
  | _ => none
def toBools : List D → Option (List Bool)
  | [] => some []
  | .bl b :: r => (toBools r).map (b :: ·)
  | _ :: _ => none
def opAny : D → Option RV
  | .lst xs => (toBools xs).map fun bs => .fz (.bl (bs.any id))
  | _ => none
/-- isinstance(x, T), T a built-in class -/
def tyN : D → Option String
  | .non => some "NoneType" | .bl _ => some "bool" | .int _ => some "int" | .str _ => some "str" | .lst _ => some "list" | .tup _ => some "tuple" | .dk _ => some "dict" | _ => none
def subT (t T : String) : Bool := t == T || (t == "bool" && T == "int")
def isTy (T : String) (d : D) : Option Bool := (tyN d).map fun t => subT t T
def opIsTy (T : String) (x : D) : Option RV := bRV (isTy T x)
def opList : D → Option RV
  | .lst xs => some (.nw (.lst xs))
  | .tup xs => some (.nw (.lst xs))
  | _ => none
def opStr : D → Option RV
  | .str x => some (.fz (.str x))
  | .int i => if i.natAbs.log2 < 1900 then some (.fz (.str (toString i : String))) else none
  | _ => none
/-! displays, changes -/
def mkLst (xs : List D) : RV := .nw (.lst xs)
def mAppend : D → List D → Option (D × RV)
  | .lst xs, [y] => if xs.length < BIG then some (.lst (xs ++ [y]), .fz .non) else none
  | _, _ => none
end S3

/-! SG: sets of any kind of key, with their members in some order; made, added to, taken from, gathered, sorted. -/
namespace S3
open PySem PySem.Spec PyProof.Rows L2
section
variable {P : Program} {w : World} {κ : Type} [DecidableEq κ]
open Classical in
noncomputable def kOf (knd : PySem.KeyKind P w κ) (v : Value) : Option κ := if h : ∃ k, knd.is k v = true then some h.choose else none
theorem kOf_is {knd : PySem.KeyKind P w κ} {k : κ} {v : Value} (h : knd.is k v = true) : kOf knd v = some k := by
  unfold kOf
  have e : ∃ k, knd.is k v = true := ⟨k, h⟩
  rw [dif_pos e]
  exact congrArg some (knd.inj v _ _ e.choose_spec h)
/-- the set at a: its members are ks, in some order; its table rises and can be walked -/
def SetG (knd : PySem.KeyKind P w κ) (h : Heap) (a : Addr) (ks : List κ) : Prop :=
  ∃ o es ep t, h.get? a = some o ∧ o.ExactSet ∧ o.data = .set es ep t ∧ ElemsOf knd es.toList ∧ (es.toList.map fun e => kOf knd e.2).Perm (ks.map some) ∧ ks.Nodup ∧
    es.size < scanBound ∧ t.fits es.size = true ∧ Ris t.place.toList ∧ (w.params.followText "set-order" = true ∨ t.led = true)
variable {knd : PySem.KeyKind P w κ} {h h' : Heap} {a : Addr} {ks : List κ}
theorem SetG.at (R : SetG knd h a ks) (k : ∀ o, h.get? a = some o → h'.get? a = some o) : SetG knd h' a ks := by
  obtain ⟨o, es, ep, t, ho, r⟩ := R
  exact ⟨o, es, ep, t, k o ho, r⟩
theorem elems_is {es : List (Int × Value)} (g : ElemsOf knd es) {e : Int × Value} (he : e ∈ es) {k : κ} : knd.is k e.2 = true ↔ kOf knd e.2 = some k := by
  refine ⟨kOf_is, fun q => ?_⟩
  obtain ⟨⟨j, hj, _⟩, _⟩ := g e he
  rw [kOf_is hj] at q
  cases q
  exact hj
theorem elems_mem {es : List (Int × Value)} (g : ElemsOf knd es) (p : (es.map fun e => kOf knd e.2).Perm (ks.map some)) {k : κ} : k ∈ ks ↔ ∃ e ∈ es, knd.is k e.2 = true := by
  have q : some k ∈ ks.map some ↔ some k ∈ es.map fun e => kOf knd e.2 := p.symm.mem_iff
  constructor
  · intro hk
    obtain ⟨e, he, q⟩ := List.mem_map.mp (q.mp (List.mem_map.mpr ⟨k, hk, rfl⟩))
    exact ⟨e, he, (elems_is g he).mpr q⟩
  · rintro ⟨e, he, q2⟩
    obtain ⟨j, hj, e2⟩ := List.mem_map.mp (q.mpr (List.mem_map.mpr ⟨e, he, (elems_is g he).mp q2⟩))
    cases e2
    exact hj
theorem SetG.len {es : Array (Int × Value)} (p : (es.toList.map fun e => kOf knd e.2).Perm (ks.map some)) : es.size = ks.length := by
  have := p.length_eq
  rw [List.length_map, List.length_map, Array.length_toList] at this
  exact this
theorem SetG.setOf (R : SetG knd h a ks) : h.SetOf knd a (fun k => decide (k ∈ ks)) ks.length := by
  obtain ⟨o, es, ep, t, ho, hx, hd, g, pm, nd, hb, hf, _⟩ := R
  exact ⟨o, es, ep, t, ho, hx, hd, g, fun k => (decide_eq_true_iff).trans (elems_mem g pm), hb, hf, SetG.len pm⟩
end
section
variable {P : Program} {w : World} {κ : Type} [DecidableEq κ] {knd : PySem.KeyKind P w κ} {A : Around} {E : Value → Shared → Prop} {s : Shared} {a : Addr} {ks : List κ}
theorem setG_add_tail {g : Bool → Sem Unit} (hg : ∀ (b : Bool) (s₁ : Shared) (Q' : Unit → Shared → Prop), Q' () s₁ → wpAny (model P w) A (g b) Q' E s₁)
    {o : Obj} {es : Array (Int × Value)} {ep : Nat} {t : SetTable} (ho : s.heap.get? a = some o) (hex : o.ExactSet) (hd : o.data = .set es ep t)
    {es1 : Array (Int × Value)} {t2 : SetTable} (g1 : ElemsOf knd es1.toList) (p1 : (es1.toList.map fun e => kOf knd e.2).Perm (ks.map some)) (nd : ks.Nodup)
    (hb1 : es1.size < scanBound) (hf2 : t2.fits es1.size = true) (hr : Ris t2.place.toList) (hl : w.params.followText "set-order" = true ∨ t2.led = true) {wasDummy : Bool} {R : Option Bool → Shared → Prop}
    (hR : ∀ h', Heap.SameBut a s.heap h' → SetG knd h' a ks → R (some true) { s with heap := h' }) :
    wpAny (model P w) A (do
        storeSet a es1 t2
        if (!wasDummy && t2.tooFull) = true then do
            g (relayAll t2 es1 (SetTable.grown es1.size)).2.2
            storeSet a (relayAll t2 es1 (SetTable.grown es1.size)).1 (relayAll t2 es1 (SetTable.grown es1.size)).2.1
            pure (some true)
          else pure (some true)) R E s := by
  refine wpAny_bind (wpAny_storeSet_of ho hd ?_ (fits_of_scanBound hb1))
  have ho1 := store_at (es' := es1) (t' := t2) ho hd
  have sb1 := Heap.SameBut.update s.heap a (Obj.putSet es1 t2)
  split
  · have pm := relayAll_perm t2 es1 (SetTable.grown es1.size)
    have hf3 := relayAll_fits t2 es1 (SetTable.grown es1.size)
    have hr3 := relayAll_ris t2 es1 (SetTable.grown es1.size)
    have hl3 := relayAll_led t2 es1 (SetTable.grown es1.size)
    generalize relayAll t2 es1 (SetTable.grown es1.size) = Z at pm hf3 hr3 hl3 ⊢
    obtain ⟨es2, t3, gave⟩ := Z
    dsimp only at pm hf3 hr3 hl3 ⊢
    have hsz : es2.size = es1.size := by rw [← Array.length_toList, pm.length_eq, Array.length_toList]
    have hb2 : es2.size < scanBound := by rw [hsz]; exact hb1
    refine wpAny_bind (hg _ _ _ ?_)
    refine wpAny_bind (wpAny_storeSet_of ho1 rfl ?_ (fits_of_scanBound hb2))
    have ho2 := store_at (es' := es2) (t' := t3) ho1 rfl
    refine wpAny_pure (hR _ (sb1.trans (Heap.SameBut.update _ a _)) ?_)
    exact ⟨_, es2, _, t3, ho2, hex, rfl, fun e he => g1 e (pm.mem_iff.mp he), (pm.map _).trans p1, nd, hb2, hf3, hr3, hl.imp id fun z => by rw [hl3]; exact z⟩
  · exact wpAny_pure (hR _ sb1 ⟨_, es1, _, t2, ho1, hex, rfl, g1, p1, nd, hb1, hf2, hr, hl⟩)
def addK (ks : List κ) (k : κ) : List κ := if k ∈ ks then ks else ks ++ [k]
theorem addK_nodup {k : κ} (nd : ks.Nodup) : (addK ks k).Nodup := by
  unfold addK
  split
  · exact nd
  · rename_i h
    rw [List.nodup_append]
    exact ⟨nd, by simp, fun x hx y hy e => h (by rw [List.mem_singleton] at hy; rw [← hy, ← e]; exact hx)⟩
theorem setG_add_hashed {k : κ} {v : Value} {Q : Bool → Shared → Prop} (hkey : knd.is k v = true) (hsc : v.scannable = true) (R : SetG knd s.heap a ks) (room : ks.length + 1 < scanBound)
    (hQ : ∀ h' b, Heap.SameBut a s.heap h' → SetG knd h' a (addK ks k) → Q b { s with heap := h' }) :
    wpAny (model P w) A (setAddHashed a v (knd.hash k)) Q E s := by
  obtain ⟨o, es, ep, t, ho, hex, hd, hel, pm0, nd, hb, hf, hr, hl⟩ := R
  have hn := SetG.len pm0
  unfold setAddHashed setAddHashedIn
  refine wpAny_holding (wpAny_bind (wpAny_setState_of ho hd hf ?_))
  dsimp only
  rw [byScan_of hsc hb hel]
  simp only [↓reduceIte]
  unfold setAddByScan
  refine wpAny_bind ?_
  refine wpAny_bind (wpAny_rule ?_)
  refine wpAny_bind (wpAny_setScan_of hkey ho hd hf hel ?_)
  cases hfi : List.findIdx? (fun e => knd.is k e.2) es.toList with
  | some j =>
    dsimp only
    obtain ⟨hj, pj, _⟩ := List.findIdx?_eq_some_iff_getElem.mp hfi
    have hSk : k ∈ ks := (elems_mem hel pm0).mpr ⟨es.toList[j], List.getElem_mem hj, pj⟩
    refine wpAny_pure (wpAny_pure ?_)
    refine hQ s.heap _ (Heap.SameBut.refl a s.heap) ?_
    unfold addK
    rw [if_pos hSk]
    exact ⟨o, es, ep, t, ho, hex, hd, hel, pm0, nd, hb, hf, hr, hl⟩
  | none =>
    dsimp only
    have hnk : k ∉ ks := fun z => by
      obtain ⟨e, he, q⟩ := (elems_mem hel pm0).mp z
      have c := List.findIdx?_eq_none_iff.mp hfi e he
      rw [q] at c
      cases c
    have eadd : addK ks k = ks ++ [k] := if_neg hnk
    have hgw : ∀ (b : Bool) {s₁ : Shared} {Q' : Unit → Shared → Prop}, Q' () s₁ → wpAny (model P w) A (match b with | true => rule "set.scan.the-table-gave-way" | false => pure ()) Q' E s₁ :=
      fun b s₁ Q' q => by cases b <;> first | exact wpAny_pure q | exact wpAny_rule q
    have pm := layNew_perm t es (knd.hash k) v
    have hf1 := layNew_fits t es (knd.hash k) v
    have hr1 := layNew_ris t es (knd.hash k) v hr
    have hl1 := layNew_led t es (knd.hash k) v
    generalize layNew t es (knd.hash k) v = Z at pm hf1 hr1 hl1 ⊢
    obtain ⟨es1, t1, wasDummy, gave⟩ := Z
    dsimp only at pm hf1 hr1 hl1 ⊢
    rw [Array.toList_push] at pm
    have g1 : ElemsOf knd es1.toList := fun e he => by
      rcases List.mem_append.mp (pm.mem_iff.mp he) with z | z
      · exact hel e z
      · rw [List.mem_singleton.mp z]; exact ⟨⟨k, hkey, rfl⟩, hsc⟩
    have p1 : (es1.toList.map fun e => kOf knd e.2).Perm ((addK ks k).map some) := by
      refine (pm.map _).trans ?_
      rw [eadd, List.map_append, List.map_append]
      refine List.Perm.append pm0 ?_
      show [kOf knd v].Perm [some k]
      rw [kOf_is hkey]
    have nd1 : (addK ks k).Nodup := addK_nodup nd
    have hsz : es1.size = ks.length + 1 := by rw [SetG.len p1, eadd, List.length_append]; rfl
    have hb1 : es1.size < scanBound := by rw [hsz]; exact room
    have hled : w.params.followText "set-order" = true ∨ t1.led = true := hl.imp id fun z => by rw [hl1]; exact z
    refine wpAny_bind (hgw _ ?_)
    split
    · refine wpAny_bind ?_
      rw [hashByValue_scannable 8 hsc]
      refine wpAny_pure ?_
      refine setG_add_tail ?_ ho hex hd g1 p1 nd1 hb1 ?_ ?_ ?_ ?_
      · intro b s₁ Q' q; cases b <;> first | exact wpAny_pure q | exact wpAny_rule q
      · first | (split <;> first | exact hf1 | exact SetTable.fits_plain_off hf1) | exact hf1
      · first | (split <;> exact hr1) | exact hr1
      · first | (split <;> exact hled) | exact hled
      · intro h' sb r; dsimp only; exact wpAny_pure (hQ _ _ sb r)
    · refine wpAny_bind (wpAny_pure ?_)
      simp only [↓reduceIte]
      refine setG_add_tail ?_ ho hex hd g1 p1 nd1 hb1 hf1 hr1 hled ?_
      · intro b s₁ Q' q; cases b <;> first | exact wpAny_pure q | exact wpAny_rule q
      · intro h' sb r; dsimp only; exact wpAny_pure (hQ _ _ sb r)
theorem setG_addv {k : κ} {v : Value} {Q : Bool → Shared → Prop} (hkey : knd.is k v = true) (hsc : v.scannable = true) (R : SetG knd s.heap a ks) (room : ks.length + 1 < scanBound)
    (hQ : ∀ h' b, Heap.SameBut a s.heap h' → SetG knd h' a (addK ks k) → Q b { s with heap := h', toks := s.toks + 1 }) :
    wpAny (model P w) A (setAdd a v) Q E s := by
  unfold setAdd
  refine wpAny_holding (wpAny_bind (knd.pyHash hkey ?_))
  exact setG_add_hashed (s := { s with toks := s.toks + 1 }) hkey hsc R room hQ
/-- found.add(k) -/
theorem setG_add {k : κ} {v : Value} {Q : Value → Shared → Prop} (hkey : knd.is k v = true) (hsc : v.scannable = true) (R : SetG knd s.heap a ks) (room : ks.length + 1 < scanBound)
    (hQ : ∀ h', Heap.SameBut a s.heap h' → SetG knd h' a (addK ks k) → Q .none { s with heap := h', toks := s.toks + 1 }) :
    wpAny (model P w) A (call (.builtin "set.add") [.ref a, v]) Q E s := by
  have hS := R.setOf
  refine wpAny_call_entry F.slot_set_add hS.typeIs F.entry_set_add ?_ (F.args_set_add_2 _ _)
  unfold Builtin.«set.add» Builtin.Frozenset.oneOther
  simp only [List.isEmpty_nil, bind_assoc]
  unfold Builtin.Frozenset.addrOf
  refine wpAny_bind (wpAny_pure ?_)
  try dsimp only
  refine wpAny_bind (wpAny_pure ?_)
  try dsimp only
  refine wpAny_bind (setG_addv hkey hsc R room fun h' b sb r => ?_)
  show wpAny _ _ (PySem.ret Value.none) _ _ _
  exact wpAny_pure ⟨_, rfl, hQ h' sb r⟩
/-! discard -/
end
/-! as tracked things -/
theorem kIn_iff {k : Key} {ks : List Key} : kIn k ks = true ↔ k ∈ ks := by
  unfold kIn
  rw [List.any_eq_true]
  exact ⟨fun ⟨j, h1, h2⟩ => (of_decide_eq_true h2) ▸ h1, fun h => ⟨k, h, decide_eq_true rfl⟩⟩
theorem SetG.setOfK {P : Program} {w : World} {h : Heap} {a : Addr} {ks : List Key} (R : SetG (mixKind P w) h a ks) : h.SetOf (mixKind P w) a (fun k => kIn k ks) ks.length := by
  obtain ⟨o, es, ep, t, ho, hx, hd, g, pm, nd, hb, hf, _⟩ := R
  exact ⟨o, es, ep, t, ho, hx, hd, g, fun k => kIn_iff.trans (elems_mem g pm), hb, hf, SetG.len pm⟩
def SetGO (P : Program) (w : World) (a : Addr) (ks : List Key) : HO := .ext fun h => SetG (mixKind P w) h a ks
theorem setG_new {w : World} {P : Program} {H : Hp} {h : Heap} {a : Addr} {ks : List Key} (R : SetG (mixKind P w) h a ks) : ObjOk P w H h a (SetGO P w a ks) := by
  have ⟨o, _, _, _, ho, _⟩ := R
  exact ⟨R, ⟨o, ho⟩, fun h1 h2 p k => SetG.at p k⟩
section
variable {X : Cx}
theorem setG_get {pins : List (Addr × Obj)} {σ : L2.St} {H : Hp} {s : Shared} {a : Addr} {ks : List Key} (I : Inv X pins σ H s) (ha : H a = some (SetGO X.prog X.w a ks)) : SetG (mixKind X.prog X.w) s.heap a ks := (I.hok a _ ha).1
/-- k in found, k not in found -/
def rSInG (P : Program) (w : World) (neg : Bool) : V → V → Hp → VK → Prop := fun x y H Q => ∃ (k : Key) (a : Addr) (ks : List Key), x = kV k ∧ y = V.ref a ∧ H a = some (SetGO P w a ks) ∧ Q (.bl (if neg then !kIn k ks else kIn k ks)) H
theorem or_sinG : OpR X (compareOp .In) (rSInG X.prog X.w false) := by
  intro pins s σ H x y v u Q I rx ry h
  obtain ⟨k, a, ks, rfl, rfl, ha, q⟩ := h
  cases ry
  exact wpAny_inSet_of (kV_is rx) (key_scan rx) (setG_get I ha).setOfK ⟨.bl (kIn k ks), H, I.tok _, rfl, q⟩
theorem call_lenSetG : CallR X (.builtin "len") (fun xs H Q => ∃ a ks, xs = [V.ref a] ∧ H a = some (SetGO X.prog X.w a ks) ∧ Q (.int ks.length) H) := by
  intro pins s σ H xs us Q I r h
  obtain ⟨a, ks, rfl, ha, q⟩ := h
  have hr : us = [Value.ref a] := by cases r with | cons h t => cases t; cases h; rfl
  subst hr
  obtain ⟨o, es, ep, t, ho, hex, hd, _, _, hb, hf, hn⟩ := (setG_get I ha).setOf
  rw [← hn] at q
  have e : scanBound ≤ 2 ^ 63 := by decide +kernel
  exact call_len_set ho hex hd hf (by omega) ⟨.int es.size, H, I.tok _, ⟨_, rfl⟩, q⟩
end
end S3

/-! SG2: sets: discard, set(xs), sorted(s), {x}; as calls over the abstract heap. -/
namespace S3
open PySem PySem.Spec PyProof.Rows L2
section
variable {P : Program} {w : World} {κ : Type} [DecidableEq κ] {knd : PySem.KeyKind P w κ} {A : Around} {E : Value → Shared → Prop} {s : Shared} {a : Addr} {ks : List κ}
/-! set(xs) -/
theorem setG_fresh {h : Heap} {a : Addr} (ho : h.get? a = some { cls := .type "set", dict := none, data := .set #[] 0 (.fresh 0 0 (!w.params.followText "set-order")) }) : SetG knd h a [] :=
  ⟨_, #[], 0, _, ho, ⟨rfl, rfl, rfl⟩, rfl, (fun e he => by simp at he), (by simp), (by simp), (by decide), (by rfl), List.Pairwise.nil, by
    show _ ∨ (!w.params.followText "set-order") = true
    cases w.params.followText "set-order"
    · exact .inr rfl
    · exact .inl rfl⟩
end
end S3

/-! SG3: set(a tuple), set(a list). -/
namespace S3
open PySem PySem.Spec PyProof.Rows L2
section
variable {P : Program} {w : World} {κ : Type} [DecidableEq κ] {knd : PySem.KeyKind P w κ} {A : Around} {E : Value → Shared → Prop} {s : Shared} {a : Addr} {ks : List κ}
end
end S3

/-! SG4: sets over the abstract heap: add, discard, sorted, {x}; sorted of texts. -/
namespace S3
open PySem PySem.Spec PyProof.Rows L2
/-! ### the one order of texts -/
def addKey (ks : List Key) (k : Key) : List Key := if kIn k ks then ks else ks ++ [k]
theorem addKey_is (ks : List Key) (k : Key) : addK ks k = addKey ks k := by
  unfold addK addKey
  by_cases h : k ∈ ks
  · rw [if_pos h, if_pos (kIn_iff.mpr h)]
  · rw [if_neg h, if_neg (fun z => h (kIn_iff.mp z))]
def dedKey (ks : List Key) : List Key := ks.foldl addKey []
section
variable {X : Cx}
/-! ### add, discard -/
variable {o e : Expr} {es : List Expr} {to : TE} {t : TA} {apos cpos : Pos}
end
/-! ### sorted of a set of texts, of a list of texts -/
section
variable {P : Program} {w : World} {A : Around} {E : Value → Shared → Prop} {s : Shared} {a : Addr}
end
section
variable {X : Cx}
end
end S3

/-! SG5: set(xs), {x} over the abstract heap. -/
namespace S3
open PySem PySem.Spec PyProof.Rows L2
section
variable {X : Cx}
end
/-! {x} -/
section
variable {prog : Program} {w : World} {A : Around} {E : Value → Shared → Prop} {s : Shared}
end
section
variable {X : Cx} {a : Expr} {ta : TE}
end
end S3

/-! SG6: set comprehensions of two clauses (the steps of HandS.Comp's two clauses and of HandS.SetBool's set, for any keys). -/
namespace SX
open PySem PySem.Spec PyProof.Rows L2
open S3 (SetGO setG_new setG_fresh setG_get setG_add addKey addKey_is)
section
variable {prog : Program} {w : World} {A : Around} {R : Result → Shared → Prop} {s : Shared} {elt t0 i0 t1 i1 : Expr} {ifs0 ifs1 : List Expr} {scope : Scope} {pos : Pos} {it acc : Value} {env : Env}
end

section
variable {X : Cx}
end
end SX

/-! B1: how trees lie on the abstract heap; slots; readings from the language of A1. -/
namespace S3
open PySem L2

abbrev LIM : Nat := 16777216
/-- a text as there can be -/
def sOk (x : Str) : Bool := decide (x.length ≤ LIM) && x.cps.all (· < 0x110000)
theorem sOk_len {x : Str} (h : sOk x = true) : x.length ≤ LIM := by unfold sOk at h; rw [Bool.and_eq_true] at h; exact of_decide_eq_true h.1
theorem sOk_cps {x : Str} (h : sOk x = true) : x.cps.all (· < 0x110000) = true := by unfold sOk at h; rw [Bool.and_eq_true] at h; exact h.2
theorem sOk_of {x : Str} (h1 : x.length ≤ LIM) (h2 : x.cps.all (· < 0x110000) = true) : sOk x = true := by unfold sOk; rw [decide_eq_true h1, h2]; rfl
/-- keys as there can be -/
def kOk (ks : List Key) : Prop := ∀ x : Str, Sum.inr x ∈ ks → sOk x = true
/-- what the trees hang on: the program, the world, the written part, the classes' places -/
structure Wd where
  P : Program
  w : World
  K : PySem.W.Frag
  ca : Str → Option Addr

/-- an exception as a value: its object, its fields lie in the dict d -/
def ExW (C : Addr) (d : Option Addr) (a : Addr) : HO := .ext fun h => ∃ oe vs, h.get? a = some oe ∧ Zc (.ref C) d oe ∧ oe.data = .fields vs
mutual
/-- v is the tree d, by the frozen part F of the heap -/
inductive Rp (Z : Wd) (F : Hp) : V → D → Prop
  | non : Rp Z F .non .non
  | bl (b : Bool) : Rp Z F (.bl b) (.bl b)
  | int (i : Int) : Rp Z F (.int i) (.int i)
  | str (x : Str) : sOk x = true → Rp Z F (.str x) (.str x)
  | lst {a : Addr} {xs : List V} {ds : List D} : F a = some (.lst xs) → RpA Z F xs ds → Rp Z F (.ref a) (.lst ds)
  | scr {a : Addr} {xs : List V} {ds : List D} : SqL Z.K F a xs → RpA Z F xs ds → Rp Z F (.ref a) (.scr ds)
  | tup {a : Addr} {xs : List V} {ds : List D} : F a = some (.tup xs) → RpA Z F xs ds → Rp Z F (.ref a) (.tup ds)
  | kt {a : Addr} {xs : List V} {ds : List D} : SqT Z.K F a xs → RpA Z F xs ds → Rp Z F (.ref a) (.kt ds)
  | dk {a : Addr} {xs : List (Key × V)} {ds : List (Key × D)} : L2.Rd F a (.dK xs) → kOk (ds.map (·.1)) → RpP Z F xs ds → Rp Z F (.ref a) (.dk ds)
  | dt {a : Addr} {xs : List (List Key × V)} {ds : List (List Key × D)} : L2.Rd F a (.dT xs) → (∀ p ∈ ds, kOk p.1) → RpP Z F xs ds → Rp Z F (.ref a) (.dt ds)
  | st {a : Addr} {xs : List Key} : F a = some (SetGO Z.P Z.w a xs) → kOk xs → Rp Z F (.ref a) (.st xs)
  | obj {a C dx : Addr} {c : Str} {xs : List (Str × V)} {ds : List (Str × D)} : Z.ca c = some C → F a = some (.ins C dx xs) → RpP Z F xs ds → Rp Z F (.ref a) (.obj c ds)
  | xn {a C : Addr} {c : Str} {xs : List (Str × V)} {ds : List (Str × D)} : Z.ca "" = some a → Z.ca "  " = some C → Z.ca c = some C → (c ≠ "" ∧ c ≠ " " ∧ c ≠ "  ") → ((ds = [] ∧ Z.ca " " = none) ∨ ∃ dd, Z.ca " " = some dd ∧ F dd = some (.xd xs)) → RpP Z F xs ds → Rp Z F (.ref a) (.xn c ds)
  | xv {a C : Addr} {c : Str} {d : Option Addr} {xs : List (Str × V)} {ds : List (Str × D)} : Z.ca c = some C → F a = some (ExW C d a) → ((ds = [] ∧ d = none) ∨ ∃ dd, d = some dd ∧ F dd = some (.xd xs)) → RpP Z F xs ds → Rp Z F (.ref a) (.xv c ds)
  | cl {C : Addr} {c : Str} : Z.ca c = some C → Rp Z F (.ref C) (.cl c)
  | any {a : Addr} : Rp Z F (.ref a) .any
inductive RpA (Z : Wd) (F : Hp) : List V → List D → Prop
  | nil : RpA Z F [] []
  | cons {v : V} {vs : List V} {d : D} {ds : List D} : Rp Z F v d → RpA Z F vs ds → RpA Z F (v :: vs) (d :: ds)
inductive RpP (Z : Wd) (F : Hp) : {κ : Type} → List (κ × V) → List (κ × D) → Prop
  | nil {κ : Type} : RpP Z F ([] : List (κ × V)) []
  | cons {κ : Type} {k : κ} {v : V} {vs : List (κ × V)} {d : D} {ds : List (κ × D)} : Rp Z F v d → RpP Z F vs ds → RpP Z F ((k, v) :: vs) ((k, d) :: ds)
end

mutual
/-- v is the tree d; its parts marked ob lie, each once, in the region R, outside of the frozen part F -/
inductive OwT (Z : Wd) (F H : Hp) : List Addr → V → D → Prop
  | fz {v : V} {d : D} : Rp Z F v d → OwT Z F H [] v d
  | lst {a : Addr} {R : List Addr} {xs : List V} {ds : List D} : F a = none → H a = some (.lst xs) → a ∉ R → OwA Z F H R xs ds → OwT Z F H (a :: R) (.ref a) (.ob (.lst ds))
  | tup {a : Addr} {R : List Addr} {xs : List V} {ds : List D} : H a = some (.tup xs) → OwA Z F H R xs ds → OwT Z F H R (.ref a) (.ob (.tup ds))
  | dk {a : Addr} {R : List Addr} {xs : List (Key × V)} {ds : List (Key × D)} : F a = none → H a = some (.dK xs) → kOk (ds.map (·.1)) → a ∉ R → OwP Z F H R xs ds → OwT Z F H (a :: R) (.ref a) (.ob (.dk ds))
  | obj {a C dx : Addr} {c : Str} {R : List Addr} {xs : List (Str × V)} {ds : List (Str × D)} : F a = none → Z.ca c = some C → H a = some (.ins C dx xs) → a ∉ R → OwP Z F H R xs ds → OwT Z F H (a :: R) (.ref a) (.ob (.obj c ds))
inductive OwA (Z : Wd) (F H : Hp) : List Addr → List V → List D → Prop
  | nil : OwA Z F H [] [] []
  | cons {R Q : List Addr} {v : V} {vs : List V} {d : D} {ds : List D} : OwT Z F H R v d → OwA Z F H Q vs ds → (∀ b ∈ R, b ∉ Q) → OwA Z F H (R ++ Q) (v :: vs) (d :: ds)
inductive OwP (Z : Wd) (F H : Hp) : {κ : Type} → List Addr → List (κ × V) → List (κ × D) → Prop
  | nil {κ : Type} : OwP Z F H [] ([] : List (κ × V)) []
  | cons {κ : Type} {k : κ} {R Q : List Addr} {v : V} {vs : List (κ × V)} {d : D} {ds : List (κ × D)} : OwT Z F H R v d → OwP Z F H Q vs ds → (∀ b ∈ R, b ∉ Q) → OwP Z F H (R ++ Q) ((k, v) :: vs) ((k, d) :: ds)
end
/-- not a tuple -/
def NT (u : HO) : Prop := ∀ xs, u ≠ .tup xs
/-- what a deep tree stands on is kept: the region, all tuples -/
def Kp (R : List Addr) (H H' : Hp) : Prop := ∀ b o, H b = some o → (b ∈ R ∨ ¬ NT o) → H' b = some o

section
variable {Z : Wd} {F F' H H' : Hp}
theorem Rd.mono {H H' : Hp} {a : Addr} {u : HO} (h : L2.Rd H a u) (e : Same H H') : L2.Rd H' a u := h.imp (e _ _) fun ⟨o, z⟩ => ⟨o, e _ _ z⟩
theorem SqT.same {K : PySem.W.Frag} {H H' : Hp} {a : Addr} {xs : List V} (e : Same H H') (h : SqT K H a xs) : SqT K H' a xs := by
  rcases h with (h | ⟨o, h⟩) | h
  · exact .inl (.inl (e _ _ h))
  · exact .inl (.inr ⟨o, e _ _ h⟩)
  · exact .inr h
mutual
theorem Rp.mono (e : Same F F') : ∀ {v : V} {d : D}, Rp Z F v d → Rp Z F' v d
  | _, _, .non => .non
  | _, _, .bl b => .bl b
  | _, _, .int i => .int i
  | _, _, .str x h => .str x h
  | _, _, .lst h r => .lst (e _ _ h) (RpA.mono e r)
  | _, _, .scr h r => .scr (Same.seq e h) (RpA.mono e r)
  | _, _, .tup h r => .tup (e _ _ h) (RpA.mono e r)
  | _, _, .kt h r => .kt (SqT.same e h) (RpA.mono e r)
  | _, _, .dk h q r => .dk (Rd.mono h e) q (RpP.mono e r)
  | _, _, .dt h q r => .dt (Rd.mono h e) q (RpP.mono e r)
  | _, _, .st h n => .st (e _ _ h) n
  | _, _, .obj c h r => .obj c (e _ _ h) (RpP.mono e r)
  | _, _, .xn a b c k h r => .xn a b c k (h.imp id fun ⟨dd, x, y⟩ => ⟨dd, x, e _ _ y⟩) (RpP.mono e r)
  | _, _, .xv c q h r => .xv c (e _ _ q) (h.imp id fun ⟨dd, x, y⟩ => ⟨dd, x, e _ _ y⟩) (RpP.mono e r)
  | _, _, .cl c => .cl c
  | _, _, .any => .any
theorem RpA.mono (e : Same F F') : ∀ {v : List V} {d : List D}, RpA Z F v d → RpA Z F' v d
  | _, _, .nil => .nil
  | _, _, .cons h r => .cons (Rp.mono e h) (RpA.mono e r)
theorem RpP.mono (e : Same F F') : ∀ {κ : Type} {v : List (κ × V)} {d : List (κ × D)}, RpP Z F v d → RpP Z F' v d
  | _, _, _, .nil => .nil
  | _, _, _, .cons h r => .cons (Rp.mono e h) (RpP.mono e r)
end

theorem Kp.sub {R Q : List Addr} (k : Kp R H H') (s : ∀ b ∈ Q, b ∈ R) : Kp Q H H' := fun b o h m => k b o h (m.imp (s b) id)
theorem nt_tup {xs : List V} : ¬ NT (.tup xs) := fun h => h xs rfl
mutual
theorem OwT.mono (e : Same F F') : ∀ {R : List Addr} {v : V} {d : D}, OwT Z F H R v d → (∀ b ∈ R, F' b = none) → Kp R H H' → OwT Z F' H' R v d
  | _, _, _, .fz r, _, _ => .fz (r.mono e)
  | _, _, _, .lst f h n r, g, k => .lst (g _ List.mem_cons_self) (k _ _ h (.inl List.mem_cons_self)) n (OwA.mono e r (fun b hb => g b (List.mem_cons_of_mem _ hb)) (k.sub fun b hb => List.mem_cons_of_mem _ hb))
  | _, _, _, .tup h r, g, k => .tup (k _ _ h (.inr nt_tup)) (OwA.mono e r g k)
  | _, _, _, .dk f h q n r, g, k => .dk (g _ List.mem_cons_self) (k _ _ h (.inl List.mem_cons_self)) q n (OwP.mono e r (fun b hb => g b (List.mem_cons_of_mem _ hb)) (k.sub fun b hb => List.mem_cons_of_mem _ hb))
  | _, _, _, .obj f c h n r, g, k => .obj (g _ List.mem_cons_self) c (k _ _ h (.inl List.mem_cons_self)) n (OwP.mono e r (fun b hb => g b (List.mem_cons_of_mem _ hb)) (k.sub fun b hb => List.mem_cons_of_mem _ hb))
theorem OwA.mono (e : Same F F') : ∀ {R : List Addr} {v : List V} {d : List D}, OwA Z F H R v d → (∀ b ∈ R, F' b = none) → Kp R H H' → OwA Z F' H' R v d
  | _, _, _, .nil, _, _ => .nil
  | _, _, _, .cons h r n, g, k => .cons (OwT.mono e h (fun b hb => g b (List.mem_append_left _ hb)) (k.sub fun b hb => List.mem_append_left _ hb)) (OwA.mono e r (fun b hb => g b (List.mem_append_right _ hb)) (k.sub fun b hb => List.mem_append_right _ hb)) n
theorem OwP.mono (e : Same F F') : ∀ {κ : Type} {R : List Addr} {v : List (κ × V)} {d : List (κ × D)}, OwP Z F H R v d → (∀ b ∈ R, F' b = none) → Kp R H H' → OwP Z F' H' R v d
  | _, _, _, _, .nil, _, _ => .nil
  | _, _, _, _, .cons h r n, g, k => .cons (OwT.mono e h (fun b hb => g b (List.mem_append_left _ hb)) (k.sub fun b hb => List.mem_append_left _ hb)) (OwP.mono e r (fun b hb => g b (List.mem_append_right _ hb)) (k.sub fun b hb => List.mem_append_right _ hb)) n
end
theorem no_ob {v : V} {d : D} (h : Rp Z F v (.ob d)) : False := by cases h
mutual
/-- the region is told by the heap -/
theorem OwT.uniq : ∀ {R R' : List Addr} {v : V} {d : D}, OwT Z F H R v d → OwT Z F' H R' v d → R = R'
  | _, _, _, _, .fz r, x => by cases x <;> first | rfl | exact (no_ob r).elim
  | _, _, _, _, .lst _ h _ r, x => by
    cases x with
    | fz r => exact (no_ob r).elim
    | lst _ h' _ r' => rw [h] at h'; cases h'; rw [OwA.uniq r r']
  | _, _, _, _, .tup h r, x => by
    cases x with
    | fz r => exact (no_ob r).elim
    | tup h' r' => rw [h] at h'; cases h'; exact OwA.uniq r r'
  | _, _, _, _, .dk _ h _ _ r, x => by
    cases x with
    | fz r => exact (no_ob r).elim
    | dk _ h' _ _ r' => rw [h] at h'; cases h'; rw [OwP.uniq r r']
  | _, _, _, _, .obj _ _ h _ r, x => by
    cases x with
    | fz r => exact (no_ob r).elim
    | obj _ _ h' _ r' => rw [h] at h'; cases h'; rw [OwP.uniq r r']
theorem OwA.uniq : ∀ {R R' : List Addr} {v : List V} {d : List D}, OwA Z F H R v d → OwA Z F' H R' v d → R = R'
  | _, _, _, _, .nil, x => by cases x; rfl
  | _, _, _, _, .cons h r _, x => by cases x with | cons h' r' _ => rw [OwT.uniq h h', OwA.uniq r r']
theorem OwP.uniq : ∀ {κ : Type} {R R' : List Addr} {v : List (κ × V)} {d : List (κ × D)}, OwP Z F H R v d → OwP Z F' H R' v d → R = R'
  | _, _, _, _, _, .nil, x => by cases x; rfl
  | _, _, _, _, _, .cons h r _, x => by cases x with | cons h' r' _ => rw [OwT.uniq h h', OwP.uniq r r']
end
mutual
/-- the region stands, is not frozen, has no tuples -/
theorem OwT.there : ∀ {R : List Addr} {v : V} {d : D}, OwT Z F H R v d → ∀ b ∈ R, F b = none ∧ ∃ o, H b = some o ∧ NT o
  | _, _, _, .fz _, b, h => by cases h
  | _, _, _, .lst f h _ r, b, m => by
    rcases List.mem_cons.mp m with rfl | m
    · exact ⟨f, _, h, fun _ z => by cases z⟩
    · exact OwA.there r b m
  | _, _, _, .tup _ r, b, m => OwA.there r b m
  | _, _, _, .dk f h _ _ r, b, m => by
    rcases List.mem_cons.mp m with rfl | m
    · exact ⟨f, _, h, fun _ z => by cases z⟩
    · exact OwP.there r b m
  | _, _, _, .obj f _ h _ r, b, m => by
    rcases List.mem_cons.mp m with rfl | m
    · exact ⟨f, _, h, fun _ z => by cases z⟩
    · exact OwP.there r b m
theorem OwA.there : ∀ {R : List Addr} {v : List V} {d : List D}, OwA Z F H R v d → ∀ b ∈ R, F b = none ∧ ∃ o, H b = some o ∧ NT o
  | _, _, _, .nil, b, h => by cases h
  | _, _, _, .cons h r _, b, m => by
    rcases List.mem_append.mp m with m | m
    · exact OwT.there h b m
    · exact OwA.there r b m
theorem OwP.there : ∀ {κ : Type} {R : List Addr} {v : List (κ × V)} {d : List (κ × D)}, OwP Z F H R v d → ∀ b ∈ R, F b = none ∧ ∃ o, H b = some o ∧ NT o
  | _, _, _, _, .nil, b, h => by cases h
  | _, _, _, _, .cons h r _, b, m => by
    rcases List.mem_append.mp m with m | m
    · exact OwT.there h b m
    · exact OwP.there r b m
end
theorem unbK_keys : ∀ d : List (Key × D), (unbK d).map (·.1) = d.map (·.1)
  | [] => rfl
  | (k, d) :: r => by simp only [unbK, List.map_cons, unbK_keys r]
theorem sb_of {v : V} {d : D} (h : Rp Z F v d) : d.sb = d := by cases h <;> rfl
mutual
/-- the region, all tuples laid into the frozen part -/
theorem OwT.rp (e : Same F F') (t : ∀ b xs, H b = some (.tup xs) → F' b = some (.tup xs)) : ∀ {R : List Addr} {v : V} {d : D}, OwT Z F H R v d → (∀ b ∈ R, ∀ o, H b = some o → F' b = some o) → Rp Z F' v d.sb
  | _, _, _, .fz r, _ => by rw [sb_of r]; exact r.mono e
  | _, _, _, .lst _ h _ r, k => .lst (k _ List.mem_cons_self _ h) (OwA.rp e t r fun b m => k b (List.mem_cons_of_mem _ m))
  | _, _, _, .tup h r, k => .tup (t _ _ h) (OwA.rp e t r k)
  | _, _, _, .dk _ h q _ r, k => .dk (.inl (k _ List.mem_cons_self _ h)) (by rw [unbK_keys]; exact q) (OwP.rpK e t r fun b m => k b (List.mem_cons_of_mem _ m))
  | _, _, _, .obj _ c h _ r, k => .obj c (k _ List.mem_cons_self _ h) (OwP.rpF e t r fun b m => k b (List.mem_cons_of_mem _ m))
theorem OwA.rp (e : Same F F') (t : ∀ b xs, H b = some (.tup xs) → F' b = some (.tup xs)) : ∀ {R : List Addr} {v : List V} {d : List D}, OwA Z F H R v d → (∀ b ∈ R, ∀ o, H b = some o → F' b = some o) → RpA Z F' v (unbL d)
  | _, _, _, .nil, _ => .nil
  | _, _, _, .cons h r _, k => .cons (OwT.rp e t h fun b m => k b (List.mem_append_left _ m)) (OwA.rp e t r fun b m => k b (List.mem_append_right _ m))
theorem OwP.rpK (e : Same F F') (t : ∀ b xs, H b = some (.tup xs) → F' b = some (.tup xs)) : ∀ {R : List Addr} {v : List (Key × V)} {d : List (Key × D)}, OwP Z F H R v d → (∀ b ∈ R, ∀ o, H b = some o → F' b = some o) → RpP Z F' v (unbK d)
  | _, _, _, .nil, _ => .nil
  | _, _, _, .cons h r _, k => .cons (OwT.rp e t h fun b m => k b (List.mem_append_left _ m)) (OwP.rpK e t r fun b m => k b (List.mem_append_right _ m))
theorem OwP.rpF (e : Same F F') (t : ∀ b xs, H b = some (.tup xs) → F' b = some (.tup xs)) : ∀ {R : List Addr} {v : List (Str × V)} {d : List (Str × D)}, OwP Z F H R v d → (∀ b ∈ R, ∀ o, H b = some o → F' b = some o) → RpP Z F' v (unbF d)
  | _, _, _, .nil, _ => .nil
  | _, _, _, .cons h r _, k => .cons (OwT.rp e t h fun b m => k b (List.mem_append_left _ m)) (OwP.rpF e t r fun b m => k b (List.mem_append_right _ m))
end
/-- the frozen part, with a region of the heap and all tuples -/
def pubF (F H : Hp) (R : List Addr) : Hp := fun b => match F b with
  | some o => some o
  | none => if b ∈ R then H b else (match H b with
    | some (.tup xs) => some (.tup xs)
    | _ => none)
theorem pub_f {R : List Addr} : Same F (pubF F H R) := fun b o h => by unfold pubF; rw [h]
theorem pub_le {R : List Addr} (l : Same F H) : Same (pubF F H R) H := fun b o h => by
  unfold pubF at h
  cases q : F b with
  | some u => rw [q] at h; cases h; exact l _ _ q
  | none =>
    rw [q] at h
    dsimp only at h
    split at h
    · exact h
    · split at h
      · rename_i xs q2; rw [q2, ← h]
      · cases h
theorem pub_in {R : List Addr} (l : Same F H) {b : Addr} {o : HO} (m : b ∈ R) (h : H b = some o) : pubF F H R b = some o := by
  unfold pubF
  cases q : F b with
  | some u => rw [← h]; exact (l _ _ q).symm
  | none => dsimp only; rw [if_pos m]; exact h
theorem pub_tup {R : List Addr} (l : Same F H) {b : Addr} {xs : List V} (h : H b = some (.tup xs)) : pubF F H R b = some (.tup xs) := by
  unfold pubF
  cases q : F b with
  | some u => rw [← h]; exact (l _ _ q).symm
  | none =>
    dsimp only
    by_cases m : b ∈ R
    · rw [if_pos m]; exact h
    · rw [if_neg m, h]
theorem pub_out {R : List Addr} {b : Addr} (m : b ∉ R) (f : F b = none) (nt : ∀ o, H b = some o → NT o) : pubF F H R b = none := by
  unfold pubF
  rw [f]
  dsimp only
  rw [if_neg m]
  split
  · rename_i xs h; exact (nt _ h xs rfl).elim
  · rfl
theorem OwT.pub {R : List Addr} {v : V} {d : D} (l : Same F H) (h : OwT Z F H R v d) : Rp Z (pubF F H R) v d.sb := h.rp pub_f (fun _ _ => pub_tup l) fun _ m _ => pub_in l m

/-- the object at a is the top of the tree d, what it holds is frozen -/
def Top (Z : Wd) (F H : Hp) (a : Addr) : D → Prop
  | .lst ds => ∃ xs, H a = some (.lst xs) ∧ RpA Z F xs ds
  | .dk ds => kOk (ds.map (·.1)) ∧ ∃ xs, H a = some (.dK xs) ∧ RpP Z F xs ds
  | .dt ds => (∀ p ∈ ds, kOk p.1) ∧ ∃ xs, H a = some (.dT xs) ∧ RpP Z F xs ds
  | .st xs => H a = some (SetGO Z.P Z.w a xs) ∧ kOk xs
  | .obj c ds => ∃ C dx xs, Z.ca c = some C ∧ H a = some (.ins C dx xs) ∧ RpP Z F xs ds
  | _ => False
theorem Top.there {a : Addr} {d : D} (h : Top Z F H a d) : ∃ o, H a = some o := by
  cases d <;> simp only [Top] at h
  case lst => obtain ⟨_, h, _⟩ := h; exact ⟨_, h⟩
  case dk => obtain ⟨_, _, h, _⟩ := h; exact ⟨_, h⟩
  case dt => obtain ⟨_, _, h, _⟩ := h; exact ⟨_, h⟩
  case st => exact ⟨_, h.1⟩
  case obj => obtain ⟨_, _, _, _, h, _⟩ := h; exact ⟨_, h⟩
theorem Top.thereN {a : Addr} {d : D} (h : Top Z F H a d) : ∃ o, H a = some o ∧ NT o := by
  cases d <;> simp only [Top] at h
  case lst => obtain ⟨_, h, _⟩ := h; exact ⟨_, h, fun _ z => by cases z⟩
  case dk => obtain ⟨_, _, h, _⟩ := h; exact ⟨_, h, fun _ z => by cases z⟩
  case dt => obtain ⟨_, _, h, _⟩ := h; exact ⟨_, h, fun _ z => by cases z⟩
  case st => exact ⟨_, h.1, fun _ z => by cases z⟩
  case obj => obtain ⟨_, _, _, _, h, _⟩ := h; exact ⟨_, h, fun _ z => by cases z⟩
/-- kept where the object stands as it stood -/
theorem Top.keep {a : Addr} {d : D} (h : Top Z F H a d) (e : Same F F') (k : ∀ o, H a = some o → H' a = some o) : Top Z F' H' a d := by
  cases d <;> simp only [Top] at h ⊢
  case lst => obtain ⟨_, h, r⟩ := h; exact ⟨_, k _ h, r.mono e⟩
  case dk => obtain ⟨q, _, h, r⟩ := h; exact ⟨q, _, k _ h, r.mono e⟩
  case dt => obtain ⟨q, _, h, r⟩ := h; exact ⟨q, _, k _ h, r.mono e⟩
  case st => exact ⟨k _ h.1, h.2⟩
  case obj => obtain ⟨_, _, _, c, h, r⟩ := h; exact ⟨_, _, _, c, k _ h, r.mono e⟩
/-- frozen -/
theorem Top.rp {a : Addr} {d : D} (h : Top Z F H a d) (e : Same F F') (k : ∀ o, H a = some o → F' a = some o) : Rp Z F' (.ref a) d := by
  cases d <;> simp only [Top] at h
  case lst => obtain ⟨_, h, r⟩ := h; exact .lst (k _ h) (r.mono e)
  case dk => obtain ⟨q, _, h, r⟩ := h; exact .dk (.inl (k _ h)) q (r.mono e)
  case dt => obtain ⟨q, _, h, r⟩ := h; exact .dt (.inl (k _ h)) q (r.mono e)
  case st => exact .st (k _ h.1) h.2
  case obj => obtain ⟨_, _, _, c, h, r⟩ := h; exact .obj c (k _ h) (r.mono e)

/-- v is read as d: frozen, or an object of its own -/
def RdV (Z : Wd) (F H : Hp) (v : V) (d : D) : Prop := Rp Z F v d ∨ ∃ a, v = .ref a ∧ F a = none ∧ Top Z F H a d

/-! ### the state of a frame -/
/-- the entry: the frozen part and the heap at the call; the places that may be changed -/
structure En where
  F : Hp
  H : Hp
  M : List Addr
  mi : Nat → Option Addr
  bi : Nat → List Addr
def SlOk (Z : Wd) (N : En) (F H : Hp) (o : Option V) : Sl → Prop
  | .no => True
  | .fz d => ∃ v, o = some v ∧ Rp Z F v d
  | .ow d => ∃ a, o = some (.ref a) ∧ F a = none ∧ N.H a = none ∧ Top Z F H a d
  | .bo d => ∃ v, o = some v ∧ (Rp Z F v d ∨ ∃ a, v = .ref a ∧ F a = none ∧ (∃ u, N.H a = some u) ∧ a ∉ N.M ∧ Top Z F H a d)
  | .mu d => ∃ a, o = some (.ref a) ∧ F a = none ∧ a ∈ N.M ∧ Top Z F H a d
  | .dp f d => ∃ v R, o = some v ∧ OwT Z F H R v (.ob d) ∧ ∀ b ∈ R, N.H b = none ∨ (f = false ∧ b ∈ N.M)
def Sl.own : Sl → Bool
  | .ow _ => true | .mu _ => true | _ => false
/-- nobody else may hold what the slot holds -/
def Sl.ex : Sl → Bool
  | .ow _ => true | .mu _ => true | .dp _ _ => true | _ => false
theorem Sl.own_ex {s : Sl} (h : s.own = true) : s.ex = true := by cases s <;> first | rfl | cases h
/-- the slot holds the object at a, and it is not frozen -/
def Live (Z : Wd) (F H : Hp) (o : Option V) (s : Sl) (a : Addr) : Prop := match s with
  | .ow _ => o = some (.ref a)
  | .mu _ => o = some (.ref a)
  | .bo d => o = some (.ref a) ∧ ¬ Rp Z F (.ref a) d
  | .dp _ d => ∃ v R, o = some v ∧ OwT Z F H R v (.ob d) ∧ a ∈ R
  | _ => False
structure SOk (Z : Wd) (N : En) (F H : Hp) (σ : St) (e : Env) : Prop where
  le : Same F H
  f0 : Same N.F F
  h0 : ∀ b o, N.H b = some o → b ∉ N.M → H b = some o
  nf : ∀ b o, N.H b = some o → NT o → N.F b = none → F b = none
  len : σ.length = e.length
  slot : ∀ (i : Nat) (s : Sl), e[i]? = some s → ∃ o, σ[i]? = some o ∧ SlOk Z N F H o s
  sep : ∀ (i j : Nat) (s t : Sl) (a : Addr), e[i]? = some s → e[j]? = some t → i ≠ j → s.ex = true → Live Z F H ((σ[i]?).join) s a → Live Z F H ((σ[j]?).join) t a → False
  mh : ∀ a ∈ N.M, F a = none ∧ (∃ o, H a = some o ∧ NT o) ∧ ∃ o, N.H a = some o
  mus : ∀ (i : Nat) (d : D), e[i]? = some (.mu d) → ∃ a, σ[i]? = some (some (.ref a)) ∧ N.mi i = some a
  bos : ∀ (i : Nat) (d : D) (a : Addr) (r : List Addr), e[i]? = some (.bo d) → N.bi i = a :: r → σ[i]? = some (some (.ref a))
  lks : ∀ (i j : Nat) (d : D) (a : Addr), e[i]? = some (.bo d) → a ∈ N.bi j → Live Z F H ((σ[i]?).join) (.bo d) a → i = j
  lkh : ∀ (j : Nat) (a : Addr), a ∈ N.bi j → ∃ u, N.H a = some u
/-- what an expression hands back -/
def RvOk (Z : Wd) (N : En) (F H : Hp) (σ : St) (e : Env) (v : V) : RV → Prop
  | .fz d => Rp Z F v d
  | .nw d => ∃ a, v = .ref a ∧ F a = none ∧ N.H a = none ∧ Top Z F H a d ∧ ∀ (i : Nat) (s : Sl), e[i]? = some s → ¬ Live Z F H ((σ[i]?).join) s a
  | .at i => σ[i]? = some (some v) ∧ ∃ s, e[i]? = some s ∧ s ≠ .no
  | .dn d => ∃ R, OwT Z F H R v (.ob d) ∧ (∀ b ∈ R, N.H b = none) ∧ ∀ b ∈ R, ∀ (i : Nat) (s : Sl), e[i]? = some s → ¬ Live Z F H ((σ[i]?).join) s b

variable {N : En} {σ : St} {e e' : Env}

theorem Live.mono {o : Option V} {s : Sl} {a : Addr} (h : Live Z F' H' o s a) (k : SlOk Z N F H o s) (f : Same F F') (g : ∀ b, (∃ u, H b = some u ∧ NT u) → F b = none → F' b = none) (kp : ∀ R d v f, s = .dp f d → o = some v → OwT Z F H R v (.ob d) → Kp R H H') : Live Z F H o s a := by
  cases s <;> simp only [Live] at h ⊢
  case dp f0 d =>
    obtain ⟨v, R, e1, d1, m⟩ := h
    obtain ⟨w, Q, e2, d2, _⟩ := k
    rw [e1] at e2; cases e2
    have d3 := d2.mono f (fun b hb => g b (d2.there b hb).2 (d2.there b hb).1) (kp _ _ _ _ rfl e1 d2)
    rw [d1.uniq d3] at m
    exact ⟨v, Q, e1, d2, m⟩
  all_goals first | exact h | exact ⟨h.1, fun r => h.2 (r.mono f)⟩ | exact h.elim
theorem Live.there {o : Option V} {s : Sl} {a : Addr} (h : Live Z F H o s a) (k : SlOk Z N F H o s) : F a = none ∧ ∃ u, H a = some u ∧ NT u := by
  cases s <;> simp only [Live] at h
  case ow => obtain ⟨b, e, f, _, t⟩ := k; rw [h] at e; cases e; exact ⟨f, t.thereN⟩
  case mu => obtain ⟨b, e, f, _, t⟩ := k; rw [h] at e; cases e; exact ⟨f, t.thereN⟩
  case bo =>
    obtain ⟨v, e, r | ⟨b, rfl, f, _, _, t⟩⟩ := k
    · rw [h.1] at e; cases e; exact (h.2 r).elim
    · rw [h.1] at e; cases e; exact ⟨f, t.thereN⟩
  case dp =>
    obtain ⟨v, R, e1, d1, m⟩ := h
    exact d1.there a m
theorem SOk.live (S : SOk Z N F H σ e) {i : Nat} {s : Sl} {a : Addr} (h : e[i]? = some s) (l : Live Z F H ((σ[i]?).join) s a) : F a = none ∧ ∃ u, H a = some u := by
  obtain ⟨o, h1, h2⟩ := S.slot i s h
  rw [h1] at l
  obtain ⟨f, u, hu, _⟩ := Live.there l h2
  exact ⟨f, u, hu⟩
theorem SOk.liveN (S : SOk Z N F H σ e) {i : Nat} {s : Sl} {a : Addr} (h : e[i]? = some s) (l : Live Z F H ((σ[i]?).join) s a) : F a = none ∧ ∃ u, H a = some u ∧ NT u := by
  obtain ⟨o, h1, h2⟩ := S.slot i s h
  rw [h1] at l
  exact Live.there l h2
theorem slot_get {e : Env} {i : Nat} {s : Sl} (h : S3.slot e i = s) (hs : s ≠ .no) : e[i]? = some s := by
  unfold S3.slot at h
  rw [List.getD_eq_getElem?_getD] at h
  cases q : e[i]? with
  | none => rw [q] at h; exact absurd h.symm hs
  | some t => rw [q] at h; exact congrArg some h
theorem slot_of {e : Env} {i : Nat} {s : Sl} (h : e[i]? = some s) : S3.slot e i = s := by
  unfold S3.slot
  rw [List.getD_eq_getElem?_getD, h]
  rfl
theorem SlOk.rd {o : Option V} {s : Sl} {d : D} (h : SlOk Z N F H o s) (hd : s.val = some d) : ∃ v, o = some v ∧ RdV Z F H v d := by
  cases s <;> simp only [Sl.val, Option.some.injEq] at hd
  case no => cases hd
  case fz => subst hd; obtain ⟨v, e, r⟩ := h; exact ⟨v, e, .inl r⟩
  case ow => subst hd; obtain ⟨a, e, f, _, t⟩ := h; exact ⟨_, e, .inr ⟨a, rfl, f, t⟩⟩
  case bo =>
    subst hd
    obtain ⟨v, e, r | ⟨a, rfl, f, _, _, t⟩⟩ := h
    · exact ⟨v, e, .inl r⟩
    · exact ⟨_, e, .inr ⟨a, rfl, f, t⟩⟩
  case mu => subst hd; obtain ⟨a, e, f, _, t⟩ := h; exact ⟨_, e, .inr ⟨a, rfl, f, t⟩⟩
  case dp => cases hd
/-- read -/
theorem RvOk.rd (S : SOk Z N F H σ e) {v : V} {r : RV} {d : D} (h : RvOk Z N F H σ e v r) (hd : rd r e = some d) : RdV Z F H v d := by
  cases r with
  | fz x => cases hd; exact .inl h
  | nw x => cases hd; obtain ⟨a, e, f, _, t, _⟩ := h; exact .inr ⟨a, e, f, t⟩
  | «at» i =>
    obtain ⟨h1, s, h2, h3⟩ := h
    have q : S3.slot e i = s := slot_of h2
    have hd : (S3.slot e i).val = some d := hd
    rw [q] at hd
    obtain ⟨o, ho, so⟩ := S.slot i s h2
    obtain ⟨v', e1, r⟩ := so.rd hd
    rw [h1] at ho
    cases ho
    cases e1
    exact r
  | dn x => cases hd

theorem kp_same {R : List Addr} (k : Same H H') : Kp R H H' := fun _ _ h _ => k _ _ h
/-- what is live behind a change was live -/
theorem SOk.unlive (S : SOk Z N F H σ e) {i : Nat} {s : Sl} {a : Addr} (h : e[i]? = some s) (l : Live Z F' H' ((σ[i]?).join) s a) (f : Same F F') (g : ∀ b, (∃ u, H b = some u ∧ NT u) → F b = none → F' b = none)
    (kp : ∀ R d v f, s = .dp f d → (σ[i]?).join = some v → OwT Z F H R v (.ob d) → Kp R H H') : Live Z F H ((σ[i]?).join) s a := by
  obtain ⟨o, h1, h2⟩ := S.slot i s h
  rw [h1] at l kp ⊢
  exact l.mono h2 f g kp
/-- the heap grows -/
theorem SlOk.grow {o : Option V} {s : Sl} (h : SlOk Z N F H o s) (f : Same F F') (k : Same H H') (nf : ∀ b u, H b = some u → NT u → F b = none → F' b = none) : SlOk Z N F' H' o s := by
  cases s with
  | no => trivial
  | fz d => obtain ⟨v, e, r⟩ := h; exact ⟨v, e, r.mono f⟩
  | ow d => obtain ⟨a, e, x, y, t⟩ := h; obtain ⟨u, hu, nt⟩ := t.thereN; exact ⟨a, e, nf _ _ hu nt x, y, t.keep f (k _)⟩
  | bo d =>
    obtain ⟨v, e, r | ⟨a, rfl, x, y, z, t⟩⟩ := h
    · exact ⟨v, e, .inl (r.mono f)⟩
    · obtain ⟨u, hu, nt⟩ := t.thereN
      exact ⟨_, e, .inr ⟨a, rfl, nf _ _ hu nt x, y, z, t.keep f (k _)⟩⟩
  | mu d => obtain ⟨a, e, x, y, t⟩ := h; obtain ⟨u, hu, nt⟩ := t.thereN; exact ⟨a, e, nf _ _ hu nt x, y, t.keep f (k _)⟩
  | dp g d => obtain ⟨v, R, e, x, y⟩ := h; exact ⟨v, R, e, x.mono f (fun b hb => by obtain ⟨q, u, hu, nt⟩ := x.there b hb; exact nf _ _ hu nt q) (kp_same k), y⟩
theorem SOk.grow (S : SOk Z N F H σ e) (f : Same F F') (k : Same H H') (l : Same F' H') (nf : ∀ b u, H b = some u → NT u → F b = none → F' b = none) : SOk Z N F' H' σ e where
  le := l
  f0 := S.f0.trans f
  h0 := fun b o h m => k _ _ (S.h0 b o h m)
  nf := fun b o h nt n => by
    by_cases m : b ∈ N.M
    · obtain ⟨_, ⟨u, q, nq⟩, _⟩ := S.mh b m
      exact nf b u q nq (S.nf b o h nt n)
    · exact nf b o (S.h0 b o h m) nt (S.nf b o h nt n)
  len := S.len
  slot := fun i s h => let ⟨o, h1, h2⟩ := S.slot i s h; ⟨o, h1, h2.grow f k nf⟩
  sep := fun i j s t a h1 h2 ne o l1 l2 => S.sep i j s t a h1 h2 ne o (S.unlive h1 l1 f (fun b ⟨u, q, n⟩ => nf b u q n) fun _ _ _ _ _ _ _ => kp_same k) (S.unlive h2 l2 f (fun b ⟨u, q, n⟩ => nf b u q n) fun _ _ _ _ _ _ _ => kp_same k)
  mh := fun a m => let ⟨x, ⟨u, y, ny⟩, z⟩ := S.mh a m; ⟨nf a u y ny x, ⟨u, k a u y, ny⟩, z⟩
  mus := S.mus
  bos := S.bos
  lks := fun i j d a h1 m l1 => S.lks i j d a h1 m (S.unlive h1 l1 f (fun b ⟨u, q, n⟩ => nf b u q n) fun _ _ _ _ _ _ _ => kp_same k)
  lkh := S.lkh

/-- slots forgotten -/
theorem get_set_no {e : Env} {i j : Nat} {s : Sl} (h : (e.set i .no)[j]? = some s) : s = .no ∨ e[j]? = some s := by
  by_cases q : i = j
  · subst q
    by_cases l : i < e.length
    · rw [List.getElem?_set_self l] at h
      exact .inl (Option.some.inj h).symm
    · rw [List.getElem?_eq_none (by rw [List.length_set]; omega)] at h
      cases h
  · rw [List.getElem?_set_ne q] at h
    exact .inr h
theorem SOk.forget (S : SOk Z N F H σ e) (i : Nat) : SOk Z N F H σ (e.set i .no) where
  le := S.le
  f0 := S.f0
  h0 := S.h0
  nf := S.nf
  len := by rw [List.length_set]; exact S.len
  slot := fun j s h => by
    rcases get_set_no h with q | q
    · subst q
      have l : j < σ.length := by
        have := (List.getElem?_eq_some_iff.mp h).1
        rw [List.length_set] at this
        rw [S.len]; exact this
      exact ⟨_, List.getElem?_eq_getElem l, trivial⟩
    · exact S.slot j s q
  sep := fun j k s t a h1 h2 ne o s1 s2 => by
    rcases get_set_no h1 with q | q
    · subst q; cases o
    · rcases get_set_no h2 with q2 | q2
      · subst q2; exact s2.elim
      · exact S.sep j k s t a q q2 ne o s1 s2
  mh := S.mh
  mus := fun j d h => by
    rcases get_set_no h with q | q
    · cases q
    · exact S.mus j d q
  bos := fun j d a r h k => by
    rcases get_set_no h with q | q
    · cases q
    · exact S.bos j d a r q k
  lks := fun k j d a h m l => by
    rcases get_set_no h with q | q
    · cases q
    · exact S.lks k j d a q m l
  lkh := S.lkh
theorem SOk.wipe (S : SOk Z N F H σ e) : ∀ is : List Nat, SOk Z N F H σ (wipeE e is)
  | [] => S
  | i :: is => (S.wipe is).forget i

theorem get_set {α : Type} {e : List α} {i j : Nat} {x s : α} (h : (e.set i x)[j]? = some s) : (i = j ∧ s = x ∧ i < e.length) ∨ (i ≠ j ∧ e[j]? = some s) := by
  by_cases q : i = j
  · subst q
    by_cases l : i < e.length
    · rw [List.getElem?_set_self l] at h
      exact .inl ⟨rfl, (Option.some.inj h).symm, l⟩
    · rw [List.getElem?_eq_none (by rw [List.length_set]; omega)] at h
      cases h
  · rw [List.getElem?_set_ne q] at h
    exact .inr ⟨q, h⟩
/-- a slot is given a frozen value -/
theorem SOk.set (S : SOk Z N F H σ e) {i : Nat} {v : V} {d : D} (r : Rp Z F v d) : SOk Z N F H (σ.set i (some v)) (e.set i (.fz d)) where
  le := S.le
  f0 := S.f0
  h0 := S.h0
  nf := S.nf
  len := by rw [List.length_set, List.length_set]; exact S.len
  slot := fun j s h => by
    rcases get_set h with ⟨q, rfl, l⟩ | ⟨q, h'⟩
    · subst q
      exact ⟨some v, List.getElem?_set_self (by rw [S.len]; exact l), v, rfl, r⟩
    · rw [List.getElem?_set_ne q]
      exact S.slot j s h'
  sep := fun j k s t a h1 h2 ne o s1 s2 => by
    rcases get_set h1 with ⟨q, rfl, l⟩ | ⟨q, h1'⟩
    · cases o
    · rcases get_set h2 with ⟨q2, rfl, l2⟩ | ⟨q2, h2'⟩
      · exact s2.elim
      · rw [List.getElem?_set_ne q] at s1
        rw [List.getElem?_set_ne q2] at s2
        exact S.sep j k s t a h1' h2' ne o s1 s2
  mh := S.mh
  mus := fun j d h => by
    rcases get_set h with ⟨_, q, _⟩ | ⟨q, h'⟩
    · cases q
    · rw [List.getElem?_set_ne q]
      exact S.mus j d h'
  bos := fun j d a r h k => by
    rcases get_set h with ⟨_, q, _⟩ | ⟨q, h'⟩
    · cases q
    · rw [List.getElem?_set_ne q]
      exact S.bos j d a r h' k
  lks := fun k j d a h m l => by
    rcases get_set h with ⟨_, q, _⟩ | ⟨q, h'⟩
    · cases q
    · rw [List.getElem?_set_ne q] at l
      exact S.lks k j d a h' m l
  lkh := S.lkh
/-- a slot is given a new object -/
theorem SOk.setOw (S : SOk Z N F H σ e) {i : Nat} {a : Addr} {d : D} (f : F a = none) (n : N.H a = none) (t : Top Z F H a d) (ap : ∀ (j : Nat) (s : Sl), e[j]? = some s → ¬ Live Z F H ((σ[j]?).join) s a) :
    SOk Z N F H (σ.set i (some (.ref a))) (e.set i (.ow d)) where
  le := S.le
  f0 := S.f0
  h0 := S.h0
  nf := S.nf
  len := by rw [List.length_set, List.length_set]; exact S.len
  slot := fun j s h => by
    rcases get_set h with ⟨q, rfl, l⟩ | ⟨q, h'⟩
    · subst q
      exact ⟨_, List.getElem?_set_self (by rw [S.len]; exact l), a, rfl, f, n, t⟩
    · rw [List.getElem?_set_ne q]
      exact S.slot j s h'
  sep := fun j k s t' b h1 h2 ne o s1 s2 => by
    rcases get_set h1 with ⟨q, rfl, l1⟩ | ⟨q, h1'⟩
    · subst q
      rw [List.getElem?_set_self (by rw [S.len]; exact l1)] at s1
      cases s1
      rcases get_set h2 with ⟨q2, rfl, l2⟩ | ⟨q2, h2'⟩
      · exact ne q2
      · rw [List.getElem?_set_ne q2] at s2
        exact ap k t' h2' s2
    · rw [List.getElem?_set_ne q] at s1
      rcases get_set h2 with ⟨q2, rfl, l2⟩ | ⟨q2, h2'⟩
      · subst q2
        rw [List.getElem?_set_self (by rw [S.len]; exact l2)] at s2
        cases s2
        exact ap j s h1' s1
      · rw [List.getElem?_set_ne q2] at s2
        exact S.sep j k s t' b h1' h2' ne o s1 s2
  mh := S.mh
  mus := fun j d h => by
    rcases get_set h with ⟨_, q, _⟩ | ⟨q, h'⟩
    · cases q
    · rw [List.getElem?_set_ne q]
      exact S.mus j d h'
  bos := fun j d a r h k => by
    rcases get_set h with ⟨_, q, _⟩ | ⟨q, h'⟩
    · cases q
    · rw [List.getElem?_set_ne q]
      exact S.bos j d a r h' k
  lks := fun k j d a h m l => by
    rcases get_set h with ⟨_, q, _⟩ | ⟨q, h'⟩
    · cases q
    · rw [List.getElem?_set_ne q] at l
      exact S.lks k j d a h' m l
  lkh := S.lkh

/-- what stands at a is laid into the frozen part -/
theorem same_upd {F : Hp} {a : Addr} {o : HO} (n : F a = none) : Same F (upd F a o) := fun b u h => by rw [upd_ne (ne_of_none h n)]; exact h
theorem upd_le {F H : Hp} {a : Addr} {o : HO} (l : Same F H) (h : H a = some o) : Same (upd F a o) H := fun b u q => by
  by_cases z : b = a
  · subst z; rw [upd_same] at q; cases q; exact h
  · rw [upd_ne z] at q; exact l _ _ q
/-- a slot is given a new deep tree -/
theorem SOk.setDp (S : SOk Z N F H σ e) {i : Nat} {v : V} {d : D} {R : List Addr} {g : Bool} (t : OwT Z F H R v (.ob d)) (n : ∀ b ∈ R, N.H b = none ∨ (g = false ∧ b ∈ N.M)) (ap : ∀ b ∈ R, ∀ (j : Nat) (s : Sl), e[j]? = some s → ¬ Live Z F H ((σ[j]?).join) s b) :
    SOk Z N F H (σ.set i (some v)) (e.set i (.dp g d)) where
  le := S.le
  f0 := S.f0
  h0 := S.h0
  nf := S.nf
  len := by rw [List.length_set, List.length_set]; exact S.len
  slot := fun j s h => by
    rcases get_set h with ⟨q, rfl, l⟩ | ⟨q, h'⟩
    · subst q
      exact ⟨_, List.getElem?_set_self (by rw [S.len]; exact l), v, R, rfl, t, n⟩
    · rw [List.getElem?_set_ne q]
      exact S.slot j s h'
  sep := fun j k s t' b h1 h2 ne o s1 s2 => by
    rcases get_set h1 with ⟨q, rfl, l1⟩ | ⟨q, h1'⟩
    · subst q
      rw [List.getElem?_set_self (by rw [S.len]; exact l1)] at s1
      obtain ⟨w, Q, e1, d1, m⟩ := s1
      cases e1
      rw [d1.uniq t] at m
      rcases get_set h2 with ⟨q2, rfl, l2⟩ | ⟨q2, h2'⟩
      · exact ne q2
      · rw [List.getElem?_set_ne q2] at s2
        exact ap b m k t' h2' s2
    · rw [List.getElem?_set_ne q] at s1
      rcases get_set h2 with ⟨q2, rfl, l2⟩ | ⟨q2, h2'⟩
      · subst q2
        rw [List.getElem?_set_self (by rw [S.len]; exact l2)] at s2
        obtain ⟨w, Q, e1, d1, m⟩ := s2
        cases e1
        rw [d1.uniq t] at m
        exact ap b m j s h1' s1
      · rw [List.getElem?_set_ne q2] at s2
        exact S.sep j k s t' b h1' h2' ne o s1 s2
  mh := S.mh
  mus := fun j d h => by
    rcases get_set h with ⟨_, q, _⟩ | ⟨q, h'⟩
    · cases q
    · rw [List.getElem?_set_ne q]
      exact S.mus j d h'
  bos := fun j d a r h k => by
    rcases get_set h with ⟨_, q, _⟩ | ⟨q, h'⟩
    · cases q
    · rw [List.getElem?_set_ne q]
      exact S.bos j d a r h' k
  lks := fun k j d a h m l => by
    rcases get_set h with ⟨_, q, _⟩ | ⟨q, h'⟩
    · cases q
    · rw [List.getElem?_set_ne q] at l
      exact S.lks k j d a h' m l
  lkh := S.lkh
/-- a fresh region that no slot holds is frozen -/
theorem SOk.freezeR (S : SOk Z N F H σ e) (f : Same F F') (l : Same F' H) {R : List Addr} (new : ∀ b ∈ R, N.H b = none) (out : ∀ b u, b ∉ R → H b = some u → NT u → F b = none → F' b = none) (ap : ∀ b ∈ R, ∀ (j : Nat) (s : Sl), e[j]? = some s → ¬ Live Z F H ((σ[j]?).join) s b) : SOk Z N F' H σ e := by
  have og : ∀ (j : Nat) (s : Sl), e[j]? = some s → ∀ b, Live Z F H ((σ[j]?).join) s b → F' b = none := fun j s hs b lv => by
    obtain ⟨q, u, hu, nt⟩ := S.liveN hs lv
    exact out b u (fun m => ap b m j s hs lv) hu nt q
  have ul : ∀ (j : Nat) (s : Sl) (b : Addr), e[j]? = some s → Live Z F' H ((σ[j]?).join) s b → Live Z F H ((σ[j]?).join) s b := fun j s b hs lv => by
    obtain ⟨o, h1, h2⟩ := S.slot j s hs
    have og := og j s hs
    rw [h1] at lv og ⊢
    cases s <;> simp only [Live] at lv ⊢
    case dp g d =>
      obtain ⟨v, Q, e1, d1, m⟩ := lv
      obtain ⟨w, R2, e2, d2, _⟩ := h2
      have e1' : o = some v := e1
      rw [e1'] at e2; cases e2
      have d3 := d2.mono f (fun b hb => og b ⟨v, R2, e1, d2, hb⟩) (H' := H) fun _ _ z _ => z
      rw [d1.uniq d3] at m
      exact ⟨v, R2, e1, d2, m⟩
    all_goals first | exact lv | exact ⟨lv.1, fun r => lv.2 (r.mono f)⟩ | exact lv.elim
  exact {
    le := l
    f0 := S.f0.trans f
    h0 := S.h0
    nf := fun b u hb nt nb => by
      have nr : b ∉ R := fun m => by rw [new b m] at hb; cases hb
      by_cases m : b ∈ N.M
      · obtain ⟨x, ⟨u2, q, nq⟩, _⟩ := S.mh b m
        exact out b u2 nr q nq x
      · exact out b u nr (S.h0 b u hb m) nt (S.nf b u hb nt nb)
    len := S.len
    slot := fun j s hs => by
      obtain ⟨v, h1, h2⟩ := S.slot j s hs
      refine ⟨v, h1, ?_⟩
      have og := og j s hs
      rw [h1] at og
      cases s with
      | no => trivial
      | fz d => obtain ⟨v, e, r⟩ := h2; exact ⟨v, e, r.mono f⟩
      | ow d =>
        obtain ⟨b, e, x, y, t⟩ := h2
        subst e
        exact ⟨b, rfl, og b rfl, y, t.keep f fun _ q => q⟩
      | bo d =>
        obtain ⟨v, e, r⟩ := h2
        subst e
        by_cases rr : Rp Z F v d
        · exact ⟨v, rfl, .inl (rr.mono f)⟩
        · rcases r with r | ⟨b, rfl, x, y, z, t⟩
          · exact (rr r).elim
          · exact ⟨_, rfl, .inr ⟨b, rfl, og b ⟨rfl, rr⟩, y, z, t.keep f fun _ q => q⟩⟩
      | mu d =>
        obtain ⟨b, e, x, y, t⟩ := h2
        subst e
        exact ⟨b, rfl, og b rfl, y, t.keep f fun _ q => q⟩
      | dp g d =>
        obtain ⟨v, Q, e, d2, y⟩ := h2
        exact ⟨v, Q, e, d2.mono f (fun b hb => og b ⟨v, Q, e, d2, hb⟩) (H' := H) fun _ _ z _ => z, y⟩
    sep := fun i j s t b h1 h2 ne o l1 l2 => S.sep i j s t b h1 h2 ne o (ul i s b h1 l1) (ul j t b h2 l2)
    mh := fun b m => by
      obtain ⟨x, ⟨u, v, nv⟩, y⟩ := S.mh b m
      refine ⟨out b u (fun z => ?_) v nv x, ⟨u, v, nv⟩, y⟩
      obtain ⟨o, ho⟩ := y
      rw [new b z] at ho; cases ho
    mus := S.mus
    bos := S.bos
    lks := fun i j d a h m l => S.lks i j d a h m (ul i _ a h l)
    lkh := S.lkh }
/-- a fresh object that no slot holds is frozen -/
theorem SOk.freezeNew (S : SOk Z N F H σ e) {a : Addr} {o : HO} (f : F a = none) (n : N.H a = none) (h : H a = some o) (ap : ∀ (j : Nat) (s : Sl), e[j]? = some s → ¬ Live Z F H ((σ[j]?).join) s a) : SOk Z N (upd F a o) H σ e :=
  S.freezeR (R := [a]) (same_upd f) (upd_le S.le h) (fun b m => by rw [List.mem_singleton.mp m]; exact n) (fun b u m _ _ q => by rw [upd_ne fun z => m (by rw [z]; exact List.mem_singleton.mpr rfl)]; exact q)
    fun b m j s hs => by rw [List.mem_singleton.mp m]; exact ap j s hs
end
end S3

/-! B2: freezing, changing, growing; the readings of A1's terms; the general rules. -/
namespace S3
open PySem L2
section
variable {Z : Wd} {F F' H H' : Hp} {N : En} {σ : St} {e e' : Env}

/-- an owned slot is frozen -/
theorem SOk.freeze (S : SOk Z N F H σ e) {i : Nat} {d : D} (h : e[i]? = some (.ow d)) : ∃ a F', σ[i]? = some (some (.ref a)) ∧ Same F F' ∧ Rp Z F' (.ref a) d ∧ SOk Z N F' H σ (e.set i (.fz d)) := by
  obtain ⟨o, h1, h2⟩ := S.slot i _ h
  obtain ⟨a, rfl, fa, na, t⟩ := id h2
  obtain ⟨u, hu⟩ := t.there
  have ap : ∀ (j : Nat) (s : Sl), (e.set i .no)[j]? = some s → ¬ Live Z F H ((σ[j]?).join) s a := fun j s hj l => by
    rcases get_set hj with ⟨q, rfl, _⟩ | ⟨q, hj'⟩
    · exact l
    · exact S.sep i j _ s a h hj' q rfl (by rw [h1]; rfl) l
  have S1 := (S.forget i).freezeNew fa na hu ap
  have r : Rp Z (upd F a u) (.ref a) d := t.rp (same_upd fa) fun o ho => by rw [hu] at ho; cases ho; exact upd_same
  have S2 := S1.set (i := i) r
  have e1 : σ.set i (some (.ref a)) = σ := by
    apply List.ext_getElem? 
    intro j
    by_cases q : i = j
    · subst q
      rw [List.getElem?_set_self (List.getElem?_eq_some_iff.mp h1).1, h1]
    · rw [List.getElem?_set_ne q]
  rw [e1, List.set_set] at S2
  exact ⟨a, _, h1, same_upd fa, r, S2⟩

/-- a deep slot is frozen -/
theorem SOk.freezeDp (S : SOk Z N F H σ e) {i : Nat} {d : D} (h : e[i]? = some (.dp true d)) : ∃ v F', σ[i]? = some (some v) ∧ Same F F' ∧ Rp Z F' v d.sbT ∧ SOk Z N F' H σ (e.set i (.fz d.sbT)) := by
  obtain ⟨o, h1, h2⟩ := S.slot i _ h
  obtain ⟨v, R, rfl, t, nw⟩ := id h2
  have new : ∀ b ∈ R, N.H b = none := fun b m => (nw b m).elim id fun z => by cases z.1
  have ap : ∀ b ∈ R, ∀ (j : Nat) (s : Sl), (e.set i .no)[j]? = some s → ¬ Live Z F H ((σ[j]?).join) s b := fun b m j s hj l => by
    rcases get_set hj with ⟨q, rfl, _⟩ | ⟨q, hj'⟩
    · exact l
    · exact S.sep i j _ s b h hj' q rfl (by rw [h1]; exact ⟨v, R, rfl, t, m⟩) l
  have S1 := (S.forget i).freezeR (F' := pubF F H R) pub_f (pub_le S.le) new (fun b u m hb nt f => pub_out m f fun o ho => by rw [hb] at ho; cases ho; exact nt) ap
  have r : Rp Z (pubF F H R) v d.sbT := t.pub S.le
  have S2 := S1.set (i := i) r
  have e1 : σ.set i (some v) = σ := by
    apply List.ext_getElem? 
    intro j
    by_cases q : i = j
    · subst q
      rw [List.getElem?_set_self (List.getElem?_eq_some_iff.mp h1).1, h1]
    · rw [List.getElem?_set_ne q]
  rw [e1, List.set_set] at S2
  exact ⟨v, _, h1, pub_f, r, S2⟩
/-- a value is settled -/
theorem RvOk.stl (S : SOk Z N F H σ e) {v : V} {r : RV} {d : D} (R : RvOk Z N F H σ e v r) (h : stl r e = some (d, e')) : ∃ F', Same F F' ∧ SOk Z N F' H σ e' ∧ Rp Z F' v d := by
  cases r with
  | fz x => cases h; exact ⟨F, Same.refl _, S, R⟩
  | nw x =>
    cases h
    obtain ⟨a, rfl, fa, na, t, ap⟩ := R
    obtain ⟨u, hu⟩ := t.there
    exact ⟨_, same_upd fa, S.freezeNew fa na hu ap, t.rp (same_upd fa) fun o ho => by rw [hu] at ho; cases ho; exact upd_same⟩
  | «at» i =>
    obtain ⟨h1, s, h2, h3⟩ := R
    have q : S3.slot e i = s := slot_of h2
    unfold S3.stl at h
    dsimp only at h
    rw [q] at h
    cases s with
    | fz x =>
      cases h
      obtain ⟨o, ho, w, rfl, r⟩ := S.slot i _ h2
      rw [h1] at ho; cases ho
      exact ⟨F, Same.refl _, S, r⟩
    | ow x =>
      cases h
      obtain ⟨a, F', g1, g2, g3, g4⟩ := S.freeze h2
      rw [h1] at g1; cases g1
      exact ⟨F', g2, g4, g3⟩
    | no => cases h
    | bo x => cases h
    | mu x => cases h
    | dp g x =>
      cases g with
      | false => cases h
      | true =>
        cases h
        obtain ⟨a, F', g1, g2, g3, g4⟩ := S.freezeDp h2
        rw [h1] at g1; cases g1
        exact ⟨F', g2, g4, g3⟩
  | dn x =>
    cases h
    obtain ⟨Q, t, new, ap⟩ := R
    exact ⟨_, pub_f, S.freezeR pub_f (pub_le S.le) new (fun b u m hb nt f => pub_out m f fun o ho => by rw [hb] at ho; cases ho; exact nt) ap, t.pub S.le⟩

/-- the object at an owned, or lent, slot is changed -/
theorem SOk.write (S : SOk Z N F H σ e) {i : Nat} {s : Sl} {a : Addr} {o : HO} {d' : D} (h : e[i]? = some s) (ho : s.own = true) (h1 : σ[i]? = some (some (.ref a))) (t : Top Z F (upd H a o) a d') :
    SOk Z N F (upd H a o) σ (e.set i (reown s d')) := by
  obtain ⟨ov, q1, q2⟩ := S.slot i s h
  rw [h1] at q1; cases q1
  have lv : Live Z F H ((σ[i]?).join) s a := by rw [h1]; cases s <;> first | rfl | cases ho
  obtain ⟨fa, u, hu, nu⟩ := S.liveN h lv
  have oth : ∀ (j : Nat) (s' : Sl), i ≠ j → e[j]? = some s' → ¬ Live Z F H ((σ[j]?).join) s' a := fun j s' q hj l => S.sep i j s s' a h hj q (Sl.own_ex ho) lv l
  have kpw : ∀ R : List Addr, a ∉ R → Kp R H (upd H a o) := fun R nr b x hb m => by
    rw [upd_ne ?_]; exact hb
    rintro rfl
    rw [hu] at hb; cases hb
    exact m.elim nr fun z => z nu
  have ul : ∀ (j : Nat) (s' : Sl) (b : Addr), i ≠ j → e[j]? = some s' → Live Z F (upd H a o) ((σ[j]?).join) s' b → Live Z F H ((σ[j]?).join) s' b := fun j s' b q hj l =>
    S.unlive hj l (Same.refl _) (fun _ _ z => z) fun R d v f es ev t => kpw R fun m => oth j s' q hj (by rw [es]; exact ⟨v, R, ev, t, m⟩)
  have il : i < e.length := (List.getElem?_eq_some_iff.mp h).1
  refine ⟨fun b x hb => by rw [upd_ne (ne_of_none hb fa)]; exact S.le _ _ hb, S.f0, fun b x hb m => ?_, S.nf, by rw [List.length_set]; exact S.len, fun j s' hj => ?_, fun j k s1 s2 b g1 g2 ne o1 l1 l2 => ?_, fun b m => ?_, fun j d2 hj => ?_, fun j d2 c r hj k => ?_, fun k j d2 c hj m l => ?_, S.lkh⟩
  · have nb : b ≠ a := by
      rintro rfl
      cases s with
      | ow x => obtain ⟨c, e1, _, n, _⟩ := q2; cases e1; rw [n] at hb; cases hb
      | mu x => obtain ⟨c, e1, _, n, _⟩ := q2; cases e1; exact m n
      | no => cases ho
      | fz x => cases ho
      | bo x => cases ho
      | dp g x => cases ho
    rw [upd_ne nb]
    exact S.h0 b x hb m
  · rcases get_set hj with ⟨q, rfl, _⟩ | ⟨q, hj'⟩
    · subst q
      refine ⟨_, h1, ?_⟩
      cases s with
      | ow x => obtain ⟨c, e1, f, n, _⟩ := q2; cases e1; exact ⟨a, rfl, f, n, t⟩
      | mu x => obtain ⟨c, e1, f, n, _⟩ := q2; cases e1; exact ⟨a, rfl, f, n, t⟩
      | no => cases ho
      | fz x => cases ho
      | bo x => cases ho
      | dp g x => cases ho
    · obtain ⟨ov, g1, g2⟩ := S.slot j s' hj'
      refine ⟨ov, g1, ?_⟩
      have nl := oth j s' q hj'
      rw [g1] at nl
      have kp : ∀ b, b ≠ a → ∀ o', H b = some o' → upd H a o b = some o' := fun b nb o' hb => by rw [upd_ne nb]; exact hb
      cases s' with
      | no => trivial
      | fz x => exact g2
      | ow x => obtain ⟨b, rfl, f, n, t'⟩ := g2; exact ⟨b, rfl, f, n, t'.keep (Same.refl _) (kp b fun z => nl (by rw [← z]; rfl))⟩
      | mu x => obtain ⟨b, rfl, f, n, t'⟩ := g2; exact ⟨b, rfl, f, n, t'.keep (Same.refl _) (kp b fun z => nl (by rw [← z]; rfl))⟩
      | bo x =>
        obtain ⟨v, rfl, r⟩ := g2
        by_cases rr : Rp Z F v x
        · exact ⟨v, rfl, .inl rr⟩
        · rcases r with r | ⟨b, rfl, f, n, m, t'⟩
          · exact (rr r).elim
          · exact ⟨_, rfl, .inr ⟨b, rfl, f, n, m, t'.keep (Same.refl _) (kp b fun z => nl (by rw [← z]; exact ⟨rfl, rr⟩))⟩⟩
      | dp g x =>
        obtain ⟨v, R, e1, t', y⟩ := g2
        exact ⟨v, R, e1, t'.mono (Same.refl _) (fun b hb => (t'.there b hb).1) (kpw R fun m => nl ⟨v, R, e1, t', m⟩), y⟩
  · rcases get_set g1 with ⟨q, rfl, _⟩ | ⟨q, g1'⟩
    · subst q
      have eb : b = a := by
        rw [h1] at l1
        cases s <;> first | (simp only [Live] at l1; exact (Option.some.inj l1 |> fun z => by injection z with z; exact z.symm)) | cases ho
      subst eb
      rcases get_set g2 with ⟨q2, rfl, _⟩ | ⟨q2, g2'⟩
      · exact ne q2
      · exact oth k s2 q2 g2' (ul k s2 _ q2 g2' l2)
    · rcases get_set g2 with ⟨q2, rfl, _⟩ | ⟨q2, g2'⟩
      · subst q2
        have eb : b = a := by
          rw [h1] at l2
          cases s <;> first | (simp only [Live] at l2; exact (Option.some.inj l2 |> fun z => by injection z with z; exact z.symm)) | cases ho
        subst eb
        exact oth j s1 q g1' (ul j s1 _ q g1' l1)
      · exact S.sep j k s1 s2 b g1' g2' ne o1 (ul j s1 _ q g1' l1) (ul k s2 _ q2 g2' l2)
  · obtain ⟨x, ⟨u', y, ny⟩, z⟩ := S.mh b m
    refine ⟨x, ?_, z⟩
    by_cases q : b = a
    · subst q; exact t.thereN
    · exact ⟨u', by rw [upd_ne q]; exact y, ny⟩
  · rcases get_set hj with ⟨q, e1, _⟩ | ⟨q, hj'⟩
    · subst q
      cases s <;> simp only [reown] at e1 <;> cases e1
      exact S.mus _ _ h
    · exact S.mus j d2 hj'
  · rcases get_set hj with ⟨q, e1, _⟩ | ⟨q, hj'⟩
    · subst q
      cases s <;> simp only [reown] at e1 <;> cases e1
    · exact S.bos j d2 c r hj' k
  · rcases get_set hj with ⟨q, e1, _⟩ | ⟨q, hj'⟩
    · subst q
      cases s <;> simp only [reown] at e1 <;> cases e1
    · exact S.lks k j d2 c hj' m (ul k _ c q hj' l)

/-! ### growth -/
/-- the heap and its frozen part grow; nothing that stood changes -/
structure Gr (F H F' H' : Hp) : Prop where
  f : Same F F'
  h : Same H H'
  le : Same F' H'
  nf : ∀ b u, H b = some u → NT u → F b = none → F' b = none
theorem Gr.refl (l : Same F H) : Gr F H F H := ⟨Same.refl _, Same.refl _, l, fun _ _ _ _ h => h⟩
theorem Gr.trans {F2 H2 : Hp} (a : Gr F H F' H') (b : Gr F' H' F2 H2) : Gr F H F2 H2 := ⟨a.f.trans b.f, a.h.trans b.h, b.le, fun c u h t n => b.nf c u (a.h _ _ h) t (a.nf c u h t n)⟩
/-- a new value -/
def NwOk (Z : Wd) (H F' H' : Hp) (v : V) : RV → Prop
  | .fz d => Rp Z F' v d
  | .nw d => ∃ a, v = .ref a ∧ H a = none ∧ F' a = none ∧ Top Z F' H' a d
  | .at _ => False
  | .dn d => ∃ R, OwT Z F' H' R v (.ob d) ∧ ∀ b ∈ R, H b = none
theorem SOk.gr (S : SOk Z N F H σ e) (g : Gr F H F' H') : SOk Z N F' H' σ e := S.grow g.f g.h g.le g.nf
theorem SOk.nohave (S : SOk Z N F H σ e) {a : Addr} (h : H a = none) : N.H a = none := by
  cases q : N.H a with
  | none => rfl
  | some o =>
    by_cases m : a ∈ N.M
    · obtain ⟨_, ⟨u, y, _⟩, _⟩ := S.mh a m
      rw [h] at y; cases y
    · have := S.h0 a o q m
      rw [h] at this; cases this
theorem SOk.rvok (S : SOk Z N F H σ e) (g : Gr F H F' H') {v : V} {r : RV} (n : NwOk Z H F' H' v r) : RvOk Z N F' H' σ e v r := by
  cases r with
  | fz d => exact n
  | nw d =>
    obtain ⟨a, rfl, h, f, t⟩ := n
    refine ⟨a, rfl, f, S.nohave h, t, fun j s hj l => ?_⟩
    obtain ⟨_, u, hu⟩ := S.live hj (S.unlive hj l g.f (fun b ⟨u, q, n⟩ => g.nf b u q n) fun _ _ _ _ _ _ _ => kp_same g.h)
    rw [h] at hu; cases hu
  | «at» i => exact n.elim
  | dn d =>
    obtain ⟨R, t, h⟩ := n
    refine ⟨R, t, fun b m => S.nohave (h b m), fun b m j s hj l => ?_⟩
    obtain ⟨_, u, hu⟩ := S.live hj (S.unlive hj l g.f (fun b ⟨u, q, n⟩ => g.nf b u q n) fun _ _ _ _ _ _ _ => kp_same g.h)
    rw [h b m] at hu; cases hu
/-- a new object laid -/
theorem Gr.lay (l : Same F H) {a : Addr} {o : HO} (n : H a = none) : Gr F H F (upd H a o) :=
  ⟨Same.refl _, same_upd n, fun b u h => by rw [upd_ne (ne_of_none (l _ _ h) n)]; exact l _ _ h, fun _ _ _ _ h => h⟩
theorem none_le (l : Same F H) {a : Addr} (n : H a = none) : F a = none := by
  cases q : F a with
  | none => rfl
  | some o => have := l _ _ q; rw [n] at this; cases this
/-- a new frozen object laid -/
theorem Gr.layF (l : Same F H) {a : Addr} {o : HO} (n : H a = none) : Gr F H (upd F a o) (upd H a o) := by
  have fa := none_le l n
  refine ⟨same_upd fa, same_upd n, fun b u h => ?_, fun b u hb _ h => ?_⟩
  · by_cases z : b = a
    · subst z; rw [upd_same] at h ⊢; exact h
    · rw [upd_ne z] at h ⊢; exact l _ _ h
  · have z : b ≠ a := ne_of_none hb n
    rw [upd_ne z]; exact h
end

/-! ### readings -/
/-- an exception's class, dict -/
def ExOk (Z : Wd) (F H : Hp) (x : Exn) (cls : Value) (d : Option Addr) : Prop :=
  ∃ C, Z.ca x.c = some C ∧ cls = .ref C ∧ (x.fs = [] → d = none) ∧
    (x.fs ≠ [] → ∃ dd vs, d = some dd ∧ F dd = some (.xd vs) ∧ RpP Z F vs x.fs)
def PostE (Z : Wd) (N : En) (F : Hp) (σ : St) (W : WX) (Q : VK) : RE → Prop
  | .no => False
  | .ok r e => ∀ v F' H', Same F F' → SOk Z N F' H' σ e → RvOk Z N F' H' σ e v r → Q v H'
  | .ex x e => ∀ cls d F' H', Same F F' → SOk Z N F' H' σ e → ExOk Z F' H' x cls d → W cls d σ H'
def tEv (Z : Wd) (W : WX) (f : EV) : TE := fun σ H Q => ∃ N F e, SOk Z N F H σ e ∧ PostE Z N F σ W Q (f e)
def PostT (Z : Wd) (N : En) (F : Hp) (σ : St) (W : WX) (Q : Bool → Hp → Prop) : RT → Prop
  | .no => False
  | .ok b e => ∀ F' H', Same F F' → SOk Z N F' H' σ e → Q b H'
  | .ex x e => ∀ cls d F' H', Same F F' → SOk Z N F' H' σ e → ExOk Z F' H' x cls d → W cls d σ H'
def tTv (Z : Wd) (W : WX) (f : TV) : TT := fun σ H Q => ∃ N F e, SOk Z N F H σ e ∧ PostT Z N F σ W Q (f e)
/-- held while other things are reckoned -/
def Held (Z : Wd) (F : Hp) (σ : St) (v : V) : RV → Prop
  | .fz d => Rp Z F v d
  | .nw d => Rp Z F v d
  | .at i => σ[i]? = some (some v)
  | .dn _ => True
/-- argument values -/
inductive Helds (Z : Wd) (F : Hp) (σ : St) : List V → List RV → Prop
  | nil : Helds Z F σ [] []
  | cons {v : V} {vs : List V} {r : RV} {rs : List RV} : Held Z F σ v r → Helds Z F σ vs rs → Helds Z F σ (v :: vs) (r :: rs)
def PostA (Z : Wd) (N : En) (F : Hp) (σ : St) (W : WX) (Q : List V → Hp → Prop) : RA → Prop
  | .no => False
  | .ok rs e => ∀ vs F' H', Same F F' → SOk Z N F' H' σ e → Helds Z F' σ vs rs → Q vs H'
  | .ex x e => ∀ cls d F' H', Same F F' → SOk Z N F' H' σ e → ExOk Z F' H' x cls d → W cls d σ H'
def tAv (Z : Wd) (W : WX) (f : AV) : TA := fun σ H Q => ∃ N F e, SOk Z N F H σ e ∧ PostA Z N F σ W Q (f e)
def PostS (Z : Wd) (N : En) (F : Hp) (W : WX) (E : Ends) : RS → Prop
  | .no => False
  | .nx e => ∀ F' H' σ', Same F F' → SOk Z N F' H' σ' e → E.nx σ' H'
  | .rt r e => ∀ v F' H' σ', Same F F' → SOk Z N F' H' σ' e → RvOk Z N F' H' σ' e v r → E.rt v H'
  | .bk e => ∀ F' H' σ', Same F F' → SOk Z N F' H' σ' e → E.bk σ' H'
  | .ct e => ∀ F' H' σ', Same F F' → SOk Z N F' H' σ' e → E.ct σ' H'
  | .ex x e => ∀ cls d F' H' σ', Same F F' → SOk Z N F' H' σ' e → ExOk Z F' H' x cls d → W cls d σ' H'
def tSv (Z : Wd) (W : WX) (f : SV) : TS := fun E σ H => ∃ N F e, SOk Z N F H σ e ∧ PostS Z N F W E (f e)

/-- the world of a context -/
abbrev zw (ca : Str → Option Addr) (X : Cx) : Wd := ⟨X.prog, X.w, X.K, ca⟩
/-- the text e says f; raises by the wish W -/
abbrev Ev (ca : Str → Option Addr) (W : WX) (X : Cx) (e : Expr) (f : EV) : Prop := PE X e (tEv (zw ca X) W f)
abbrev Tv (ca : Str → Option Addr) (W : WX) (X : Cx) (e : Expr) (f : TV) : Prop := PT X e (tTv (zw ca X) W f)
abbrev Av (ca : Str → Option Addr) (W : WX) (X : Cx) (es : List Expr) (f : AV) : Prop := PA X es (tAv (zw ca X) W f)
abbrev Sv (ca : Str → Option Addr) (W : WX) (X : Cx) (s : Stmt) (f : SV) : Prop := PS X s (tSv (zw ca X) W f)
abbrev Bv (ca : Str → Option Addr) (W : WX) (X : Cx) (s : List Stmt) (f : SV) : Prop := PSs X s (tSv (zw ca X) W f)

theorem PE_imp {X : Cx} {e : Expr} {t t' : TE} (h : PE X e t) (i : ∀ σ H Q, t' σ H Q → t σ H Q) : PE X e t' := ⟨fun p s σ H Q I q => h.run p s σ H Q I (i σ H Q q)⟩
theorem PT_imp {X : Cx} {e : Expr} {t t' : TT} (h : PT X e t) (i : ∀ σ H Q, t' σ H Q → t σ H Q) : PT X e t' := ⟨fun p s σ H Q I q => h.run p s σ H Q I (i σ H Q q)⟩
theorem PW_imp {X : Cx} {e : Expr} {t t' : TT} (h : PW X e t) (i : ∀ σ H Q, t' σ H Q → t σ H Q) : PW X e t' := ⟨fun w p s σ H Q I q => h.run w p s σ H Q I (i σ H Q q)⟩
theorem PA_imp {X : Cx} {e : List Expr} {t t' : TA} (h : PA X e t) (i : ∀ σ H Q, t' σ H Q → t σ H Q) : PA X e t' := ⟨fun w p s σ H Q I q => h.run w p s σ H Q I (i σ H Q q)⟩
theorem PS_imp {X : Cx} {e : Stmt} {t t' : TS} (h : PS X e t) (i : ∀ D σ H, t' D σ H → t D σ H) : PS X e t' := ⟨fun p s σ H D I q => h.run p s σ H D I (i D σ H q)⟩
theorem PSs_imp {X : Cx} {e : List Stmt} {t t' : TS} (h : PSs X e t) (i : ∀ D σ H, t' D σ H → t D σ H) : PSs X e t' := ⟨fun p s σ H D I q => h.run p s σ H D I (i D σ H q)⟩

section
variable {Z : Wd} {W : WX} {F F' H : Hp} {N : En} {σ : St}
theorem PostE.shift {Q : VK} {r : RE} (h : PostE Z N F σ W Q r) (s : Same F F') : PostE Z N F' σ W Q r := by
  cases r with
  | no => exact h
  | ok r e => exact fun v F2 H2 s2 => h v F2 H2 (s.trans s2)
  | ex x e => exact fun c d F2 H2 s2 => h c d F2 H2 (s.trans s2)
theorem PostT.shift {Q : Bool → Hp → Prop} {r : RT} (h : PostT Z N F σ W Q r) (s : Same F F') : PostT Z N F' σ W Q r := by
  cases r with
  | no => exact h
  | ok r e => exact fun F2 H2 s2 => h F2 H2 (s.trans s2)
  | ex x e => exact fun c d F2 H2 s2 => h c d F2 H2 (s.trans s2)
theorem PostA.shift {Q : List V → Hp → Prop} {r : RA} (h : PostA Z N F σ W Q r) (s : Same F F') : PostA Z N F' σ W Q r := by
  cases r with
  | no => exact h
  | ok r e => exact fun v F2 H2 s2 => h v F2 H2 (s.trans s2)
  | ex x e => exact fun c d F2 H2 s2 => h c d F2 H2 (s.trans s2)
theorem PostS.shift {E : Ends} {r : RS} (h : PostS Z N F W E r) (s : Same F F') : PostS Z N F' W E r := by
  cases r with
  | no => exact h
  | nx e => exact fun F2 H2 g s2 => h F2 H2 g (s.trans s2)
  | rt r e => exact fun v F2 H2 g s2 => h v F2 H2 g (s.trans s2)
  | bk e => exact fun F2 H2 g s2 => h F2 H2 g (s.trans s2)
  | ct e => exact fun F2 H2 g s2 => h F2 H2 g (s.trans s2)
  | ex x e => exact fun c d F2 H2 g s2 => h c d F2 H2 g (s.trans s2)

end
end S3

/-! B3: expressions: names, constants, operators, built-ins. -/
namespace S3
open PySem L2
section
variable {Z : Wd} {F F' H H' : Hp} {N : En} {σ : St} {e e' : Env} {v x y : V} {W : WX}

theorem Held.mono {r : RV} (h : Held Z F σ v r) (f : Same F F') : Held Z F' σ v r := by
  cases r with
  | fz d => exact Rp.mono f h
  | nw d => exact Rp.mono f h
  | «at» i => exact h
  | dn d => trivial
theorem RvOk.hold (S : SOk Z N F H σ e) {r : RV} (R : RvOk Z N F H σ e v r) : ∃ F', Same F F' ∧ SOk Z N F' H σ e ∧ Held Z F' σ v r := by
  cases r with
  | fz d => exact ⟨F, Same.refl _, S, R⟩
  | nw d =>
    obtain ⟨F', f, S', r⟩ := RvOk.stl (e' := e) S R rfl
    exact ⟨F', f, S', r⟩
  | «at» i => exact ⟨F, Same.refl _, S, R.1⟩
  | dn d => exact ⟨F, Same.refl _, S, trivial⟩
theorem Held.rd (S : SOk Z N F H σ e) {r : RV} {d : D} (h : Held Z F σ v r) (hd : S3.rd r e = some d) : RdV Z F H v d := by
  cases r with
  | fz x => cases hd; exact .inl h
  | nw x => cases hd; exact .inl h
  | «at» i =>
    have hd' : (S3.slot e i).val = some d := hd
    have ne : S3.slot e i ≠ .no := fun z => by rw [z] at hd'; cases hd'
    exact RvOk.rd S (r := .at i) ⟨h, _, slot_get rfl ne, ne⟩ hd
  | dn d => cases hd
/-! what a read value is -/
theorem RdV.non (h : RdV Z F H v .non) : v = .non := by
  rcases h with h | ⟨a, _, _, t⟩
  · cases h; rfl
  · exact t.elim
theorem RdV.bl {b : Bool} (h : RdV Z F H v (.bl b)) : v = .bl b := by
  rcases h with h | ⟨a, _, _, t⟩
  · cases h; rfl
  · exact t.elim
theorem RdV.int {i : Int} (h : RdV Z F H v (.int i)) : v = .int i := by
  rcases h with h | ⟨a, _, _, t⟩
  · cases h; rfl
  · exact t.elim
theorem RdV.str {s : Str} (h : RdV Z F H v (.str s)) : v = .str s ∧ s.length ≤ sizeLine ∧ sOk s = true := by
  rcases h with h | ⟨a, _, _, t⟩
  · cases h with
    | str _ z => exact ⟨rfl, by rw [sizeLine_eq]; exact sOk_len z, z⟩
  · exact t.elim
theorem RdV.lst {ds : List D} (l : Same F H) (h : RdV Z F H v (.lst ds)) : ∃ a xs, v = .ref a ∧ H a = some (.lst xs) ∧ RpA Z F xs ds := by
  rcases h with h | ⟨a, rfl, _, xs, t, r⟩
  · cases h with
    | lst k r => exact ⟨_, _, rfl, l _ _ k, r⟩
  · exact ⟨a, xs, rfl, t, r⟩
theorem RdV.tup {ds : List D} (l : Same F H) (h : RdV Z F H v (.tup ds)) : ∃ a xs, v = .ref a ∧ H a = some (.tup xs) ∧ RpA Z F xs ds := by
  rcases h with h | ⟨a, _, _, t⟩
  · cases h with
    | tup k r => exact ⟨_, _, rfl, l _ _ k, r⟩
  · exact t.elim
theorem RdV.dk {ds : List (Key × D)} (l : Same F H) (h : RdV Z F H v (.dk ds)) : ∃ a xs, v = .ref a ∧ L2.Rd H a (.dK xs) ∧ RpP Z F xs ds := by
  rcases h with h | ⟨a, rfl, _, _, xs, t, r⟩
  · cases h with
    | dk k _ r => exact ⟨_, _, rfl, Rd.mono k l, r⟩
  · exact ⟨a, xs, rfl, .inl t, r⟩
theorem RdV.dt {ds : List (List Key × D)} (l : Same F H) (h : RdV Z F H v (.dt ds)) : ∃ a xs, v = .ref a ∧ L2.Rd H a (.dT xs) ∧ RpP Z F xs ds := by
  rcases h with h | ⟨a, rfl, _, _, xs, t, r⟩
  · cases h with
    | dt k _ r => exact ⟨_, _, rfl, Rd.mono k l, r⟩
  · exact ⟨a, xs, rfl, .inl t, r⟩
theorem RdV.st {ks : List Key} (l : Same F H) (h : RdV Z F H v (.st ks)) : ∃ a, v = .ref a ∧ H a = some (SetGO Z.P Z.w a ks) ∧ kOk ks := by
  rcases h with h | ⟨a, rfl, _, t, r⟩
  · cases h with
    | st k r => exact ⟨_, rfl, l _ _ k, r⟩
  · exact ⟨a, rfl, t, r⟩
theorem RdV.obj {c : Str} {ds : List (Str × D)} (l : Same F H) (h : RdV Z F H v (.obj c ds)) : ∃ a C dx xs, v = .ref a ∧ Z.ca c = some C ∧ H a = some (.ins C dx xs) ∧ RpP Z F xs ds := by
  rcases h with h | ⟨a, rfl, _, C, dx, xs, c, t, r⟩
  · cases h with
    | obj c k r => exact ⟨_, _, _, _, rfl, c, l _ _ k, r⟩
  · exact ⟨a, C, dx, xs, rfl, c, t, r⟩
theorem RpA.length : ∀ {vs : List V} {ds : List D}, RpA Z F vs ds → vs.length = ds.length
  | _, _, .nil => rfl
  | _, _, .cons _ r => congrArg Nat.succ r.length
theorem RpA.get : ∀ {vs : List V} {ds : List D} {i : Nat} {d : D}, RpA Z F vs ds → ds[i]? = some d → ∃ v, vs[i]? = some v ∧ Rp Z F v d
  | _, _, _, _, .nil, h => by simp at h
  | _, _, 0, _, .cons h _, q => by simp at q; subst q; exact ⟨_, rfl, h⟩
  | _, _, i + 1, _, .cons _ r, q => by
    obtain ⟨v, h1, h2⟩ := RpA.get (i := i) r (by simpa using q)
    exact ⟨v, by simpa using h1, h2⟩
theorem RpA.append : ∀ {vs ws : List V} {ds es : List D}, RpA Z F vs ds → RpA Z F ws es → RpA Z F (vs ++ ws) (ds ++ es)
  | _, _, _, _, .nil, s => s
  | _, _, _, _, .cons h r, s => .cons h (r.append s)
theorem RpA.drop : ∀ {vs : List V} {ds : List D} (n : Nat), RpA Z F vs ds → RpA Z F (vs.drop n) (ds.drop n)
  | _, _, 0, r => r
  | _, _, _ + 1, .nil => .nil
  | _, _, n + 1, .cons _ r => r.drop n
theorem RpA.take : ∀ {vs : List V} {ds : List D} (n : Nat), RpA Z F vs ds → RpA Z F (vs.take n) (ds.take n)
  | _, _, 0, _ => .nil
  | _, _, _ + 1, .nil => .nil
  | _, _, n + 1, .cons h r => .cons h (r.take n)
theorem RpA.reverse : ∀ {vs : List V} {ds : List D}, RpA Z F vs ds → RpA Z F vs.reverse ds.reverse
  | _, _, .nil => .nil
  | _, _, .cons h r => by rw [List.reverse_cons, List.reverse_cons]; exact r.reverse.append (.cons h .nil)
theorem RpA.set : ∀ {vs : List V} {ds : List D} (i : Nat) {v : V} {d : D}, RpA Z F vs ds → Rp Z F v d → RpA Z F (vs.set i v) (ds.set i d)
  | _, _, _, _, _, .nil, _ => .nil
  | _, _, 0, _, _, .cons _ r, h => .cons h r
  | _, _, i + 1, _, _, .cons h r, q => .cons h (r.set i q)
theorem RpA.atI {vs : List V} {ds : List D} {i : Int} {d : D} (r : RpA Z F vs ds) (h : atI ds i = some d) : ∃ v, atI vs i = some v ∧ Rp Z F v d := by
  unfold L2.atI at h ⊢
  rw [r.length]
  cases q : ixN ds.length i with
  | none => rw [q] at h; cases h
  | some j => rw [q] at h; exact r.get (i := j) h

/-! ### readings of two values, of one -/
abbrev R1 := V → Hp → VK → Prop
def Sound2 (Z : Wd) (r : V → V → Hp → VK → Prop) (op : D → D → Option RV) : Prop :=
  ∀ F H x y dx dy rr Q, Same F H → RdV Z F H x dx → RdV Z F H y dy → op dx dy = some rr → (∀ v F' H', Gr F H F' H' → NwOk Z H F' H' v rr → Q v H') → r x y H Q
def Sound1 (Z : Wd) (r : V → Hp → VK → Prop) (op : D → Option RV) : Prop :=
  ∀ F H x dx rr Q, Same F H → RdV Z F H x dx → op dx = some rr → (∀ v F' H', Gr F H F' H' → NwOk Z H F' H' v rr → Q v H') → r x H Q
/-- the end of an operation -/
theorem op_end {rr : RV} {Q : VK} (S : SOk Z N F H σ e) (P : PostE Z N F σ W Q (.ok rr e)) (v : V) (F' H' : Hp) (g : Gr F H F' H') (n : NwOk Z H F' H' v rr) : Q v H' :=
  P v F' H' g.f (S.gr g) (S.rvok g n)
/-- a first expression, then what the rest asks -/
theorem bindL {f : EV} {k : RV → EV} {Q R : VK} (S : SOk Z N F H σ e) (P : PostE Z N F σ W Q (eBind f k e))
    (K : ∀ x F1 H1 e1 r, Same F F1 → SOk Z N F1 H1 σ e1 → RvOk Z N F1 H1 σ e1 x r → PostE Z N F1 σ W Q (k r e1) → R x H1) : tEv Z W f σ H R := by
  unfold eBind at P
  refine ⟨N, F, e, S, ?_⟩
  cases q : f e with
  | no => rw [q] at P; exact P
  | ex z e1 => rw [q] at P; exact P
  | ok r e1 => rw [q] at P; exact fun x F1 H1 f1 S1 R1 => K x F1 H1 e1 r f1 S1 R1 (PostE.shift (r := k r e1) P f1)
/-- an int, then what the rest asks -/
theorem bindI {f : EV} {k : RV → EV} {Q R : VK} (S : SOk Z N F H σ e) (P : PostE Z N F σ W Q (eBind (eI f) k e))
    (K : ∀ i F1 H1 e1, Same F F1 → SOk Z N F1 H1 σ e1 → PostE Z N F1 σ W Q (k (.fz (.int i)) e1) → R (.int i) H1) : tEv Z W f σ H R := by
  unfold eI eBind at P
  refine ⟨N, F, e, S, ?_⟩
  cases q : f e with
  | no => rw [q] at P; exact P
  | ex z e1 => rw [q] at P; exact P
  | ok r e1 =>
    rw [q] at P
    cases r with
    | fz d =>
      cases d with
      | int i =>
        intro x F1 H1 f1 S1 R1
        have ex : x = .int i := RdV.int (H := H1) (.inl R1)
        subst ex
        exact K i F1 H1 e1 f1 S1 (PostE.shift (r := k (.fz (.int i)) e1) P f1)
      | _ => exact P.elim
    | _ => exact P.elim
theorem two {r : V → V → Hp → VK → Prop} {op : D → D → Option RV} (hs : Sound2 Z r op) {fa fb : EV} {Q : VK} (h : tEv Z W (eOp2 op fa fb) σ H Q) :
    tEv Z W fa σ H fun x H1 => tEv Z W fb σ H1 fun y H2 => r x y H2 Q := by
  obtain ⟨N, F, e, S, P⟩ := h
  refine bindL S P fun x F1 H1 e1 ra f1 S1 R1 P1 => ?_
  obtain ⟨F2, f2, S2, h2⟩ := RvOk.hold S1 R1
  refine bindL S2 (PostE.shift P1 f2) fun y F3 H3 e3 rb f3 T3 R3 P3 => ?_
  obtain ⟨F4, f4, S4, h4⟩ := RvOk.hold T3 R3
  have P4 := PostE.shift P3 f4
  have g2 := (h2.mono f3).mono f4
  cases d1 : S3.rd ra e3 with
  | none => rw [d1] at P4; exact P4.elim
  | some dx =>
    cases d2 : S3.rd rb e3 with
    | none => rw [d1, d2] at P4; exact P4.elim
    | some dy =>
      rw [d1, d2] at P4
      dsimp only at P4
      cases d3 : op dx dy with
      | none => rw [d3] at P4; exact P4.elim
      | some rr =>
        rw [d3] at P4
        exact hs F4 H3 x y dx dy rr Q S4.le (g2.rd S4 d1) (h4.rd S4 d2) d3 (op_end S4 P4)
theorem one {r : V → Hp → VK → Prop} {op : D → Option RV} (hs : Sound1 Z r op) {fa : EV} {Q : VK} (h : tEv Z W (eOp1 op fa) σ H Q) :
    tEv Z W fa σ H fun x H1 => r x H1 Q := by
  obtain ⟨N, F, e, S, P⟩ := h
  refine bindL S P fun x F1 H1 e1 ra f1 S1 R1 P1 => ?_
  obtain ⟨F2, f2, S2, h2⟩ := RvOk.hold S1 R1
  have P2 := PostE.shift P1 f2
  cases d1 : S3.rd ra e1 with
  | none => rw [d1] at P2; exact P2.elim
  | some dx =>
    rw [d1] at P2
    dsimp only at P2
    cases d3 : op dx with
    | none => rw [d3] at P2; exact P2.elim
    | some rr =>
      rw [d3] at P2
      exact hs F2 H1 x dx rr Q S2.le (h2.rd S2 d1) d3 (op_end S2 P2)
end
end S3

/-! B4: expressions: names, constants, operators. -/
namespace S3
open PySem L2
section
variable {Z : Wd} {F F' H H' : Hp} {N : En} {σ : St} {e e' : Env} {v x y : V} {W : WX}
theorem slot_rd {i : Nat} {Q : VK} (h : tEv Z W (eSlot i) σ H Q) : tVar i σ H Q := by
  obtain ⟨N, F, e, S, P⟩ := h
  unfold eSlot at P
  have key : ∀ s, S3.slot e i = s → s ≠ .no → ∃ v, σ[i]? = some (some v) ∧ RvOk Z N F H σ e v (.at i) ∧ SlOk Z N F H (some v) s := fun s hs hn => by
    have g := slot_get hs hn
    obtain ⟨o, h1, h2⟩ := S.slot i s g
    have : ∃ v, o = some v := by
      cases s with
      | no => exact (hn rfl).elim
      | fz d => obtain ⟨v, e, _⟩ := h2; exact ⟨v, e⟩
      | ow d => obtain ⟨v, e, _⟩ := h2; exact ⟨_, e⟩
      | bo d => obtain ⟨v, e, _⟩ := h2; exact ⟨v, e⟩
      | mu d => obtain ⟨v, e, _⟩ := h2; exact ⟨_, e⟩
      | dp g d => obtain ⟨v, R, e, _⟩ := h2; exact ⟨_, e⟩
    obtain ⟨v, rfl⟩ := this
    exact ⟨v, h1, ⟨h1, s, g, hn⟩, h2⟩
  cases q : S3.slot e i with
  | no => rw [q] at P; exact P.elim
  | fz d =>
    obtain ⟨v, h1, _, w, e1, r⟩ := key _ q (by intro z; cases z)
    cases e1
    rw [q] at P
    exact ⟨v, h1, P v F H (Same.refl _) S r⟩
  | ow d =>
    obtain ⟨v, h1, h2, _⟩ := key _ q (by intro z; cases z)
    rw [q] at P
    exact ⟨v, h1, P v F H (Same.refl _) S h2⟩
  | bo d =>
    obtain ⟨v, h1, h2, _⟩ := key _ q (by intro z; cases z)
    rw [q] at P
    exact ⟨v, h1, P v F H (Same.refl _) S h2⟩
  | mu d =>
    obtain ⟨v, h1, h2, _⟩ := key _ q (by intro z; cases z)
    rw [q] at P
    exact ⟨v, h1, P v F H (Same.refl _) S h2⟩
  | dp g d =>
    obtain ⟨v, h1, h2, _⟩ := key _ q (by intro z; cases z)
    rw [q] at P
    exact ⟨v, h1, P v F H (Same.refl _) S h2⟩
theorem const_rd {d : D} {v : V} {Q : VK} (r : ∀ F, Rp Z F v d) (h : tEv Z W (eC d) σ H Q) : tC v σ H Q := by
  obtain ⟨N, F, e, S, P⟩ := h
  exact P v F H (Same.refl _) S (r F)
end

section
variable {ca : Str → Option Addr} {W : WX} {X : Cx} {a b c : Expr} {fa fb fc : EV} {pos : Pos}
/-! ### names and constants -/
theorem ev_slot (i : Nat) {x : Str} {pos : Pos} (hN : X.N[i]? = some x := by rfl) (hv : Vis X.env.scope x := by first | exact Or.inl rfl | exact Or.inr (Or.inl rfl) | exact Or.inr (Or.inr rfl)) (hd : (x == ("__debug__" : Str)) = false := by decide)
    (hcd : (x == ("__classdict__" : Str)) = false := by decide) : Ev ca W X (.Name x pos) (eSlot i) := PE_imp (pe_var hN hv hd hcd) fun _ _ _ => slot_rd
theorem ev_int {i : Int} {j : Nat} : Ev ca W X (.Constant (.int i) j pos) (eC (.int i)) := PE_imp pe_int fun _ _ _ => const_rd fun _ => .int i
theorem ev_bl {b : Bool} {j : Nat} : Ev ca W X (.Constant (.bool b) j pos) (eC (.bl b)) := PE_imp pe_bl fun _ _ _ => const_rd fun _ => .bl b
theorem ev_non {j : Nat} : Ev ca W X (.Constant .none j pos) (eC .non) := PE_imp pe_non fun _ _ _ => const_rd fun _ => .non
theorem ev_str {x : Str} {j : Nat} (hz : sOk x = true := by decide +kernel) : Ev ca W X (.Constant (.str x) j pos) (eC (.str x)) := PE_imp pe_str fun _ _ _ => const_rd fun _ => .str x hz
/-! ### operators -/
theorem ev_bin {op : Operator} {r : V → V → Hp → VK → Prop} {o : D → D → Option RV} (ho : OpR X (binaryOp op) r) (hs : Sound2 (zw ca X) r o) (ha : Ev ca W X a fa) (hb : Ev ca W X b fb) : Ev ca W X (.BinOp a op b pos) (eOp2 o fa fb) :=
  PE_imp (pe_op ho ha hb) fun _ _ _ => two hs
theorem ev_cmp {op : CmpOp} {r : V → V → Hp → VK → Prop} {o : D → D → Option RV} (ho : OpR X (compareOp op) r) (hs : Sound2 (zw ca X) r o) (ha : Ev ca W X a fa) (hb : Ev ca W X b fb) (hm : behindInMarks op b = false) : Ev ca W X (.Compare a [op] [b] pos) (eOp2 o fa fb) :=
  PE_imp (pe_cmpR ho ha hb hm) fun _ _ _ => two hs
end

/-! ### what the operators give -/
section
variable {Z : Wd} {r r' : V → V → Hp → VK → Prop}
/-- a frozen value at the heap as it is -/
theorem fin_fz {F H : Hp} {Q : VK} {d : D} {v : V} (l : Same F H) (q : ∀ v F' H', Gr F H F' H' → NwOk Z H F' H' v (.fz d) → Q v H') (r : Rp Z F v d) : Q v H := q v F H (Gr.refl l) r
theorem fin_int {F H : Hp} {Q : VK} {i : Int} (l : Same F H) (q : ∀ v F' H', Gr F H F' H' → NwOk Z H F' H' v (.fz (.int i)) → Q v H') : Q (.int i) H := fin_fz l q (.int i)
theorem fin_bl {F H : Hp} {Q : VK} {i : Bool} (l : Same F H) (q : ∀ v F' H', Gr F H F' H' → NwOk Z H F' H' v (.fz (.bl i)) → Q v H') : Q (.bl i) H := fin_fz l q (.bl i)
/-- a new list -/
theorem fin_lst {F H : Hp} {Q : VK} {ds : List D} {xs : List V} (l : Same F H) (q : ∀ v F' H', Gr F H F' H' → NwOk Z H F' H' v (.nw (.lst ds)) → Q v H') (r : RpA Z F xs ds) : ∀ p, H p = none → Q (.ref p) (upd H p (.lst xs)) := fun p hp =>
  q (.ref p) F _ (Gr.lay l hp) ⟨p, rfl, hp, none_le l hp, xs, upd_same, r⟩
theorem s_sub : Sound2 Z (rI0 fun i j => .int (i - j)) opSub := by
  intro F H x y dx dy rr Q l hx hy ho q
  cases dx <;> cases dy <;> simp only [opSub] at ho <;> try cases ho
  exact ⟨_, _, hx.int, hy.int, fin_int l q⟩
theorem s_mod : Sound2 Z (rI (fun _ j => 0 < j) fun i j => .int (i % j)) opMod := by
  intro F H x y dx dy rr Q l hx hy ho q
  cases dx <;> cases dy <;> simp only [opMod] at ho <;> try cases ho
  split at ho
  · cases ho; exact ⟨_, _, hx.int, hy.int, by assumption, fin_int l q⟩
  · cases ho
theorem s_div : Sound2 Z (rI CDiv fun i j => .int (i / j)) opDiv := by
  intro F H x y dx dy rr Q l hx hy ho q
  cases dx <;> cases dy <;> simp only [opDiv] at ho <;> try cases ho
  split at ho
  · cases ho; exact ⟨_, _, hx.int, hy.int, by assumption, fin_int l q⟩
  · cases ho
theorem s_pow : Sound2 Z (rI CPow fun i j => .int (i ^ j.toNat)) opPow := by
  intro F H x y dx dy rr Q l hx hy ho q
  cases dx <;> cases dy <;> simp only [opPow] at ho <;> try cases ho
  split at ho
  · cases ho; exact ⟨_, _, hx.int, hy.int, by assumption, fin_int l q⟩
  · cases ho
theorem s_shr : Sound2 Z (rI (fun _ j => 0 ≤ j) fun i j => .int (i / 2 ^ j.toNat)) opShr := by
  intro F H x y dx dy rr Q l hx hy ho q
  cases dx <;> cases dy <;> simp only [opShr] at ho <;> try cases ho
  split at ho
  · cases ho; exact ⟨_, _, hx.int, hy.int, by assumption, fin_int l q⟩
  · cases ho
/-- a comparison of two ints, or of two strings -/
def rCmpA (f : Int → Int → Bool) (g : Str → Str → Bool) : V → V → Hp → VK → Prop := fun x y H Q => rI0 (fun i j => .bl (f i j)) x y H Q ∨ ∃ i j, x = .str i ∧ y = .str j ∧ Q (.bl (g i j)) H
theorem op_ltA {X : Cx} : OpR X (compareOp .Lt) (rCmpA (fun i j => decide (i < j)) fun i j => decide (i.cps.toList < j.cps.toList)) := op_lt.or op_lt_str
theorem op_gtA {X : Cx} : OpR X (compareOp .Gt) (rCmpA (fun i j => decide (j < i)) fun i j => decide (j.cps.toList < i.cps.toList)) := op_gt.or op_gt_str
theorem op_geA {X : Cx} : OpR X (compareOp .GtE) (rCmpA (fun i j => decide (j ≤ i)) fun i j => !decide (i.cps.toList < j.cps.toList)) := op_ge.or op_ge_str
theorem s_lt : Sound2 Z (rCmpA (fun i j => decide (i < j)) fun i j => decide (i.cps.toList < j.cps.toList)) opLt := by
  intro F H x y dx dy rr Q l hx hy ho q
  cases dx <;> cases dy <;> simp only [opLt] at ho <;> cases ho
  · exact .inl ⟨_, _, hx.int, hy.int, fin_bl l q⟩
  · exact .inr ⟨_, _, hx.str.1, hy.str.1, fin_bl l q⟩
theorem s_gt : Sound2 Z (rCmpA (fun i j => decide (j < i)) fun i j => decide (j.cps.toList < i.cps.toList)) opGt := by
  intro F H x y dx dy rr Q l hx hy ho q
  cases dx <;> cases dy <;> simp only [opGt] at ho <;> cases ho
  · exact .inl ⟨_, _, hx.int, hy.int, fin_bl l q⟩
  · exact .inr ⟨_, _, hx.str.1, hy.str.1, fin_bl l q⟩
theorem s_ge : Sound2 Z (rCmpA (fun i j => decide (j ≤ i)) fun i j => !decide (i.cps.toList < j.cps.toList)) opGe := by
  intro F H x y dx dy rr Q l hx hy ho q
  cases dx <;> cases dy <;> simp only [opGe] at ho <;> cases ho
  · exact .inl ⟨_, _, hx.int, hy.int, fin_bl l q⟩
  · exact .inr ⟨_, _, hx.str.1, hy.str.1, fin_bl l q⟩
/-! a + b -/
def rAddA (K : PySem.W.Frag) : V → V → Hp → VK → Prop := fun x y H Q => rI0 (fun i j => .int (i + j)) x y H Q ∨ (∃ i j, x = .str i ∧ y = .str j ∧ i.length + j.length ≤ sizeLine ∧ Q (.str (i ++ j)) H) ∨ rCat x y H Q ∨ rCatA K x y H Q
theorem op_addA {X : Cx} : OpR X (binaryOp .Add) (rAddA X.K) := op_add.or (op_add_str.or (op_cat.or op_catA))
theorem str_len (x y : Str) : (x ++ y).length = x.length + y.length := by
  show (x.cps ++ y.cps).size = _
  rw [Array.size_append]
  rfl
theorem s_add : Sound2 Z (rAddA Z.K) opAdd := by
  intro F H x y dx dy rr Q l hx hy ho q
  cases dx <;> cases dy <;> simp only [opAdd] at ho <;> try (cases ho; done)
  · cases ho; exact .inl ⟨_, _, hx.int, hy.int, fin_int l q⟩
  · split at ho
    · rename_i h
      cases ho
      refine .inr (.inl ⟨_, _, hx.str.1, hy.str.1, by rw [sizeLine_eq]; exact h, ?_⟩)
      exact fin_fz l q (.str _ (sOk_of (by rw [str_len]; exact h) (by show (_ ++ _ : Array Nat).all _ = true; rw [Array.all_append, sOk_cps hx.str.2.2, sOk_cps hy.str.2.2]; rfl)))
    · cases ho
  · split at ho
    · rename_i h
      cases ho
      obtain ⟨a, xs, rfl, ha, ra⟩ := hx.lst l
      obtain ⟨b, ys, rfl, hb, rb⟩ := hy.lst l
      exact .inr (.inr (.inl ⟨a, b, xs, ys, rfl, rfl, ha, hb, by rw [sizeLine_eq, ra.length, rb.length]; exact h, fin_lst l q (ra.append rb)⟩))
    · cases ho
  · split at ho
    · rename_i h
      cases ho
      have hx' : Rp Z F x (.tup _) := hx.elim id fun ⟨_, _, _, t⟩ => t.elim
      have hy' : Rp Z F y (.tup _) := hy.elim id fun ⟨_, _, _, t⟩ => t.elim
      obtain ⟨a, xs, rfl, ha, ra⟩ := hx.tup l
      obtain ⟨b, ys, rfl, hb, rb⟩ := hy.tup l
      refine .inr (.inr (.inr ⟨a, b, xs, ys, rfl, rfl, SqT.of ha, SqT.of hb, by rw [sizeLine_eq, ra.length, rb.length]; exact h, fun z => ?_, fun _ z => ?_, fun _ _ p hp => ?_⟩))
      · subst z; cases ra; exact fin_fz l q hy'
      · subst z; cases rb
        rw [List.append_nil] at q
        exact fin_fz l q hx'
      · exact q (.ref p) _ _ (Gr.layF l hp) (.tup upd_same ((ra.append rb).mono (same_upd (none_le l hp))))
    · cases ho
theorem notLongS {n : Nat} (h : n ≤ 1000000) : PySem.Builtin.Str.tooLong n = false := by
  unfold PySem.Builtin.Str.tooLong
  rw [decide_eq_false]
  rw [sizeLine_eq]
  omega
theorem fold_rep (x : Array Nat) : ∀ (k : Nat) (acc : Array Nat), (List.replicate k x).foldl (· ++ ·) acc = acc ++ (List.replicate k x.toList).flatten.toArray
  | 0, acc => by simp
  | k + 1, acc => by
    rw [List.replicate_succ, List.foldl_cons, fold_rep x k, List.replicate_succ, List.flatten_cons]
    apply Array.ext'
    simp
theorem strRep_zero {x : Str} {n : Int} (h : n < 1) : strRep x n = Str.empty := by
  unfold strRep
  rw [show n.toNat = 0 by omega]
  rfl
theorem strRep_one {x : Str} : strRep x 1 = x := by
  unfold strRep
  obtain ⟨c⟩ := x
  simp
theorem strRep_nil {x : Str} {n : Int} (h : x.length = 0) : strRep x n = x := by
  obtain ⟨c⟩ := x
  have e : c = #[] := Array.eq_empty_of_size_eq_zero h
  subst e
  unfold strRep
  have : ∀ k : Nat, (List.replicate k ([] : List Nat)).flatten = [] := fun k => by induction k with
    | zero => rfl
    | succ k ih => rw [List.replicate_succ, List.flatten_cons, ih]; rfl
  simp [this]
theorem strRep_len (x : Str) (n : Int) : (strRep x n).length = n.toNat * x.length := by
  unfold strRep
  show (List.flatten _).toArray.size = _
  rw [List.size_toArray, List.length_flatten, List.map_replicate, List.sum_replicate_nat]
  rfl
theorem strRep_ok {x : Str} {n : Int} (h : sOk x = true) (h1 : n ≤ 1000) (h2 : x.length ≤ 1000) : sOk (strRep x n) = true := by
  refine sOk_of ?_ ?_
  · rw [strRep_len]
    have : n.toNat ≤ 1000 := by omega
    exact Nat.le_trans (Nat.mul_le_mul this h2) (by decide)
  · have q := sOk_cps h
    unfold strRep
    simp only [List.all_toArray]
    rw [List.all_eq_true] 
    intro c hc
    obtain ⟨l, hl, hcl⟩ := List.mem_flatten.mp hc
    have := List.eq_of_mem_replicate hl
    subst this
    exact Array.all_eq_true_iff_forall_mem.mp q c (Array.mem_toList_iff.mp hcl)
theorem op_mulS {X : Cx} : OpR X (binaryOp .Mult) (fun x y H Q => ∃ i n, x = .str i ∧ y = .int n ∧ (-1000 ≤ n ∧ n ≤ 1000 ∧ i.length ≤ 1000) ∧ Q (.str (strRep i n)) H) := by
  intro pins s σ H x y v u Q I rx ry h
  obtain ⟨i, n, rfl, rfl, ⟨h1, h2, h3⟩, q⟩ := h
  obtain ⟨t, rfl⟩ := rx
  obtain ⟨t', rfl⟩ := ry
  have fin : ∀ (tk : Tok) (s' : Shared), Inv X pins σ H s' → EP X pins σ Q (.str (strRep i n) tk) s' := fun tk s' I' => ⟨.str (strRep i n), H, I', ⟨tk, rfl⟩, q⟩
  have z1 : i.length * n.toNat ≤ 1000000 := Nat.mul_le_mul h3 (show n.toNat ≤ 1000 by omega)
  refine PySem.P.mul_str (by rw [decide_eq_false (by omega), decide_eq_false (by omega)]; rfl) (fun h4 _ => ?_) (fun h4 _ => ?_) ?_
  · have : (1000 : Int) ≤ (2 ^ 63 - 1) / n := by
      rw [Int.le_ediv_iff_mul_le (by omega)]
      omega
    omega
  · exact notLongS z1
  · by_cases c1 : n < 1
    · rw [if_pos c1]
      have e := strRep_zero (x := i) c1
      refine ⟨by decide, ?_⟩
      rw [← e]
      exact fin _ _ (I.tok _)
    · rw [if_neg c1]
      by_cases c2 : (n == 1 || i.length == 0) = true
      · rw [if_pos c2]
        have e : strRep i n = i := by
          rw [Bool.or_eq_true, beq_iff_eq, beq_iff_eq] at c2
          rcases c2 with rfl | c2
          · exact strRep_one
          · exact strRep_nil c2
        have f := fin t s I
        rw [e] at f
        exact f
      · rw [if_neg c2]
        have e : (⟨(List.replicate n.toNat i.cps).foldl (· ++ ·) #[]⟩ : Str) = strRep i n := by
          unfold strRep
          rw [fold_rep]
          simp
        rw [e]
        refine ⟨?_, fin _ _ (I.tok _)⟩
        rw [strRep_len, Nat.mul_comm, sizeLine_eq]
        omega
def rMulA : V → V → Hp → VK → Prop := fun x y H Q => rI CMul (fun i j => .int (i * j)) x y H Q ∨ ∃ i n, x = .str i ∧ y = .int n ∧ (-1000 ≤ n ∧ n ≤ 1000 ∧ i.length ≤ 1000) ∧ Q (.str (strRep i n)) H
theorem op_mulA {X : Cx} : OpR X (binaryOp .Mult) rMulA := op_mul.or op_mulS
theorem s_mul : Sound2 Z rMulA opMul := by
  intro F H x y dx dy rr Q l hx hy ho q
  cases dx <;> cases dy <;> simp only [opMul] at ho <;> try (cases ho; done)
  · split at ho
    · cases ho; exact .inl ⟨_, _, hx.int, hy.int, by assumption, fin_int l q⟩
    · cases ho
  · split at ho
    · rename_i h
      cases ho
      exact .inr ⟨_, _, hx.str.1, hy.int, h, fin_fz l q (.str _ (strRep_ok hx.str.2.2 h.2.1 h.2.2))⟩
    · cases ho

/-! plain data -/
theorem dp_of {K : PySem.W.Frag} {H : Hp} (hK : Z.K = K) : ∀ (n : Nat) {F : Hp} {v : V} {d : D}, Same F H → okD n d = true → RdV Z F H v d → Dp K H v (py n d) := by
  subst hK
  intro n
  induction n with
  | zero =>
    intro F v d l o h
    cases d <;> simp [okD] at o
    · rw [h.non]; exact .non
    · rw [h.bl]; exact .bl _
    · rw [h.int]; exact .int _
    · rw [h.str.1]; exact .str _
  | succ n ih =>
    intro F v d l o h
    have all : ∀ {vs : List V} {ds : List D}, RpA Z F vs ds → ds.all (okD n) = true → DpAll Z.K H vs (ds.map (py n)) := by
      intro vs ds r
      induction ds generalizing vs with
      | nil => intro _; cases r; exact .nil
      | cons d ds ihd =>
        intro q
        cases r with
        | cons r1 r2 =>
          rw [List.all_cons, Bool.and_eq_true] at q
          exact .cons (ih l q.1 (.inl r1)) (ihd r2 q.2)
    cases d <;> simp only [okD] at o <;> try (cases o; done)
    · rw [h.non]; exact .non
    · rw [h.bl]; exact .bl _
    · rw [h.int]; exact .int _
    · rw [h.str.1]; exact .str _
    · obtain ⟨a, xs, rfl, ha, ra⟩ := h.lst l
      exact .lst (SqL.of ha) (all ra o)
    · obtain ⟨a, xs, rfl, ha, ra⟩ := h.tup l
      exact .tup (SqT.of ha) (all ra o)
theorem py_depth : ∀ (n : Nat) (d : D), okD n d = true → (py n d).depth ≤ n := by
  intro n
  induction n with
  | zero => intro d o; cases d <;> simp [okD] at o <;> simp [py, PyData.depth]
  | succ n ih =>
    intro d o
    have all : ∀ ds : List D, ds.all (okD n) = true → PyData.depthAll (ds.map (py n)) ≤ n := by
      intro ds
      induction ds with
      | nil => intro _; simp [PyData.depthAll]
      | cons d ds ihd =>
        intro q
        rw [List.all_cons, Bool.and_eq_true] at q
        have h2 := ih d q.1
        have h4 := ihd q.2
        simp only [List.map_cons, PyData.depthAll]
        omega
    cases d <;> simp only [okD] at o <;> try (cases o; done)
    case lst xs => have h2 := all _ o; simp only [py, PyData.depth]; omega
    case tup xs => have h2 := all _ o; simp only [py, PyData.depth]; omega
    all_goals simp [py, PyData.depth]
theorem py_lay {F H : Hp} (l : Same F H) : ∀ (n : Nat) {v : V} {d : D}, okD n d = true → RdV Z F H v d → (py n d).canLay0 = true := by
  intro n
  induction n with
  | zero =>
    intro v d o h
    cases d <;> simp [okD] at o <;> simp [py, PyData.canLay0]
    exact sOk_cps h.str.2.2
  | succ n ih =>
    intro v d o h
    have all : ∀ {vs : List V} {ds : List D}, RpA Z F vs ds → ds.all (okD n) = true → PyData.canLayAll0 (ds.map (py n)) = true := by
      intro vs ds r
      induction ds generalizing vs with
      | nil => intro _; simp [PyData.canLayAll0]
      | cons d ds ihd =>
        intro q
        cases r with
        | cons r1 r2 =>
          rw [List.all_cons, Bool.and_eq_true] at q
          simp only [List.map_cons, PyData.canLayAll0, ih q.1 (.inl r1), ihd r2 q.2, Bool.and_self]
    cases d <;> simp only [okD] at o <;> try (cases o; done)
    case lst xs => obtain ⟨a, xs, rfl, ha, ra⟩ := h.lst l; simp only [py, PyData.canLay0]; exact all ra o
    case tup xs => obtain ⟨a, xs, rfl, ha, ra⟩ := h.tup l; simp only [py, PyData.canLay0]; exact all ra o
    case str x => simp only [py, PyData.canLay0]; exact sOk_cps h.str.2.2
    all_goals simp [py, PyData.canLay0]
theorem shaped_py {F H : Hp} (l : Same F H) {n : Nat} (hn : n ≤ 64) {v : V} {d : D} (h : okD n d = true) (r : RdV Z F H v d) : SeqAt.shaped (py n d) = true := by
  show ((py n d).canLay0 && decide ((py n d).depth ≤ 64)) = true
  rw [py_lay l n h r, Bool.true_and]
  exact decide_eq_true (Nat.le_trans (py_depth n d h) hn)
theorem bRV_some {o : Option Bool} {rr : RV} (h : bRV o = some rr) : ∃ b, o = some b ∧ rr = .fz (.bl b) := by
  unfold bRV at h
  cases o with
  | none => cases h
  | some b => cases h; exact ⟨b, rfl, rfl⟩
theorem dEq_some {x y : D} {b : Bool} (h : dEq x y = some b) : okD 6 x = true ∧ okD 6 y = true ∧ b = PyData.eqv (py 6 x) (py 6 y) := by
  unfold dEq at h
  split at h
  · rename_i q
    rw [Bool.and_eq_true] at q
    cases h
    exact ⟨q.1, q.2, rfl⟩
  · cases h
theorem s_eq : Sound2 Z (rEqD Z.K) opEq := by
  intro F H x y dx dy rr Q l hx hy ho q
  obtain ⟨b, h, rfl⟩ := bRV_some ho
  obtain ⟨h1, h2, rfl⟩ := dEq_some h
  exact ⟨_, _, dp_of rfl 6 l h1 hx, dp_of rfl 6 l h2 hy, shaped_py l (by decide) h1 hx, shaped_py l (by decide) h2 hy, fin_bl l q⟩
theorem s_ne : Sound2 Z (rNeD Z.K) opNe := by
  intro F H x y dx dy rr Q l hx hy ho q
  obtain ⟨b, h, rfl⟩ := bRV_some ho
  rw [Option.map_eq_some_iff] at h
  obtain ⟨b, h, rfl⟩ := h
  obtain ⟨h1, h2, rfl⟩ := dEq_some h
  exact ⟨_, _, dp_of rfl 6 l h1 hx, dp_of rfl 6 l h2 hy, shaped_py l (by decide) h1 hx, shaped_py l (by decide) h2 hy, fin_bl l q⟩
/-! is -/
def rIsA : V → V → Hp → VK → Prop := fun x y H Q => (y = .non ∧ Q (.bl (decide (x = .non))) H) ∨ rIsB x y H Q
def rIsNA : V → V → Hp → VK → Prop := fun x y H Q => (y = .non ∧ Q (.bl (!decide (x = .non))) H) ∨ rNotB x y H Q
theorem op_isA {X : Cx} : OpR X (compareOp .Is) rIsA := op_isN.or op_isBl
theorem op_isNA {X : Cx} : OpR X (compareOp .IsNot) rIsNA := op_notN.or op_notBl
theorem RdV.notNon {F H : Hp} {v : V} {d : D} (h : RdV Z F H v d) (n : d ≠ .non) : v ≠ .non := by
  rcases h with h | ⟨a, rfl, _⟩
  · cases h <;> first | (exact (n rfl).elim) | (intro z; cases z)
  · intro z; cases z
theorem dIs_none {F H : Hp} {x y : V} {dx : D} {b : Bool} (hx : RdV Z F H x dx) (h : dIs dx .non = some b) : b = decide (x = .non) := by
  unfold dIs at h
  cases dx <;> simp at h <;> subst h
  · rw [hx.non]; rfl
  all_goals exact (decide_eq_false (hx.notNon (by intro z; cases z))).symm
theorem s_is : Sound2 Z rIsA opIs := by
  intro F H x y dx dy rr Q l hx hy ho q
  obtain ⟨b, h, rfl⟩ := bRV_some ho
  cases dy with
  | non => rw [dIs_none (y := y) hx h] at q; exact .inl ⟨hy.non, fin_bl l q⟩
  | bl c => cases dx <;> simp only [dIs] at h <;> cases h; exact .inr ⟨_, _, hx.bl, hy.bl, fin_bl l q⟩
  | _ => cases dx <;> simp only [dIs] at h <;> cases h
theorem s_isN : Sound2 Z rIsNA opIsNot := by
  intro F H x y dx dy rr Q l hx hy ho q
  obtain ⟨b, h, rfl⟩ := bRV_some ho
  rw [Option.map_eq_some_iff] at h
  obtain ⟨b, h, rfl⟩ := h
  cases dy with
  | non => rw [dIs_none (y := y) hx h] at q; exact .inl ⟨hy.non, fin_bl l q⟩
  | bl c => cases dx <;> simp only [dIs] at h <;> cases h; exact .inr ⟨_, _, hx.bl, hy.bl, fin_bl l q⟩
  | _ => cases dx <;> simp only [dIs] at h <;> cases h
end
end S3

/-! B5: subscripts, in, built-ins by name, methods of built-in types, displays, tests. -/
namespace S3
open PySem L2
section
variable {Z : Wd} {F F' H H' : Hp} {N : En} {σ : St} {e e' : Env} {v x y : V} {W : WX}
/-! ### subscripts -/
theorem toKey_rd {F H : Hp} {y : V} {dy : D} {k : Key} (h : RdV Z F H y dy) (e : toKey dy = some k) : y = kV k := by
  cases dy <;> simp only [toKey] at e <;> cases e
  · exact h.int
  · exact h.str.1
theorem toKeys_rd {F : Hp} : ∀ {ds : List D} {vs : List V} {ks : List Key}, RpA Z F vs ds → toKeys ds = some ks → vs = ks.map kV
  | [], _, _, .nil, e => by simp only [toKeys] at e; cases e; rfl
  | d :: ds, _, _, .cons h r, e => by
    simp only [toKeys] at e
    cases q1 : toKey d with
    | none => rw [q1] at e; cases e
    | some k =>
      cases q2 : toKeys ds with
      | none => rw [q1, q2] at e; cases e
      | some ks =>
        rw [q1, q2] at e
        cases e
        rw [toKey_rd (H := fun _ => none) (.inl h) q1, toKeys_rd r q2]
        rfl
theorem RpP.any {κ : Type} [DecidableEq κ] (k : κ) : ∀ {vs : List (κ × V)} {ds : List (κ × D)}, RpP Z F vs ds → (vs.any fun kv => decide (kv.1 = k)) = ds.any fun kv => decide (kv.1 = k)
  | _, _, .nil => rfl
  | _, _, .cons _ r => by rw [List.any_cons, List.any_cons, RpP.any k r]
theorem RpP.val {κ : Type} [DecidableEq κ] (k : κ) : ∀ {vs : List (κ × V)} {ds : List (κ × D)}, RpP Z F vs ds → (∀ d, dVal ds k = some d → ∃ v, valV vs k = some v ∧ Rp Z F v d) ∧ (dVal ds k = none → valV vs k = none)
  | _, _, .nil => ⟨fun d h => by simp [dVal] at h, fun _ => rfl⟩
  | _, _, @RpP.cons _ _ _ j v vs d ds h r => by
    obtain ⟨i1, i2⟩ := RpP.val k r
    by_cases q : j = k
    · have e1 : dVal ((j, d) :: ds) k = some d := by simp [dVal, q]
      have e2 : valV ((j, v) :: vs) k = some v := by simp [valV, q]
      exact ⟨fun d' h' => by rw [e1] at h'; cases h'; exact ⟨v, e2, h⟩, fun h' => by rw [e1] at h'; cases h'⟩
    · have e1 : dVal ((j, d) :: ds) k = dVal ds k := by simp [dVal, q]
      have e2 : valV ((j, v) :: vs) k = valV vs k := by simp [valV, q]
      rw [e1, e2]
      exact ⟨i1, i2⟩
theorem RpP.length {κ : Type} : ∀ {vs : List (κ × V)} {ds : List (κ × D)}, RpP Z F vs ds → vs.length = ds.length
  | _, _, .nil => rfl
  | _, _, .cons _ r => congrArg Nat.succ r.length
/-- a dict asked -/
theorem dGet_rd {F H : Hp} {x y : V} {dx dy : D} {o : Option D} (l : Same F H) (hx : RdV Z F H x dx) (hy : RdV Z F H y dy) (e : dGet dx dy = some o) :
    ∃ a r, x = .ref a ∧ DGet H a y r ∧ r.isSome = o.isSome ∧ ∀ d, o = some d → ∃ v, r = some v ∧ Rp Z F v d := by
  cases dx <;> simp only [dGet] at e <;> try (cases e; done)
  · rename_i kvs
    rw [Option.map_eq_some_iff] at e
    obtain ⟨k, hk, rfl⟩ := e
    obtain ⟨a, xs, rfl, ha, r⟩ := hx.dk l
    obtain ⟨i1, i2⟩ := r.val k
    have ey := toKey_rd hy hk
    subst ey
    refine ⟨a, valV xs k, rfl, .inl ⟨xs, k, ha, rfl, rfl⟩, ?_, i1⟩
    cases q : dVal kvs k with
    | none => rw [i2 q]; rfl
    | some d => obtain ⟨v, h1, _⟩ := i1 d q; rw [h1]; rfl
  · rename_i kvs
    cases dy <;> simp only at e <;> try (cases e; done)
    rw [Option.map_eq_some_iff] at e
    obtain ⟨k, hk, rfl⟩ := e
    obtain ⟨a, xs, rfl, ha, r⟩ := hx.dt l
    obtain ⟨b, ys, rfl, hb, rb⟩ := hy.tup l
    obtain ⟨i1, i2⟩ := r.val k
    have ey := toKeys_rd rb hk
    subst ey
    refine ⟨a, valV xs k, rfl, .inr ⟨xs, k, _, ha, rfl, hb, rfl⟩, ?_, i1⟩
    cases q : dVal kvs k with
    | none => rw [i2 q]; rfl
    | some d => obtain ⟨v, h1, _⟩ := i1 d q; rw [h1]; rfl
/-! x[i] -/
def rIxA (K : PySem.W.Frag) : V → V → Hp → VK → Prop := fun x y H Q => rIx K x y H Q ∨ ∃ a v, x = .ref a ∧ DGet H a y (some v) ∧ Q v H
theorem ix_dict {X : Cx} (hu : X.A.units + 1 < cLine) : IxR X (fun x y H Q => ∃ a v, x = .ref a ∧ DGet H a y (some v) ∧ Q v H) := by
  intro value slice pins s σ H x y v u Q I rx ry q hs
  obtain ⟨a, w, rfl, g, q⟩ := q
  cases rx
  exact PyProof.Rows.tail_any (dict_typeIs I g) slot_dict_getitem.lookup (d_getItem hu I g ry fun w' s' I' rw' => ⟨w, H, I', rw', q⟩) hs
theorem ix_all {X : Cx} (hu : X.A.units + 1 < cLine) : IxR X (rIxA X.K) := ix_seq.or (ix_dict hu)
theorem sOk_one {z : Str} {c : Nat} {i : Int} (h : sOk z = true) (q : atI z.cps.toList i = some c) : sOk ⟨#[c]⟩ = true := by
  obtain ⟨j, _, h2, _⟩ := atI_get q
  have hm : c ∈ z.cps.toList := List.mem_of_getElem? h2
  have h3 := Array.all_eq_true_iff_forall_mem.mp (sOk_cps h) c (Array.mem_toList_iff.mp hm)
  refine sOk_of (by show 1 ≤ LIM; decide) ?_
  simpa using h3
theorem s_ix : Sound2 Z (rIxA Z.K) opIx := by
  intro F H x y dx dy rr Q l hx hy ho q
  have dict : ∀ (o : Option D), dGet dx dy = some o → o.map RV.fz = some rr → rIxA Z.K x y H Q := fun o h1 h2 => by
    obtain ⟨a, r, rfl, g, _, k⟩ := dGet_rd l hx hy h1
    rw [Option.map_eq_some_iff] at h2
    obtain ⟨d, rfl, rfl⟩ := h2
    obtain ⟨v, rfl, rv⟩ := k d rfl
    exact .inr ⟨a, v, rfl, g, fin_fz l q rv⟩
  have dict' : (dGet dx dy).join.map RV.fz = some rr → rIxA Z.K x y H Q := fun h => by
    cases e : dGet dx dy with
    | none => rw [e] at h; cases h
    | some o => rw [e] at h; exact dict o e h
  cases dx with
  | lst xs =>
    cases dy with
    | int i =>
      simp only [opIx, Option.map_eq_some_iff] at ho
      obtain ⟨d, h1, rfl⟩ := ho
      obtain ⟨a, vs, rfl, ha, ra⟩ := hx.lst l
      obtain ⟨v, h2, rv⟩ := ra.atI h1
      exact .inl (.inl ⟨a, vs, i, v, rfl, hy.int, SqL.of ha, h2, fin_fz l q rv⟩)
    | _ => exact dict' ho
  | tup xs =>
    cases dy with
    | int i =>
      simp only [opIx, Option.map_eq_some_iff] at ho
      obtain ⟨d, h1, rfl⟩ := ho
      obtain ⟨a, vs, rfl, ha, ra⟩ := hx.tup l
      obtain ⟨v, h2, rv⟩ := ra.atI h1
      exact .inl (.inr (.inl ⟨a, vs, i, v, rfl, hy.int, SqT.of ha, h2, fin_fz l q rv⟩))
    | _ => exact dict' ho
  | str z =>
    cases dy with
    | int i =>
      simp only [opIx, Option.map_eq_some_iff] at ho
      obtain ⟨c, h1, rfl⟩ := ho
      exact .inl (.inr (.inr ⟨z, i, c, hx.str.1, hy.int, hx.str.2.1, h1, fin_fz l q (.str _ (sOk_one hx.str.2.2 h1))⟩))
    | _ => exact dict' ho
  | _ => exact dict' ho
/-! slices -/
def rSlA (K : PySem.W.Frag) : V → Option Int → Option Int → Hp → VK → Prop := fun x lo hi H Q => rSlL K x lo hi H Q ∨ rSlS x lo hi H Q ∨ L2.rSlA K x lo hi H Q
theorem sl_all {X : Cx} : SlR X (rSlA X.K) := sl_list.or (sl_str.or sl_tupA)
theorem sOk_cut {z : Str} {lo hi : Option Int} (h : sOk z = true) : sOk (cutS z lo hi) = true := by
  refine sOk_of (Nat.le_trans (cutS_length z lo hi) (sOk_len h)) ?_
  rw [Array.all_eq_true_iff_forall_mem]
  intro c hc
  have hc' : c ∈ (cutS z lo hi).cps.toList := Array.mem_toList_iff.mpr hc
  have h2 : c ∈ z.cps.toList := List.mem_of_mem_drop (List.mem_of_mem_take (show c ∈ ((z.cps.toList.drop (HT.sIx z.length 0 lo)).take (HT.sIx z.length z.length hi - HT.sIx z.length 0 lo)) from hc'))
  exact Array.all_eq_true_iff_forall_mem.mp (sOk_cps h) c (Array.mem_toList_iff.mp h2)
theorem s_dCut {F H : Hp} {x : V} {dx : D} {lo hi : Option Int} {rr : RV} {Q : VK} (l : Same F H) (hx : RdV Z F H x dx) (ho : dCut dx lo hi = some rr) (q : ∀ v F' H', Gr F H F' H' → NwOk Z H F' H' v rr → Q v H') : rSlA Z.K x lo hi H Q := by
  cases dx <;> simp only [dCut] at ho <;> cases ho
  · exact .inr (.inl ⟨_, hx.str.1, hx.str.2.1, fin_fz l q (.str _ (sOk_cut hx.str.2.2))⟩)
  · obtain ⟨a, vs, rfl, ha, ra⟩ := hx.lst l
    refine .inl ⟨a, vs, rfl, SqL.of ha, fin_lst l q ?_⟩
    unfold cutV cutD
    rw [ra.length]
    exact (ra.drop _).take _
  · have hx' : Rp Z F x (.tup _) := hx.elim id fun ⟨_, _, _, t⟩ => t.elim
    obtain ⟨a, vs, rfl, ha, ra⟩ := hx.tup l
    rename_i dd
    have rc : RpA Z F (cutV vs lo hi) (cutD dd lo hi) := by
      unfold cutV cutD
      rw [ra.length]
      exact (ra.drop _).take _
    refine .inr (.inr ⟨a, vs, rfl, SqT.of ha, fun w => ?_, fun _ p hp => q (.ref p) _ _ (Gr.layF l hp) (.tup upd_same (rc.mono (same_upd (none_le l hp))))⟩)
    have e : ∀ ds : List D, ds.length = vs.length → cutD ds lo hi = ds := fun ds hl => by
      unfold cutD
      rw [hl, w.1, w.2, List.drop_zero, Nat.sub_zero, ← hl, List.take_length]
    rw [e _ ra.length.symm] at q
    exact fin_fz l q hx'
end

section
variable {ca : Str → Option Addr} {W : WX} {X : Cx} {a b c : Expr} {fa fb fc : EV} {pos p2 : Pos}
theorem ev_ix (ha : Ev ca W X a fa) (hb : Ev ca W X b fb) (hu : X.A.units + 1 < cLine) (hs : PlainIx b := by intro _ _; rfl) : Ev ca W X (.Subscript a b pos) (eOp2 opIx fa fb) := PE_imp (pe_ix (ix_all hu) ha hb hs) fun _ _ _ => two s_ix
theorem ev_cutLo (ha : Ev ca W X a fa) (hb : Ev ca W X b fb) : Ev ca W X (.Subscript a (.Slice (some b) none none p2) pos) (eOp2 opCutLo fa (eI fb)) :=
  PE_imp (pe_slice sl_all ha (po_some hb) po_none) fun σ H Q ⟨N, F, e, S, P⟩ => by
    refine bindL S P fun x F1 H1 e1 ra f1 S1 R1 P1 => ?_
    obtain ⟨F2, f2, S2, h2⟩ := RvOk.hold S1 R1
    refine bindI S2 (PostE.shift P1 f2) fun i F3 H3 e3 f3 T3 P3 => ⟨i, rfl, ?_⟩
    cases d1 : S3.rd ra e3 with
    | none => rw [d1] at P3; exact P3.elim
    | some dx =>
      rw [d1] at P3
      dsimp only [S3.rd] at P3
      cases d3 : opCutLo dx (.int i) with
      | none => rw [d3] at P3; exact P3.elim
      | some rr =>
        rw [d3] at P3
        exact s_dCut (Z := zw ca X) T3.le ((h2.mono f3).rd T3 d1) d3 (op_end T3 P3)
theorem ev_cutHi (ha : Ev ca W X a fa) (hb : Ev ca W X b fb) : Ev ca W X (.Subscript a (.Slice none (some b) none p2) pos) (eOp2 opCutHi fa (eI fb)) :=
  PE_imp (pe_slice sl_all ha po_none (po_some hb)) fun σ H Q ⟨N, F, e, S, P⟩ => by
    refine bindL S P fun x F1 H1 e1 ra f1 S1 R1 P1 => ?_
    obtain ⟨F2, f2, S2, h2⟩ := RvOk.hold S1 R1
    refine bindI S2 (PostE.shift P1 f2) fun i F3 H3 e3 f3 T3 P3 => ⟨i, rfl, ?_⟩
    cases d1 : S3.rd ra e3 with
    | none => rw [d1] at P3; exact P3.elim
    | some dx =>
      rw [d1] at P3
      dsimp only [S3.rd] at P3
      cases d3 : opCutHi dx (.int i) with
      | none => rw [d3] at P3; exact P3.elim
      | some rr =>
        rw [d3] at P3
        exact s_dCut (Z := zw ca X) T3.le ((h2.mono f3).rd T3 d1) d3 (op_end T3 P3)
end
end S3

/-! B6: in, built-ins by name, methods of built-in types, displays, tests. -/
namespace S3
open PySem L2
/-! ### in, not in -/
section
variable {Z : Wd}
theorem flat_eqv {x y : V} {dx dy : D} {F H : Hp} (hx : RdV Z F H x dx) (hy : RdV Z F H y dy) (ox : okD 0 dx = true) (oy : okD 0 dy = true) : flatV x = true ∧ flatV y = true ∧ eqV y x = PyData.eqv (py 0 dy) (py 0 dx) := by
  cases dx <;> simp [okD] at ox <;> cases dy <;> simp [okD] at oy
  all_goals (first | rw [hx.non] | rw [hx.bl] | rw [hx.int] | rw [hx.str.1])
  all_goals (first | rw [hy.non] | rw [hy.bl] | rw [hy.int] | rw [hy.str.1])
  all_goals (refine ⟨rfl, rfl, ?_⟩; simp [eqV, py, PyData.eqv])
theorem flat_any {x : V} {dx : D} {F H : Hp} (hx : RdV Z F H x dx) (ox : okD 0 dx = true) : ∀ {ys : List V} {ds : List D}, RpA Z F ys ds → ds.all (okD 0) = true → ys.all flatV = true ∧ inV x ys = ds.any fun z => PyData.eqv (py 0 z) (py 0 dx)
  | _, _, .nil, _ => ⟨rfl, rfl⟩
  | _, _, @RpA.cons _ _ v vs d ds h r, q => by
    rw [List.all_cons, Bool.and_eq_true] at q
    obtain ⟨i1, i2⟩ := flat_any hx ox r q.2
    obtain ⟨_, j1, j2⟩ := flat_eqv hx (y := v) (dy := d) (F := F) (H := H) (.inl h) ox q.1
    refine ⟨by rw [List.all_cons, j1, i1]; rfl, ?_⟩
    unfold inV at i2 ⊢
    rw [List.any_cons, List.any_cons, j2, i2]
def rInA (K : PySem.W.Frag) (P : Program) (w : World) : V → V → Hp → VK → Prop := fun x y H Q => rInD K x y H Q ∨ rIn K false x y H Q ∨
  (∃ (c : Nat) (z : Str), x = .str ⟨#[c]⟩ ∧ y = .str z ∧ Q (.bl (decide (c ∈ z.cps.toList))) H) ∨ rSInG P w false x y H Q ∨ ∃ a o, y = .ref a ∧ DGet H a x o ∧ Q (.bl o.isSome) H
theorem op_inDict {X : Cx} (hu : X.A.units + 1 < cLine) : OpR X (compareOp .In) (fun x y H Q => ∃ a o, y = .ref a ∧ DGet H a x o ∧ Q (.bl o.isSome) H) := by
  intro pins s σ H x y v u Q I rx ry q
  obtain ⟨a, o, rfl, g, q⟩ := q
  cases ry
  exact d_in hu I g rx fun s' I' => ⟨.bl _, H, I', rfl, q⟩
theorem op_inA {X : Cx} (hu : X.A.units + 65 < cLine) : OpR X (compareOp .In) (rInA X.K X.prog X.w) :=
  (op_inD hu).or (op_in_seq.or (op_in_sign.or (or_sinG.or (op_inDict (by omega)))))
/-- the cases of in -/
theorem in_cases {F H : Hp} {x y : V} {dx dy : D} {b : Bool} (l : Same F H) (hx : RdV Z F H x dx) (hy : RdV Z F H y dy) (h : dIn dx dy = some b) :
    (∃ d ds, Dp Z.K H x d ∧ Dp Z.K H y (.list ds) ∧ SeqAt.shaped d = true ∧ SeqAt.shaped (.list ds) = true ∧ b = ds.any fun z => PyData.eqv z d) ∨
    (∃ p xs, y = .ref p ∧ (SqL Z.K H p xs ∨ SqT Z.K H p xs) ∧ flatV x = true ∧ xs.all flatV = true ∧ b = inV x xs) ∨
    (∃ (c : Nat) (z : Str), x = .str ⟨#[c]⟩ ∧ y = .str z ∧ b = decide (c ∈ z.cps.toList)) ∨
    (∃ (k : Key) (a : Addr) (ks : List Key), x = kV k ∧ y = V.ref a ∧ H a = some (SetGO Z.P Z.w a ks) ∧ b = kIn k ks) ∨ ∃ a o, y = .ref a ∧ DGet H a x o ∧ b = o.isSome := by
  have dict : (dGet dy dx).map (·.isSome) = some b → ∃ a o, y = .ref a ∧ DGet H a x o ∧ b = o.isSome := fun h => by
    rw [Option.map_eq_some_iff] at h
    obtain ⟨o, h1, rfl⟩ := h
    obtain ⟨a, r, rfl, g, e, _⟩ := dGet_rd l hy hx h1
    exact ⟨a, r, rfl, g, e.symm⟩
  unfold dIn at h
  split at h
  · rename_i ys
    split at h
    · rename_i q
      rw [Bool.and_eq_true] at q
      cases h
      have oy : okD 6 (.lst ys) = true := q.2
      have s2 := shaped_py l (n := 6) (by decide) oy hy
      have d2 := dp_of rfl 6 l oy hy
      have e6 : ∀ d : D, okD 5 d = true → py 6 d = py 5 d := by
        have gen : ∀ (n : Nat) (d : D), okD n d = true → py (n + 1) d = py n d := by
          intro n
          induction n with
          | zero => intro d o; cases d <;> simp [okD] at o <;> rfl
          | succ n ih =>
            intro d o
            cases d <;> simp only [okD] at o <;> try (cases o; done)
            all_goals try rfl
            all_goals (simp only [py]; congr 1; exact List.map_congr_left fun z hz => ih z (List.all_eq_true.mp o z hz))
        exact gen 5
      refine .inl ⟨_, ys.map (py 5), dp_of rfl 6 l q.1 hx, d2, shaped_py l (by decide) q.1 hx, s2, ?_⟩
      rw [List.any_map]
      have q2 := q.2
      clear d2 s2 hy oy q dict
      induction ys with
      | nil => rfl
      | cons d ds ih =>
        rw [List.all_cons, Bool.and_eq_true] at q2
        rw [List.any_cons, List.any_cons, ih q2.2, e6 d q2.1]
        rfl
    · cases h
  · rename_i ys
    split at h
    · rename_i q
      rw [Bool.and_eq_true] at q
      cases h
      obtain ⟨a, xs, rfl, ha, ra⟩ := hy.tup l
      obtain ⟨j1, j2⟩ := flat_any hx q.1 ra q.2
      have j3 : flatV x = true := (flat_eqv hx hx q.1 q.1).1
      exact .inr (.inl ⟨a, xs, rfl, .inr (SqT.of ha), j3, j1, j2.symm⟩)
    · cases h
  · rename_i z
    split at h
    · rename_i c
      split at h
      · rename_i hc
        cases h
        have ec : c = ⟨#[c.cps.getD 0 0]⟩ := by
          obtain ⟨cs⟩ := c
          obtain ⟨l⟩ := cs
          cases l with
          | nil => cases hc
          | cons k r =>
            cases r with
            | nil => rfl
            | cons k2 r => cases hc
        refine .inr (.inr (.inl ⟨c.cps.getD 0 0, z, ?_, hy.str.1, rfl⟩))
        rw [hx.str.1, ← ec]
      · cases h
    · cases h
  · rename_i ks
    rw [Option.map_eq_some_iff] at h
    obtain ⟨k, hk, rfl⟩ := h
    obtain ⟨a, rfl, ha, _⟩ := hy.st l
    exact .inr (.inr (.inr (.inl ⟨k, a, _, toKey_rd hx hk, rfl, ha, rfl⟩)))
  · exact .inr (.inr (.inr (.inr (dict h))))
theorem s_in : Sound2 Z (rInA Z.K Z.P Z.w) opIn := by
  intro F H x y dx dy rr Q l hx hy ho q
  obtain ⟨b, h, rfl⟩ := bRV_some ho
  rcases in_cases l hx hy h with ⟨d, ds, h1, h2, h3, h4, rfl⟩ | ⟨p, xs, h1, h2, h3, h4, rfl⟩ | ⟨c, z, h1, h2, rfl⟩ | ⟨k, a, ks, h1, h2, h3, rfl⟩ | ⟨a, o, h1, h2, rfl⟩
  · exact .inl ⟨d, ds, h1, h2, h3, h4, fin_bl l q⟩
  · exact .inr (.inl ⟨p, xs, h1, h2, h3, h4, fin_bl l q⟩)
  · exact .inr (.inr (.inl ⟨c, z, h1, h2, fin_bl l q⟩))
  · exact .inr (.inr (.inr (.inl ⟨k, a, ks, h1, h2, h3, fin_bl l q⟩)))
  · exact .inr (.inr (.inr (.inr ⟨a, o, h1, h2, fin_bl l q⟩)))
/-! ### built-ins, by what they give -/
theorem s_int : Sound1 Z (fun x H Q => (∃ i, [x] = [V.int i] ∧ Q (.int i) H) ∨ ∃ k, [x] = [V.bl k] ∧ Q (.int (if k then 1 else 0)) H) opInt := by
  intro F H x dx rr Q l hx ho q
  cases dx <;> simp only [opInt] at ho <;> cases ho
  · exact .inr ⟨_, by rw [hx.bl], fin_int l q⟩
  · exact .inl ⟨_, by rw [hx.int], fin_int l q⟩
theorem s_abs : Sound1 Z (fun x H Q => ∃ i, [x] = [V.int i] ∧ Q (.int (if i < 0 then -i else i)) H) opAbs := by
  intro F H x dx rr Q l hx ho q
  cases dx <;> simp only [opAbs] at ho <;> cases ho
  exact ⟨_, by rw [hx.int], fin_int l q⟩
def rLenA (K : PySem.W.Frag) (P : Program) (w : World) : List V → Hp → VK → Prop := fun xs H Q => (∃ x n, xs = [x] ∧ LenV K x H n ∧ Q (.int n) H) ∨ (∃ a kvs, xs = [V.ref a] ∧ L2.Rd H a (.dK kvs) ∧ Q (.int kvs.length) H) ∨
  ∃ a ks, xs = [V.ref a] ∧ H a = some (SetGO P w a ks) ∧ Q (.int ks.length) H
theorem call_lenR {X : Cx} : CallR X (.builtin "len") (fun xs H Q => ∃ a kvs, xs = [V.ref a] ∧ L2.Rd H a (.dK kvs) ∧ Q (.int kvs.length) H) := by
  intro pins s σ H xs us Q I r h
  obtain ⟨a, kvs, rfl, ha, q⟩ := h
  obtain ⟨u, rfl, ru⟩ := vals1 r
  cases ru
  exact d_len I ha fun t s' I' => ⟨.int kvs.length, H, I', ⟨t, rfl⟩, q⟩
theorem call_lenA {X : Cx} : CallR X (.builtin "len") (rLenA X.K X.prog X.w) := call_len.or (call_lenR.or call_lenSetG)
theorem s_len : Sound1 Z (fun x => rLenA Z.K Z.P Z.w [x]) opLen := by
  intro F H x dx rr Q l hx ho q
  cases dx <;> simp only [opLen] at ho <;> try (cases ho; done)
  · cases ho
    rw [hx.str.1]
    exact .inl ⟨_, _, rfl, ⟨hx.str.2.1, rfl⟩, fin_int l q⟩
  · cases ho
    obtain ⟨a, xs, rfl, ha, ra⟩ := hx.lst l
    refine .inl ⟨_, _, rfl, .inl ⟨xs, SqL.of ha, rfl⟩, ?_⟩
    rw [ra.length]
    exact fin_int l q
  · cases ho
    obtain ⟨a, xs, rfl, ha, ra⟩ := hx.tup l
    refine .inl ⟨_, _, rfl, .inr ⟨xs, SqT.of ha, rfl⟩, ?_⟩
    rw [ra.length]
    exact fin_int l q
  · cases ho
    obtain ⟨a, xs, rfl, ha, ra⟩ := hx.dk l
    refine .inr (.inl ⟨_, _, rfl, ha, ?_⟩)
    rw [ra.length]
    exact fin_int l q
  · cases ho
    obtain ⟨a, rfl, ha, _⟩ := hx.st l
    exact .inr (.inr ⟨_, _, rfl, ha, fin_int l q⟩)
theorem toBools_rd {F : Hp} : ∀ {ds : List D} {vs : List V} {bs : List Bool}, RpA Z F vs ds → toBools ds = some bs → vs = bs.map V.bl
  | [], _, _, .nil, e => by simp only [toBools] at e; cases e; rfl
  | d :: ds, _, _, .cons h r, e => by
    cases d <;> simp only [toBools] at e <;> try (cases e; done)
    rw [Option.map_eq_some_iff] at e
    obtain ⟨bs, h1, rfl⟩ := e
    rw [toBools_rd r h1, RdV.bl (H := fun _ => none) (.inl h)]
    rfl
theorem s_any : Sound1 Z (fun x => rAny Z.K [x]) opAny := by
  intro F H x dx rr Q l hx ho q
  cases dx <;> simp only [opAny] at ho <;> try (cases ho; done)
  rw [Option.map_eq_some_iff] at ho
  obtain ⟨bs, h1, rfl⟩ := ho
  obtain ⟨a, xs, rfl, ha, ra⟩ := hx.lst l
  have e := toBools_rd ra h1
  subst e
  exact ⟨a, bs, rfl, SqL.of ha, fin_bl l q⟩
theorem s_list : Sound1 Z (fun x H Q => ∃ p ys, [x] = [V.ref p] ∧ (SqL Z.K H p ys ∨ SqT Z.K H p ys) ∧ ∀ l, H l = none → Q (.ref l) (upd H l (.lst ys))) opList := by
  intro F H x dx rr Q l hx ho q
  cases dx <;> simp only [opList] at ho <;> cases ho
  · obtain ⟨a, xs, rfl, ha, ra⟩ := hx.lst l
    exact ⟨a, xs, rfl, .inl (SqL.of ha), fin_lst l q ra⟩
  · obtain ⟨a, xs, rfl, ha, ra⟩ := hx.tup l
    exact ⟨a, xs, rfl, .inr (SqT.of ha), fin_lst l q ra⟩
theorem s_isty {T : String} (k1 : kitB "NoneType" T = some (subT "NoneType" T)) (k2 : kitB "bool" T = some (subT "bool" T)) (k3 : kitB "int" T = some (subT "int" T)) (k4 : kitB "str" T = some (subT "str" T))
    (k5 : kitB "list" T = some (subT "list" T)) (k6 : kitB "tuple" T = some (subT "tuple" T)) (k7 : kitB "dict" T = some (subT "dict" T)) : Sound1 Z (fun x => rIsi Z.K [x, .ty T]) (opIsTy T) := by
  intro F H x dx rr Q l hx ho q
  obtain ⟨b, h, rfl⟩ := bRV_some ho
  unfold isTy at h
  cases dx <;> simp only [tyN, Option.map_some, Option.map_none] at h <;> cases h
  · rw [hx.non]; exact ⟨_, _, _, _, _, rfl, .ty T, .base .non, kit_ty k1, fin_bl l q⟩
  · rw [hx.bl]; exact ⟨_, _, _, _, _, rfl, .ty T, .base (.bl _), kit_ty k2, fin_bl l q⟩
  · rw [hx.int]; exact ⟨_, _, _, _, _, rfl, .ty T, .base (.int _), kit_ty k3, fin_bl l q⟩
  · rw [hx.str.1]; exact ⟨_, _, _, _, _, rfl, .ty T, .base (.str _), kit_ty k4, fin_bl l q⟩
  · obtain ⟨a, xs, rfl, ha, _⟩ := hx.lst l; exact ⟨_, _, _, _, _, rfl, .ty T, .base (.lst ha), kit_ty k5, fin_bl l q⟩
  · obtain ⟨a, xs, rfl, ha, _⟩ := hx.tup l; exact ⟨_, _, _, _, _, rfl, .ty T, .base (.tup ha), kit_ty k6, fin_bl l q⟩
  · obtain ⟨a, xs, rfl, ha, _⟩ := hx.dk l; exact ⟨_, _, _, _, _, rfl, .ty T, ha.elim (fun z => .base (.dK z)) (fun ⟨o, z⟩ => .fDict z), kit_ty k7, fin_bl l q⟩
theorem sOk_int (i : Int) (h : i.natAbs.log2 < 1900) : sOk ((toString i : String) : Str) = true := by
  refine sOk_of (Nat.le_trans (PyProof.Rows.int_text_len_1921 (by omega)) (by decide)) ?_
  rw [Array.all_eq_true_iff_forall_mem]
  intro c hc
  have hc' : c ∈ (Str.ofString (toString i)).cps.toList := Array.mem_toList_iff.mpr hc
  rw [PyProof.Rows.signs_ofString] at hc'
  obtain ⟨ch, _, rfl⟩ := List.mem_map.mp hc'
  have := ch.valid
  simp only [decide_eq_true_eq]
  have h2 : ch.toNat < 1114112 := by
    have h3 := ch.valid
    simp only [UInt32.isValidChar, Nat.isValidChar] at h3
    show ch.val.toNat < _
    omega
  exact h2
theorem s_str : Sound1 Z (fun x H Q => (∃ a, [x] = [V.str a] ∧ Q (.str a) H) ∨ ∃ i, [x] = [V.int i] ∧ i.natAbs.log2 < 1920 ∧ Q (.str (toString i)) H) opStr := by
  intro F H x dx rr Q l hx ho q
  cases dx <;> simp only [opStr] at ho <;> try (cases ho; done)
  · split at ho
    · rename_i h
      cases ho
      exact .inr ⟨_, by rw [hx.int], by omega, fin_fz l q (.str _ (sOk_int _ h))⟩
    · cases ho
  · cases ho
    exact .inl ⟨_, by rw [hx.str.1], fin_fz l q (.str _ hx.str.2.2)⟩
end

section
variable {ca : Str → Option Addr} {W : WX} {X : Cx} {a b : Expr} {fa fb : EV} {pos p : Pos}
/-- f(a), f a built-in function, type -/
theorem ev_call1 {id : String} {n : Str} {r : List V → Hp → VK → Prop} {o : D → Option RV} (hc : CallR X (.builtin id) r) (hs : Sound1 (zw ca X) (fun x => r [x]) o) (hm : X.mg n = none) (ha : Ev ca W X a fa) (hg : Gl X n := by rfl)
    (hv : bootBuiltins n = some (.builtin id) := by decide +kernel) (hn : n ≠ "__name__" := by decide) (hdb : (n == ("__debug__" : Str)) = false := by decide)
    (he : starEach [a] X.env = (false, eval a X.env) :: starEach [] X.env := by rfl) : Ev ca W X (.Call (.Name n p) [a] [] pos) (eOp1 o fa) :=
  PE_imp (pe_callB hc hg hm hv (pa_cons ha pa_nil he) hn hdb he (by rfl)) fun _ _ _ => one hs
theorem ev_type1 {T : String} {n : Str} {r : List V → Hp → VK → Prop} {o : D → Option RV} (hc : CallR X (.type T) r) (hs : Sound1 (zw ca X) (fun x => r [x]) o) (hm : X.mg n = none) (ha : Ev ca W X a fa) (hg : Gl X n := by rfl)
    (hv : bootBuiltins n = some (.type T) := by decide +kernel) (hn : n ≠ "__name__" := by decide) (hdb : (n == ("__debug__" : Str)) = false := by decide)
    (he : starEach [a] X.env = (false, eval a X.env) :: starEach [] X.env := by rfl) : Ev ca W X (.Call (.Name n p) [a] [] pos) (eOp1 o fa) :=
  PE_imp (pe_callTy hc hg hm hv (pa_cons ha pa_nil he) hn hdb he (by rfl)) fun _ _ _ => one hs
/-- isinstance(a, T) -/
theorem ev_isty {T : String} {n : Str} {p2 : Pos} {o : D → Option RV} (hs : Sound1 (zw ca X) (fun x => rIsi X.K [x, .ty T]) o) (hm : X.mg "isinstance" = none) (hmT : X.mg n = none) (ha : Ev ca W X a fa) (hg : Gl X "isinstance" := by rfl) (hgT : Gl X n := by rfl)
    (hvT : bootBuiltins n = some (.type T) := by decide +kernel) (hn : n ≠ "__name__" := by decide) (hdb : (n == ("__debug__" : Str)) = false := by decide)
    (he : starEach [a, .Name n p2] X.env = (false, eval a X.env) :: starEach [.Name n p2] X.env := by rfl) : Ev ca W X (.Call (.Name "isinstance" p) [a, .Name n p2] [] pos) (eOp1 o fa) :=
  PE_imp (pe_callB call_isi hg hm (by decide +kernel) (pa_cons ha (pa_cons (pe_bltn (v := .ty T) hgT hmT hvT rfl hn hdb) pa_nil) he) (by decide) (by decide) he (by rfl)) fun _ _ _ => one hs
end
end S3

/-! B7: argument lists, displays, changes of one's own lists, tests. -/
namespace S3
open PySem L2
section
variable {Z : Wd} {F F' H H' : Hp} {N : En} {σ : St} {e e' : Env} {v x y : V} {W : WX}
/-! ### argument lists -/
theorem tAv_nil {Q : List V → Hp → Prop} (h : tAv Z W aNil σ H Q) : tNil σ H Q := by
  obtain ⟨N, F, e, S, P⟩ := h
  exact P [] F H (Same.refl _) S .nil
theorem tAv_keep {f : EV} {g : AV} {Q : List V → Hp → Prop} (h : tAv Z W (aKeep f g) σ H Q) : tCons (tEv Z W f) (tAv Z W g) σ H Q := by
  obtain ⟨N, F, e, S, P⟩ := h
  unfold aKeep at P
  refine ⟨N, F, e, S, ?_⟩
  cases q : f e with
  | no => rw [q] at P; exact P
  | ex z e1 => rw [q] at P; exact P
  | ok r e1 =>
    rw [q] at P
    dsimp only at P
    intro x F1 H1 f1 S1 R1
    cases q1 : stl r e1 with
    | none => rw [q1] at P; exact P.elim
    | some p =>
      obtain ⟨d, e2⟩ := p
      rw [q1] at P
      dsimp only at P
      obtain ⟨F2, f2, S2, r2⟩ := RvOk.stl S1 R1 q1
      refine ⟨N, F2, e2, S2, ?_⟩
      cases q2 : g e2 with
      | no => rw [q2] at P; exact P
      | ex z e3 => rw [q2] at P; exact PostA.shift P (f1.trans f2)
      | ok rs e3 =>
        rw [q2] at P
        exact fun vs F3 H3 f3 S3 h3 => P (x :: vs) F3 H3 ((f1.trans f2).trans f3) S3 (.cons (r := .fz d) (r2.mono f3) h3)
theorem tAv_cons {f : EV} {g : AV} {Q : List V → Hp → Prop} (h : tAv Z W (aCons f g) σ H Q) : tCons (tEv Z W f) (tAv Z W g) σ H Q := by
  obtain ⟨N, F, e, S, P⟩ := h
  unfold aCons at P
  refine ⟨N, F, e, S, ?_⟩
  cases q : f e with
  | no => rw [q] at P; exact P
  | ex z e1 => rw [q] at P; exact P
  | ok r e1 =>
    rw [q] at P
    dsimp only at P
    intro x F1 H1 f1 S1 R1
    obtain ⟨F2, f2, S2, r2⟩ := RvOk.hold S1 R1
    refine ⟨N, F2, e1, S2, ?_⟩
    cases q2 : g e1 with
    | no => rw [q2] at P; exact P
    | ex z e3 => rw [q2] at P; exact PostA.shift P (f1.trans f2)
    | ok rs e3 =>
      rw [q2] at P
      exact fun vs F3 H3 f3 S3 h3 => P (x :: vs) F3 H3 ((f1.trans f2).trans f3) S3 (.cons (r2.mono f3) h3)
theorem fzs_rd : ∀ {rs : List RV} {vs : List V} {ds : List D}, Helds Z F σ vs rs → fzs rs = some ds → RpA Z F vs ds
  | [], _, _, .nil, h => by simp only [fzs] at h; cases h; exact .nil
  | r :: rs, _, _, .cons a k, h => by
    cases r <;> simp only [fzs] at h <;> try (cases h; done)
    rw [Option.map_eq_some_iff] at h
    obtain ⟨ds, h1, rfl⟩ := h
    exact .cons a (fzs_rd k h1)
/-- a display -/
theorem tEv_disp {mk : List D → RV} {a : AV} {Q : VK} {R : List V → Hp → Prop}
    (hR : ∀ F H vs ds, Same F H → RpA Z F vs ds → vs.length ≤ sizeLine → (∀ v F' H', Gr F H F' H' → NwOk Z H F' H' v (mk ds) → Q v H') → R vs H) (h : tEv Z W (eDisp mk a) σ H Q) : tAv Z W a σ H R := by
  obtain ⟨N, F, e, S, P⟩ := h
  unfold eDisp at P
  refine ⟨N, F, e, S, ?_⟩
  cases q : a e with
  | no => rw [q] at P; exact P
  | ex z e1 => rw [q] at P; exact P
  | ok rs e1 =>
    rw [q] at P
    dsimp only at P
    intro vs F1 H1 f1 S1 h1
    cases q1 : fzs rs with
    | none => rw [q1] at P; exact P.elim
    | some ds =>
      rw [q1] at P
      dsimp only at P
      split at P
      · rename_i hz
        have r := fzs_rd h1 q1
        exact hR F1 H1 vs ds S1.le r (by rw [sizeLine_eq, r.length]; exact hz) (op_end S1 (PostE.shift P f1))
      · exact P.elim
theorem disp_lst {a : AV} {Q : VK} (h : tEv Z W (eDisp mkLst a) σ H Q) : tLst (tAv Z W a) σ H Q := tEv_disp (fun F H vs ds l r z q => ⟨z, fin_lst l q r⟩) h
/-! ### one's own object at a slot is changed -/
theorem mine_own {k : D → Bool} {s : Sl} (h : mine k s = true) : s.own = true ∧ ∃ d, s.val = some d ∧ k d = true := by
  cases s <;> simp only [mine] at h <;> first | exact ⟨rfl, _, rfl, h⟩ | cases h
theorem own_at (S : SOk Z N F H σ e) {i : Nat} {s : Sl} {d : D} (h : S3.slot e i = s) (ho : s.own = true) (hd : s.val = some d) : ∃ a, σ[i]? = some (some (.ref a)) ∧ F a = none ∧ Top Z F H a d ∧ e[i]? = some s := by
  have ne : s ≠ .no := fun z => by rw [z] at ho; cases ho
  have g := slot_get h ne
  obtain ⟨o, h1, h2⟩ := S.slot i s g
  cases s <;> simp only [Sl.own] at ho <;> try (cases ho; done)
  all_goals (simp only [Sl.val, Option.some.injEq] at hd; subst hd; obtain ⟨a, rfl, f, _, t⟩ := h2; exact ⟨a, h1, f, t, g⟩)
/-- a change: it reads the kept arguments, and lays another object at a -/
def SoundM (Z : Wd) (r : V → List V → Hp → VK → Prop) (k : D → Bool) (op : D → List D → Option (D × RV)) : Prop :=
  ∀ F H a vs d ds d' rr Q, Same F H → F a = none → Top Z F H a d → RpA Z F vs ds → k d = true → op d ds = some (d', rr) →
    (∀ v F' o, Same F F' → Same F' H → (∀ b u, H b = some u → F b = none → F' b = none) → Top Z F' (upd H a o) a d' → (∃ d, rr = .fz d ∧ Rp Z F' v d) → Q v (upd H a o)) → r (.ref a) vs H Q
theorem tEv_mut {i : Nat} {k : D → Bool} {op : D → List D → Option (D × RV)} {a : AV} {Q : VK} {r : V → List V → Hp → VK → Prop} {ty : V → Hp → Prop} (hs : SoundM Z r k op)
    (hty : ∀ F H p d, Top Z F H p d → k d = true → ty (.ref p) H) (h : tEv Z W (eMut i k op a) σ H Q) : tVar i σ H fun x H1 => ty x H1 ∧ tAv Z W a σ H1 fun vs H2 => r x vs H2 Q := by
  obtain ⟨N, F, e, S, P⟩ := h
  unfold eMut at P
  split at P
  · rename_i hm
    obtain ⟨ho, d0, hd0, hk0⟩ := mine_own hm
    obtain ⟨p, h1, f0, t0, g0⟩ := own_at S rfl ho hd0
    refine ⟨.ref p, h1, hty F H p d0 t0 hk0, N, F, e, S, ?_⟩
    cases q : a e with
    | no => rw [q] at P; exact P
    | ex z e1 => rw [q] at P; exact P
    | ok rs e1 =>
      rw [q] at P
      dsimp only at P
      intro vs F1 H1 f1 S1 hl
      cases q1 : fzs rs with
      | none => rw [q1] at P; exact P.elim
      | some ds =>
        rw [q1] at P
        dsimp only at P
        split at P
        · rename_i hm1
          obtain ⟨ho1, d1, hd1, hk1⟩ := mine_own hm1
          obtain ⟨p1, h2, f2, t2, g2⟩ := own_at S1 rfl ho1 hd1
          rw [h1] at h2
          cases h2
          rw [hd1] at P
          dsimp only at P
          cases q3 : op d1 ds with
          | none => rw [q3] at P; exact P.elim
          | some pr =>
            obtain ⟨d', rr⟩ := pr
            rw [q3] at P
            dsimp only at P
            refine hs F1 H1 p vs d1 ds d' rr Q S1.le f2 t2 (fzs_rd hl q1) hk1 q3 fun v F' o f' l' nf0 t' ⟨d2, er, rv⟩ => ?_
            have nf : ∀ b u, H1 b = some u → NT u → F1 b = none → F' b = none := fun b u hb _ hn => nf0 b u hb hn
            subst er
            have S2 : SOk Z N F' H1 σ e1 := S1.grow f' (Same.refl _) l' nf
            have S3' := S2.write g2 ho1 h1 t'
            exact P v F' _ (f1.trans f') S3' rv
        · exact P.elim
  · exact P.elim
theorem m_append : SoundM Z rAppend isLst mAppend := by
  intro F H a vs d ds d' rr Q l fa t r hk ho q
  cases d <;> simp only [isLst] at hk <;> try (cases hk; done)
  rename_i xs
  obtain ⟨ys, ha, ra⟩ := t
  cases r with
  | nil => simp only [mAppend] at ho; cases ho
  | cons h1 h2 =>
    cases h2 with
    | cons _ _ => simp only [mAppend] at ho; cases ho
    | nil =>
      simp only [mAppend] at ho
      split at ho
      · rename_i hz
        cases ho
        refine ⟨a, ys, _, rfl, rfl, ha, by rw [sizeLine_eq, ra.length]; exact hz, ?_⟩
        exact q .non F _ (Same.refl _) l (fun _ _ _ h => h) ⟨_, upd_same, ra.append (.cons h1 .nil)⟩ ⟨_, rfl, .non⟩
      · cases ho
theorem ty_lst {K : PySem.W.Frag} : ∀ F H p d, Top Z F H p d → isLst d = true → tyV K "list" (.ref p) H := by
  intro F H p d t k
  cases d <;> simp only [isLst] at k <;> try (cases k; done)
  obtain ⟨xs, h, _⟩ := t
  exact .inl ⟨rfl, xs, SqL.of h⟩

/-! ### tests -/
theorem tTv_rd {p : D → Option Bool} {f : EV} {Q : Bool → Hp → Prop} {R : VK} (h : tTv Z W (tRd p f) σ H Q) (hR : ∀ F H v d b, Same F H → RdV Z F H v d → p d = some b → Q b H → R v H) : tEv Z W f σ H R := by
  obtain ⟨N, F, e, S, P⟩ := h
  unfold tRd at P
  refine ⟨N, F, e, S, ?_⟩
  cases q : f e with
  | no => rw [q] at P; exact P
  | ex z e1 => rw [q] at P; exact P
  | ok r e1 =>
    rw [q] at P
    dsimp only at P
    intro x F1 H1 f1 S1 R1
    obtain ⟨F2, f2, S2, r2⟩ := RvOk.hold S1 R1
    cases d1 : S3.rd r e1 with
    | none => rw [d1] at P; exact P.elim
    | some d =>
      rw [d1] at P
      dsimp only at P
      cases d2 : p d with
      | none => rw [d2] at P; exact P.elim
      | some b =>
        rw [d2] at P
        exact hR F2 H1 x d b S2.le (r2.rd S2 d1) d2 (P F2 H1 (f1.trans f2) S2)
theorem test_val {f : EV} {Q : Bool → Hp → Prop} (h : tTv Z W (tVal f) σ H Q) : tB (tEv Z W f) σ H Q :=
  tTv_rd h fun F H v d b l r hp q => by
    cases d <;> simp only [asBool] at hp <;> cases hp
    exact ⟨_, r.bl, q⟩
theorem tru_rd {K : PySem.W.Frag} (hK : Z.K = K) {F H : Hp} {v : V} {d : D} {b : Bool} (l : Same F H) (r : RdV Z F H v d) (h : truth d = some b) : TruV K v H b := by
  cases d <;> simp only [truth] at h <;> cases h
  · rw [r.non]; rfl
  · rw [r.bl]; rfl
  · rw [r.int]; rfl
  · rw [r.str.1]
    refine ⟨r.str.2.1, ?_⟩
    rename_i x
    by_cases c : x.length = 0
    · rw [c]; rfl
    · rw [bne_iff_ne.mpr c, bne_iff_ne.mpr (by omega)]
  · obtain ⟨a, xs, rfl, ha, ra⟩ := r.lst l
    refine .inl ⟨xs, SqL.of ha, ?_⟩
    cases ra <;> rfl
  · obtain ⟨a, xs, rfl, ha, ra⟩ := r.tup l
    refine .inr (.inl ⟨xs, SqT.of ha, ?_⟩)
    cases ra <;> rfl
theorem test_tru {K : PySem.W.Frag} (hK : Z.K = K) {f : EV} {Q : Bool → Hp → Prop} (h : tTv Z W (tTru f) σ H Q) : tEv Z W f σ H fun x H1 => ∃ k, TruV K x H1 k ∧ Q k H1 :=
  tTv_rd h fun F H v d b l r hp q => ⟨b, tru_rd hK l r hp, q⟩
/-- a first test, then what the rest asks -/
theorem bindT {f : TV} {g : Bool → TV} {Q R : Bool → Hp → Prop} {h0 : Env → RT} (S : SOk Z N F H σ e) (e0 : h0 e = match f e with | .ok b e1 => g b e1 | .ex x e1 => .ex x e1 | .no => .no) (P : PostT Z N F σ W Q (h0 e))
    (K : ∀ b F1 H1 e1, Same F F1 → SOk Z N F1 H1 σ e1 → PostT Z N F1 σ W Q (g b e1) → R b H1) : tTv Z W f σ H R := by
  rw [e0] at P
  refine ⟨N, F, e, S, ?_⟩
  cases q : f e with
  | no => rw [q] at P; exact P
  | ex z e1 => rw [q] at P; exact P
  | ok b e1 => rw [q] at P; exact fun F1 H1 f1 S1 => K b F1 H1 e1 f1 S1 (PostT.shift (r := g b e1) P f1)
theorem test_and {f g : TV} {Q : Bool → Hp → Prop} (h : tTv Z W (tAndS f g) σ H Q) : tAnd (tTv Z W f) (tTv Z W g) σ H Q := by
  obtain ⟨N, F, e, S, P⟩ := h
  refine bindT (g := fun b => if b then g else fun e => .ok false e) S (by unfold tAndS; cases f e with | ok b e1 => cases b <;> rfl | ex x e1 => rfl | no => rfl) P fun b F1 H1 e1 f1 S1 P1 => ?_
  cases b with
  | true => exact iteT ⟨N, F1, e1, S1, P1⟩
  | false => exact iteF (P1 F1 H1 (Same.refl _) S1)
theorem test_or {f g : TV} {Q : Bool → Hp → Prop} (h : tTv Z W (tOrS f g) σ H Q) : tOr (tTv Z W f) (tTv Z W g) σ H Q := by
  obtain ⟨N, F, e, S, P⟩ := h
  refine bindT (g := fun b => if b then fun e => .ok true e else g) S (by unfold tOrS; cases f e with | ok b e1 => cases b <;> rfl | ex x e1 => rfl | no => rfl) P fun b F1 H1 e1 f1 S1 P1 => ?_
  cases b with
  | true => exact iteT (P1 F1 H1 (Same.refl _) S1)
  | false => exact iteF ⟨N, F1, e1, S1, P1⟩
theorem test_not {f : TV} {Q : Bool → Hp → Prop} (h : tTv Z W (tNotS f) σ H Q) : tNot (tTv Z W f) σ H Q := by
  obtain ⟨N, F, e, S, P⟩ := h
  exact bindT (g := fun b e => .ok (!b) e) S (by unfold tNotS; cases f e with | ok b e1 => rfl | ex x e1 => rfl | no => rfl) P fun b F1 H1 e1 f1 S1 P1 => P1 F1 H1 (Same.refl _) S1
end

section
variable {ca : Str → Option Addr} {W : WX} {X : Cx} {a b c : Expr} {es rest : List Expr} {fa fb fc : EV} {ga : AV} {ta tb : TV} {pos p : Pos}
theorem av_nil : Av ca W X [] aNil := PA_imp pa_nil fun _ _ _ => tAv_nil
theorem av_keep (ha : Ev ca W X a fa) (hr : Av ca W X es ga) (hs : starEach (a :: es) X.env = (false, eval a X.env) :: starEach es X.env := by rfl) : Av ca W X (a :: es) (aKeep fa ga) := PA_imp (pa_cons ha hr hs) fun _ _ _ => tAv_keep
theorem av_cons (ha : Ev ca W X a fa) (hr : Av ca W X es ga) (hs : starEach (a :: es) X.env = (false, eval a X.env) :: starEach es X.env := by rfl) : Av ca W X (a :: es) (aCons fa ga) := PA_imp (pa_cons ha hr hs) fun _ _ _ => tAv_cons
theorem ev_lst (h : Av ca W X es ga) : Ev ca W X (.List es pos) (eDisp mkLst ga) := PE_imp (pe_lst h) fun _ _ _ => disp_lst
/-- x.append(a), x a slot -/
theorem ev_append {i : Nat} {x : Str} {px apos : Pos} (hx : PE X (.Name x px) (tVar i)) (ha : Av ca W X [a] ga)
    (hbase : attributeBase (.Name x px) "append" X.env (eval (.Name x px) X.env) = eval (.Name x px) X.env := by rfl)
    (hline : (apos.endLine == pos.line) = true := by rfl) (hs : starEach [a] X.env = (false, eval a X.env) :: starEach [] X.env := by rfl) : Ev ca W X (.Call (.Attribute (.Name x px) "append" apos) [a] [] pos) (eMut i isLst mAppend ga) :=
  PE_imp (pe_bm PySem.F.plainAttrs_list PySem.F.slot_list_append PySem.F.type_list_append mt_append hx ha hbase (by rw [hs]; rfl) hline hs (by rfl)) fun _ _ _ => tEv_mut m_append ty_lst
/-! tests -/
theorem tv_tru (h : Ev ca W X a fa) (he : ∀ whole, isTrue a X.env whole = (do let v ← whole; standAt a.pos; holding [v] (truthy v)) := by intro _; rfl) : Tv ca W X a (tTru fa) := PT_imp (pt_truth h he) fun _ _ _ => test_tru rfl
theorem tv_cmp {op : CmpOp} {r : V → V → Hp → VK → Prop} {o : D → D → Option RV} (ho : OpR X (compareOp op) r) (hs : Sound2 (zw ca X) r o) (ha : Ev ca W X a fa) (hb : Ev ca W X b fb) (hm : behindInMarks op b = false) : Tv ca W X (.Compare a [op] [b] pos) (tVal (eOp2 o fa fb)) :=
  PT_imp (pt_cmpR ho ha hb hm) fun σ H Q h => two hs (Q := fun x H' => ∃ k, x = .bl k ∧ Q k H') (test_val h)
theorem tv_not (h : Tv ca W X a ta) : Tv ca W X (.UnaryOp .Not a pos) (tNotS ta) := PT_imp (pt_not h) fun _ _ _ => test_not
theorem wv_and1 (h : Tv ca W X a ta) : PW X (.BoolOp .And [a] pos) (tTv (zw ca X) W ta) := pw_and1 h
theorem wv_or1 (h : Tv ca W X a ta) : PW X (.BoolOp .Or [a] pos) (tTv (zw ca X) W ta) := pw_or1 h
theorem wv_and (ha : Tv ca W X a ta) (hb : PW X (.BoolOp .And (b :: rest) pos) (tTv (zw ca X) W tb)) : PW X (.BoolOp .And (a :: b :: rest) pos) (tTv (zw ca X) W (tAndS ta tb)) := PW_imp (pw_and ha hb) fun _ _ _ => test_and
theorem wv_or (ha : Tv ca W X a ta) (hb : PW X (.BoolOp .Or (b :: rest) pos) (tTv (zw ca X) W tb)) : PW X (.BoolOp .Or (a :: b :: rest) pos) (tTv (zw ca X) W (tOrS ta tb)) := PW_imp (pw_or ha hb) fun _ _ _ => test_or
theorem tv_w {e : Expr} (h : PW X e (tTv (zw ca X) W ta)) : Tv ca W X e ta := h.pt
end
end S3

/-! B8: statements. -/
namespace S3
open PySem L2
section
variable {Z : Wd} {F F' H H' : Hp} {N : En} {σ : St} {e e' : Env} {v x y : V} {W : WX} {E : Ends}
/-- an expression, then what the rest of the statement asks -/
theorem bindS {f : EV} {k : RV → SV} {R : VK} (S : SOk Z N F H σ e) (P : PostS Z N F W E (sE f k e))
    (K : ∀ x F1 H1 e1 r, Same F F1 → SOk Z N F1 H1 σ e1 → RvOk Z N F1 H1 σ e1 x r → PostS Z N F1 W E (k r e1) → R x H1) : tEv Z W f σ H R := by
  unfold sE at P
  refine ⟨N, F, e, S, ?_⟩
  cases q : f e with
  | no => rw [q] at P; exact P
  | ex z e1 => rw [q] at P; exact fun cls d F1 H1 f1 S1 x => P cls d F1 H1 σ f1 S1 x
  | ok r e1 => rw [q] at P; exact fun x F1 H1 f1 S1 R1 => K x F1 H1 e1 r f1 S1 R1 (PostS.shift (r := k r e1) P f1)
theorem bindST {f : TV} {g : Bool → SV} {R : Bool → Hp → Prop} {h0 : RS} (S : SOk Z N F H σ e) (e0 : h0 = match f e with | .ok b e1 => g b e1 | .ex x e1 => .ex x e1 | .no => .no) (P : PostS Z N F W E h0)
    (K : ∀ b F1 H1 e1, Same F F1 → SOk Z N F1 H1 σ e1 → PostS Z N F1 W E (g b e1) → R b H1) : tTv Z W f σ H R := by
  rw [e0] at P
  refine ⟨N, F, e, S, ?_⟩
  cases q : f e with
  | no => rw [q] at P; exact P
  | ex z e1 => rw [q] at P; exact fun cls d F1 H1 f1 S1 x => P cls d F1 H1 σ f1 S1 x
  | ok b e1 => rw [q] at P; exact fun F1 H1 f1 S1 => K b F1 H1 e1 f1 S1 (PostS.shift (r := g b e1) P f1)

theorem st_nx (h : tSv Z W sNx E σ H) : tNext E σ H := by
  obtain ⟨N, F, e, S, P⟩ := h
  exact P F H σ (Same.refl _) S
theorem st_seq {f g : SV} (h : tSv Z W (sSeq f g) E σ H) : tSeq (tSv Z W f) (tSv Z W g) E σ H := by
  obtain ⟨N, F, e, S, P⟩ := h
  unfold sSeq sBind at P
  refine ⟨N, F, e, S, ?_⟩
  cases q : f e with
  | no => rw [q] at P; exact P
  | nx e1 => rw [q] at P; exact fun F1 H1 σ1 f1 S1 => ⟨N, F1, e1, S1, PostS.shift P f1⟩
  | rt r e1 => rw [q] at P; exact P
  | bk e1 => rw [q] at P; exact P
  | ct e1 => rw [q] at P; exact P
  | ex x e1 => rw [q] at P; exact P
theorem st_expr {f : EV} (h : tSv Z W (sExpr f) E σ H) : tDrop (tEv Z W f) E σ H := by
  obtain ⟨N, F, e, S, P⟩ := h
  exact bindS S P fun x F1 H1 e1 r f1 S1 R1 P1 => P1 F1 H1 σ (Same.refl _) S1
theorem st_ret {f : EV} (h : tSv Z W (sRet f) E σ H) : tRet (tEv Z W f) E σ H := by
  obtain ⟨N, F, e, S, P⟩ := h
  refine bindS S P fun x F1 H1 e1 r f1 S1 R1 P1 => ?_
  cases r with
  | fz d => exact P1 x F1 H1 σ (Same.refl _) S1 R1
  | nw d => exact P1 x F1 H1 σ (Same.refl _) S1 R1
  | «at» i =>
    obtain ⟨h1, s, h2, h3⟩ := R1
    have q : S3.slot e1 i = s := slot_of h2
    unfold ret at P1
    dsimp only at P1
    rw [q] at P1
    obtain ⟨o, g1, g2⟩ := S1.slot i s h2
    rw [h1] at g1
    cases g1
    cases s with
    | fz d =>
      obtain ⟨w, e1, r⟩ := g2
      cases e1
      exact P1 x F1 H1 σ (Same.refl _) S1 r
    | ow d =>
      obtain ⟨a, e1, fa, na, t⟩ := g2
      cases e1
      refine P1 _ F1 H1 σ (Same.refl _) (S1.forget i) ⟨a, rfl, fa, na, t, fun j s' hj l => ?_⟩
      rcases get_set hj with ⟨_, rfl, _⟩ | ⟨ne, hj'⟩
      · exact l
      · exact S1.sep i j _ s' a h2 hj' ne rfl (by rw [h1]; rfl) l
    | dp g d =>
      cases g with
      | false => exact P1.elim
      | true =>
        obtain ⟨v, R, e1, t, new⟩ := g2
        cases e1
        refine P1 _ F1 H1 σ (Same.refl _) (S1.forget i) ⟨R, t, fun b m => (new b m).elim id (fun z => absurd z.1 (by decide)), fun b m j s' hj l => ?_⟩
        rcases get_set hj with ⟨_, rfl, _⟩ | ⟨ne, hj'⟩
        · exact l
        · exact S1.sep i j _ s' b h2 hj' ne rfl (by rw [h1]; exact ⟨_, R, rfl, t, m⟩) l
    | _ => exact P1.elim
  | dn d => exact P1 x F1 H1 σ (Same.refl _) S1 R1
theorem st_if {c : TV} {f g : SV} (h : tSv Z W (sIf c f g) E σ H) : tIfS (tTv Z W c) (tSv Z W f) (tSv Z W g) E σ H := by
  obtain ⟨N, F, e, S, P⟩ := h
  refine bindST (g := fun b => if b then f else g) S (by unfold sIf; cases c e with | ok b e1 => cases b <;> rfl | ex x e1 => rfl | no => rfl) P fun b F1 H1 e1 f1 S1 P1 => ?_
  cases b with
  | true => exact iteT ⟨N, F1, e1, S1, P1⟩
  | false => exact iteF ⟨N, F1, e1, S1, P1⟩
/-- a value is given to a slot -/
theorem set_ok {i : Nat} {r : RV} (S : SOk Z N F H σ e) (R : RvOk Z N F H σ e v r) (h : setS i r e = some e') : ∃ F', Same F F' ∧ SOk Z N F' H (σ.set i (some v)) e' := by
  cases r with
  | fz d => cases h; exact ⟨F, Same.refl _, S.set R⟩
  | nw d =>
    cases h
    obtain ⟨a, rfl, fa, na, t, ap⟩ := R
    exact ⟨F, Same.refl _, S.setOw fa na t ap⟩
  | «at» j =>
    simp only [setS, Option.map_eq_some_iff] at h
    obtain ⟨⟨d, e1⟩, h1, rfl⟩ := h
    obtain ⟨F', f, S', r⟩ := RvOk.stl S R h1
    exact ⟨F', f, S'.set r⟩
  | dn d =>
    cases h
    obtain ⟨Q, t, new, ap⟩ := R
    exact ⟨F, Same.refl _, S.setDp t (fun b m => .inl (new b m)) ap⟩
theorem st_set {i : Nat} {f : EV} (h : tSv Z W (sSet i f) E σ H) : tAsg (tEv Z W f) (gName i) E σ H := by
  obtain ⟨N, F, e, S, P⟩ := h
  refine bindS S P fun x F1 H1 e1 r f1 S1 R1 P1 => ?_
  cases q : setS i r e1 with
  | none => rw [q] at P1; exact P1.elim
  | some e2 =>
    rw [q] at P1
    obtain ⟨F2, f2, S2⟩ := set_ok S1 R1 q
    exact P1 F2 H1 _ f2 S2
/-! targets -/
def tgIx : Tg → List Nat
  | .one i => [i]
  | .tup is => is
/-- the slots but those at is are as they were -/
def Off (is : List Nat) (σ σ' : St) : Prop := σ'.length = σ.length ∧ ∀ j, j ∉ is → σ'[j]? = σ[j]?
theorem Off.set (i : Nat) (is : List Nat) (σ σ' : St) (o : Option V) (h : Off is (σ.set i o) σ') : Off (i :: is) σ σ' := by
  refine ⟨by rw [h.1, List.length_set], fun j hj => ?_⟩
  rw [List.mem_cons, not_or] at hj
  rw [h.2 j hj.2, List.getElem?_set_ne (Ne.symm hj.1)]
def TgOk (Z : Wd) (g : TG) (t : Tg) : Prop := ∀ (N : En) (F H : Hp) (σ : St) (e : Env) (v : V) (d : D) (e1 : Env) (Q : St → Hp → Prop), SOk Z N F H σ e → Rp Z F v d → tgt t d e = some e1 → (∀ σ', SOk Z N F H σ' e1 → Off (tgIx t) σ σ' → Q σ' H) → g v σ H Q
theorem tg_one {i : Nat} : TgOk Z (gName i) (.one i) := fun N F H σ e v d e1 Q S r h q => by
  cases h
  exact q _ (S.set r) (Off.set i [] _ _ _ ⟨rfl, fun _ _ => rfl⟩)
def TgsOk (Z : Wd) (g : TGs) (is : List Nat) : Prop := ∀ (N : En) (F H : Hp) (σ : St) (e : Env) (vs : List V) (ds : List D) (e1 : Env) (Q : St → Hp → Prop), SOk Z N F H σ e → RpA Z F vs ds → setAll is ds e = some e1 → (∀ σ', SOk Z N F H σ' e1 → Off is σ σ' → Q σ' H) → g vs σ H Q
theorem tgs_nil : TgsOk Z gNil [] := fun N F H σ e vs ds e1 Q S r h q => by
  cases r with
  | nil => cases h; exact ⟨rfl, q _ S ⟨rfl, fun _ _ => rfl⟩⟩
  | cons _ _ => cases h
theorem tgs_cons {i : Nat} {is : List Nat} {g : TGs} (k : TgsOk Z g is) : TgsOk Z (gCons (gName i) g) (i :: is) := fun N F H σ e vs ds e1 Q S r h q => by
  cases r with
  | nil => cases h
  | cons r1 r2 => exact ⟨_, _, rfl, k N F H _ _ _ _ e1 Q (S.set r1) r2 h fun σ' S' o => q σ' S' (Off.set i is _ _ _ o)⟩
theorem setAll_len : ∀ {is : List Nat} {ds : List D} {e e1 : Env}, setAll is ds e = some e1 → is.length = ds.length
  | [], [], _, _, _ => rfl
  | [], _ :: _, _, _, h => by cases h
  | _ :: _, [], _, _, h => by cases h
  | _ :: is, _ :: ds, _, _, h => congrArg Nat.succ (setAll_len (is := is) (ds := ds) h)
theorem tg_tup {is : List Nat} {g : TGs} {n : Nat} (k : TgsOk Z g is) (hn : n = is.length) {K : PySem.W.Frag} (hK : Z.K = K) : TgOk Z (gTup K n g) (.tup is) := fun N F H σ e v d e1 Q S r h q => by
  cases d <;> simp only [tgt] at h <;> try (cases h; done)
  obtain ⟨a, xs, rfl, ha, ra⟩ := RdV.tup (H := H) S.le (.inl r)
  exact ⟨a, xs, rfl, SqT.of ha, by rw [ra.length, ← setAll_len h, hn], k N F H σ e xs _ e1 Q S ra h q⟩
/-! ### loops -/
/-- the walker J gives the items ds, from F on -/
def WalkOk (Z : Wd) (N : En) (F : Hp) (J : It) (ds : List D) : Prop := ∀ F' H' σ e, SOk Z N F' H' σ e → Same F F' → ∀ i,
  (∀ d, ds[i]? = some d → J.go i H' ∧ ∀ x H2, J.yld i H' x H2 → ∃ F2, Gr F' H' F2 H2 ∧ Rp Z F2 x d) ∧ (ds.length ≤ i → J.stop i H')
theorem for_sound {J : It} {ds : List D} {tmp : List Nat} {t : Tg} {g : TG} {b : SV} (wk : WalkOk Z N F J ds) (tk : TgOk Z g t) (S : SOk Z N F H σ e) (P : PostS Z N F W E (forL tmp t b ds e)) :
    ∃ Wm : Nat → Nat → St → Hp → Prop, (∃ m, Wm 0 m σ H) ∧ ∀ i m σ H, Wm i m σ H →
      (J.stop i H ∧ E.nx σ H) ∨ (J.go i H ∧ ∃ Nx : St → Hp → Prop, (∀ σ' H', Nx σ' H' → ∃ m', m' < m ∧ Wm (i + 1) m' σ' H') ∧ ∀ x H', J.yld i H x H' → g x σ H' fun σ2 H2 => tSv Z W b { E with nx := Nx, ct := Nx, bk := E.nx } σ2 H2) := by
  refine ⟨fun i m σ H => m = ds.length - i ∧ i ≤ ds.length ∧ ∃ F' e', Same F F' ∧ SOk Z N F' H σ e' ∧ PostS Z N F' W E (forL tmp t b (ds.drop i) e'), ⟨ds.length, rfl, Nat.zero_le _, F, e, Same.refl _, S, P⟩, ?_⟩
  rintro i m σ H ⟨rfl, hi, F1, e1, f1, S1, P1⟩
  obtain ⟨w1, w2⟩ := wk F1 H σ e1 S1 f1 i
  by_cases hlt : i < ds.length
  · have ed : ds.drop i = ds[i] :: ds.drop (i + 1) := List.drop_eq_getElem_cons hlt
    have ei : ds[i]? = some ds[i] := List.getElem?_eq_getElem hlt
    rw [ed] at P1
    generalize ds[i] = d at P1 ei
    obtain ⟨go, yl⟩ := w1 d ei
    unfold forL at P1
    cases q : tgt t d e1 with
    | none => rw [q] at P1; exact P1.elim
    | some e2 =>
      rw [q] at P1
      dsimp only at P1
      refine .inr ⟨go, fun σ' H' => ∃ F' e', Same F F' ∧ SOk Z N F' H' σ' e' ∧ PostS Z N F' W E (forL tmp t b (ds.drop (i + 1)) e'), fun σ' H' ⟨F', e', f', S', P'⟩ => ⟨ds.length - (i + 1), by omega, rfl, hlt, F', e', f', S', P'⟩, fun x H2 hy => ?_⟩
      obtain ⟨F2, g2, r2⟩ := yl x H2 hy
      refine tk N F2 H2 σ e1 x d e2 _ (S1.gr g2) r2 q fun σ' S2 _ => ⟨N, F2, e2, S2, ?_⟩
      cases q2 : b e2 with
      | no => rw [q2] at P1; exact P1
      | nx e3 => rw [q2] at P1; exact fun F3 H3 σ3 f3 S3 => ⟨F3, _, (f1.trans g2.f).trans f3, S3.wipe tmp, PostS.shift P1 (g2.f.trans f3)⟩
      | ct e3 => rw [q2] at P1; exact fun F3 H3 σ3 f3 S3 => ⟨F3, _, (f1.trans g2.f).trans f3, S3.wipe tmp, PostS.shift P1 (g2.f.trans f3)⟩
      | bk e3 => rw [q2] at P1; exact fun F3 H3 σ3 f3 S3 => P1 F3 H3 σ3 (g2.f.trans f3) (S3.wipe tmp)
      | rt r e3 => rw [q2] at P1; exact fun v F3 H3 σ3 f3 => P1 v F3 H3 σ3 (g2.f.trans f3)
      | ex x e3 => rw [q2] at P1; exact fun c d' F3 H3 σ3 f3 => P1 c d' F3 H3 σ3 (g2.f.trans f3)
  · have e0 : ds.drop i = [] := List.drop_eq_nil_of_le (Nat.le_of_not_lt hlt)
    rw [e0] at P1
    exact .inl ⟨w2 (Nat.le_of_not_lt hlt), P1 F1 H σ (Same.refl _) S1⟩
/-- what is walked, settled -/
theorem walk_ok {r : RV} {d : D} (S : SOk Z N F H σ e) (R : RvOk Z N F H σ e v r) (h : walk r e = some (d, e')) :
    ∃ F', Same F F' ∧ SOk Z N F' H σ e' ∧ (Rp Z F' v d ∨ ∃ a, v = .ref a ∧ (∃ u, N.H a = some u) ∧ a ∉ N.M ∧ Top Z F' H a d) := by
  cases r with
  | fz x => cases h; exact ⟨F, Same.refl _, S, .inl R⟩
  | nw x =>
    cases h
    obtain ⟨F', f, S', r⟩ := RvOk.stl (e' := e) S R rfl
    exact ⟨F', f, S', .inl r⟩
  | «at» i =>
    have R' := R
    obtain ⟨h1, s, h2, h3⟩ := R
    have q : S3.slot e i = s := slot_of h2
    unfold walk at h
    dsimp only at h
    rw [q] at h
    cases s with
    | fz x =>
      cases h
      obtain ⟨F', f, S', r⟩ := RvOk.stl (e' := e) (d := d) S R' (by unfold S3.stl; dsimp only; rw [q])
      exact ⟨F', f, S', .inl r⟩
    | ow x =>
      cases h
      obtain ⟨F', f, S', r⟩ := RvOk.stl (e' := e.set i (.fz d)) (d := d) S R' (by unfold S3.stl; dsimp only; rw [q])
      exact ⟨F', f, S', .inl r⟩
    | bo x =>
      cases h
      obtain ⟨o, g1, w, rfl, g2⟩ := S.slot i _ h2
      rw [h1] at g1
      cases g1
      refine ⟨F, Same.refl _, S, ?_⟩
      rcases g2 with g2 | ⟨a, rfl, _, u, m, t⟩
      · exact .inl g2
      · exact .inr ⟨a, rfl, u, m, t⟩
    | no => cases h
    | mu x => cases h
    | dp g x =>
      cases g with
      | false => cases h
      | true =>
        cases h
        obtain ⟨F', f, S', r⟩ := RvOk.stl (e' := e.set i (.fz x.sbT)) (d := x.sbT) S R' (by unfold S3.stl; dsimp only; rw [q])
        exact ⟨F', f, S', .inl r⟩
  | dn x =>
    cases h
    obtain ⟨F', f, S', r⟩ := RvOk.stl (e' := e) S R rfl
    exact ⟨F', f, S', .inl r⟩
theorem walk_lst {K : PySem.W.Frag} (hK : Z.K = K) {ds : List D} (S : SOk Z N F H σ e) (h : Rp Z F v (.lst ds) ∨ ∃ a, v = .ref a ∧ (∃ u, N.H a = some u) ∧ a ∉ N.M ∧ Top Z F H a (.lst ds)) :
    ∃ a, v = .ref a ∧ (∃ xs, SqL K H a xs) ∧ WalkOk Z N F (Itl K a) ds := by
  obtain ⟨a, xs, rfl, ha, ra, st⟩ : ∃ a xs, v = .ref a ∧ H a = some (.lst xs) ∧ RpA Z F xs ds ∧ ∀ F' H' σ e, SOk Z N F' H' σ e → Same F F' → H' a = some (.lst xs) := by
    rcases h with h | ⟨a, rfl, ⟨u, hu⟩, m, xs, ha, ra⟩
    · cases h with
      | lst k r => exact ⟨_, _, rfl, S.le _ _ k, r, fun F' H' σ e S' f => S'.le _ _ (f _ _ k)⟩
    · have e1 := S.h0 a u hu m
      rw [ha] at e1
      cases e1
      exact ⟨a, xs, rfl, ha, ra, fun F' H' σ e S' f => S'.h0 a _ hu m⟩
  refine ⟨a, rfl, ⟨xs, SqL.of ha⟩, fun F' H' σ' e' S' f i => ⟨fun d hd => ?_, fun hl => ⟨xs, SqL.of (st _ _ _ _ S' f), by rw [ra.length]; exact hl⟩⟩⟩
  have hx := st _ _ _ _ S' f
  obtain ⟨w, hw, rw'⟩ := ra.get hd
  refine ⟨⟨xs, w, SqL.of hx, hw⟩, fun x H2 ⟨e2, y⟩ => ?_⟩
  subst e2
  have := y xs (SqL.of hx)
  rw [hw] at this
  cases this
  exact ⟨F', Gr.refl S'.le, rw'.mono f⟩
theorem walk_tup {K : PySem.W.Frag} (hK : Z.K = K) {ds : List D} (S : SOk Z N F H σ e) (h : Rp Z F v (.tup ds)) : ∃ a, v = .ref a ∧ (∃ xs, SqT K H a xs) ∧ WalkOk Z N F (Itt K a) ds := by
  cases h with
  | @tup a xs _ k ra =>
    refine ⟨a, rfl, ⟨xs, SqT.of (S.le _ _ k)⟩, fun F' H' σ' e' S' f i => ⟨fun d hd => ?_, fun hl => ⟨xs, SqT.of (S'.le _ _ (f _ _ k)), by rw [ra.length]; exact hl⟩⟩⟩
    have hx := S'.le _ _ (f _ _ k)
    obtain ⟨w, hw, rw'⟩ := ra.get hd
    refine ⟨⟨xs, w, SqT.of hx, hw⟩, fun x H2 ⟨e2, y⟩ => ?_⟩
    subst e2
    have := y xs (SqT.of hx)
    rw [hw] at this
    cases this
    exact ⟨F', Gr.refl S'.le, rw'.mono f⟩
theorem walk_scr {K : PySem.W.Frag} (hK : Z.K = K) {ds : List D} (S : SOk Z N F H σ e) (h : Rp Z F v (.scr ds)) : ∃ a, v = .ref a ∧ (∃ xs, SqL K H a xs) ∧ WalkOk Z N F (Itl K a) ds := by
  subst hK
  cases h with
  | @scr a xs _ k ra =>
    refine ⟨a, rfl, ⟨xs, Same.seq S.le k⟩, fun F' H' σ' e' S' f i => ⟨fun d hd => ?_, fun hl => ⟨xs, Same.seq S'.le (Same.seq f k), by rw [ra.length]; exact hl⟩⟩⟩
    have hx := Same.seq S'.le (Same.seq f k)
    obtain ⟨w, hw, rw'⟩ := ra.get hd
    refine ⟨⟨xs, w, hx, hw⟩, fun x H2 ⟨e2, y⟩ => ?_⟩
    subst e2
    have := y xs hx
    rw [hw] at this
    cases this
    exact ⟨F', Gr.refl S'.le, rw'.mono f⟩
theorem walk_str {x : Str} (hx : sOk x = true) : WalkOk Z N F (Its x) (x.cps.toList.map fun c => .str ⟨#[c]⟩) := fun F' H' σ' e' S' f i => by
  refine ⟨fun d hd => ?_, fun hl => ?_⟩
  · rw [List.getElem?_map, Option.map_eq_some_iff] at hd
    obtain ⟨c, hc, rfl⟩ := hd
    have hc' : x.cps[i]? = some c := by rw [← hc, Array.getElem?_toList]
    refine ⟨(Array.getElem?_eq_some_iff.mp hc').1, fun v H2 ⟨e2, c2, hc2, ev⟩ => ?_⟩
    subst e2 ev
    rw [hc'] at hc2
    cases hc2
    refine ⟨F', Gr.refl S'.le, .str _ (sOk_of (by show 1 ≤ LIM; decide) ?_)⟩
    have h3 := Array.all_eq_true_iff_forall_mem.mp (sOk_cps hx) c (Array.mem_of_getElem? hc')
    simpa using h3
  · rw [List.length_map, Array.length_toList] at hl
    exact hl
def PostW (Z : Wd) (N : En) (F : Hp) (σ : St) (W : WX) (R : It → Hp → Prop) : RW → Prop
  | .no => False
  | .ok xs e => ∀ J F' H', Same F F' → SOk Z N F' H' σ e → WalkOk Z N F' J xs → R J H'
  | .ex x e => ∀ cls d F' H', Same F F' → SOk Z N F' H' σ e → ExOk Z F' H' x cls d → W cls d σ H'
def tWv (Z : Wd) (W : WX) (w : WV) : TI := fun σ H R => ∃ N F e, SOk Z N F H σ e ∧ PostW Z N F σ W R (w e)
theorem PostW.shift {R : It → Hp → Prop} {r : RW} (h : PostW Z N F σ W R r) (s : Same F F') : PostW Z N F' σ W R r := by
  cases r with
  | no => exact h
  | ok r e => exact fun J F2 H2 s2 => h J F2 H2 (s.trans s2)
  | ex x e => exact fun c d F2 H2 s2 => h c d F2 H2 (s.trans s2)
/-- what a for, a comprehension may walk -/
def iAny (K : PySem.W.Frag) (te : TE) : TI := fun σ H R => iList K te σ H R ∨ iTup K te σ H R ∨ iStr te σ H R
theorem PI_or {X : Cx} {tg iter : Expr} {w1 w2 : TI} (h1 : PI X tg iter w1) (h2 : PI X tg iter w2) : PI X tg iter (fun σ H R => w1 σ H R ∨ w2 σ H R) := ⟨fun p s σ H R I q => by
  rcases q with q | q
  · exact h1.run p s σ H R I q
  · exact h2.run p s σ H R I q⟩
theorem PI_imp {X : Cx} {tg iter : Expr} {w1 w2 : TI} (h1 : PI X tg iter w1) (i : ∀ σ H R, w2 σ H R → w1 σ H R) : PI X tg iter w2 := ⟨fun p s σ H R I q => h1.run p s σ H R I (i σ H R q)⟩
theorem pi_any {X : Cx} {tg iter : Expr} {te : TE} (h : PE X iter te) : PI X tg iter (iAny X.K te) := PI_or (pi_list h) (PI_or (pi_tup h) (pi_str h))
theorem wv_any_rd {K : PySem.W.Frag} (hK : Z.K = K) {f : EV} {R : It → Hp → Prop} (h : tWv Z W (wAny f) σ H R) : iAny K (tEv Z W f) σ H R := by
  obtain ⟨N, F, e, S, P⟩ := h
  unfold wAny wE at P
  cases q : f e with
  | no => rw [q] at P; exact P.elim
  | ex z e1 =>
    rw [q] at P
    refine .inl ⟨N, F, e, S, ?_⟩
    rw [q]
    exact fun cls d F1 H1 f1 S1 x => P cls d F1 H1 f1 S1 x
  | ok r e0 =>
    rw [q] at P
    dsimp only at P
    cases q1 : walk r e0 with
    | none => rw [q1] at P; exact P.elim
    | some pr =>
      obtain ⟨d, e1⟩ := pr
      rw [q1] at P
      dsimp only at P
      cases q2 : items d with
      | none => rw [q2] at P; exact P.elim
      | some xs =>
        rw [q2] at P
        dsimp only at P
        have h : ∀ J F2 H2, Same F F2 → SOk Z N F2 H2 σ e1 → WalkOk Z N F2 J xs → R J H2 := P
        cases d <;> simp only [items] at q2 <;> cases q2
        · refine .inr (.inr ⟨N, F, e, S, ?_⟩)
          rw [q]
          intro v F1 H1 f1 S1 R1
          obtain ⟨F2, f2, S2, h2⟩ := walk_ok S1 R1 q1
          rcases h2 with h2 | ⟨_, _, _, _, t⟩
          · have hs := RdV.str (H := H1) (.inl h2)
            exact ⟨_, hs.1, h _ F2 H1 (f1.trans f2) S2 (walk_str hs.2.2)⟩
          · exact t.elim
        · refine .inl ⟨N, F, e, S, ?_⟩
          rw [q]
          intro v F1 H1 f1 S1 R1
          obtain ⟨F2, f2, S2, h2⟩ := walk_ok S1 R1 q1
          obtain ⟨a, e1, h3, w⟩ := walk_lst hK S2 h2
          exact ⟨a, e1, h3, h _ F2 H1 (f1.trans f2) S2 w⟩
        · refine .inr (.inl ⟨N, F, e, S, ?_⟩)
          rw [q]
          intro v F1 H1 f1 S1 R1
          obtain ⟨F2, f2, S2, h2⟩ := walk_ok S1 R1 q1
          rcases h2 with h2 | ⟨_, _, _, _, t⟩
          · obtain ⟨a, e1, h3, w⟩ := walk_tup hK S2 h2
            exact ⟨a, e1, h3, h _ F2 H1 (f1.trans f2) S2 w⟩
          · exact t.elim
        · refine .inl ⟨N, F, e, S, ?_⟩
          rw [q]
          intro v F1 H1 f1 S1 R1
          obtain ⟨F2, f2, S2, h2⟩ := walk_ok S1 R1 q1
          rcases h2 with h2 | ⟨_, _, _, _, t⟩
          · obtain ⟨a, e1, h3, w⟩ := walk_scr hK S2 h2
            exact ⟨a, e1, h3, h _ F2 H1 (f1.trans f2) S2 w⟩
          · exact t.elim
/-- an int, then what the walk asks -/
theorem bindWI {f : EV} {k : RV → WV} {R : It → Hp → Prop} {R' : VK} (S : SOk Z N F H σ e) (P : PostW Z N F σ W R (wE (eI f) k e))
    (K : ∀ i F1 H1 e1, Same F F1 → SOk Z N F1 H1 σ e1 → PostW Z N F1 σ W R (k (.fz (.int i)) e1) → R' (.int i) H1) : tEv Z W f σ H R' := by
  unfold wE eI eBind at P
  refine ⟨N, F, e, S, ?_⟩
  cases q : f e with
  | no => rw [q] at P; exact P
  | ex z e1 => rw [q] at P; exact P
  | ok r e1 =>
    rw [q] at P
    cases r with
    | fz d =>
      cases d with
      | int i =>
        intro x F1 H1 f1 S1 R1
        have ex : x = .int i := RdV.int (H := H1) (.inl R1)
        subst ex
        exact K i F1 H1 e1 f1 S1 (PostW.shift (r := k (.fz (.int i)) e1) P f1)
      | _ => exact P.elim
    | _ => exact P.elim
theorem walk_rng {lo : Int} {n : Nat} : WalkOk Z N F (Itr lo n) ((List.range n).map fun i => .int (lo + (i : Nat))) := fun F' H' σ' e' S' f i => by
  refine ⟨fun d hd => ?_, fun hl => ?_⟩
  · rw [List.getElem?_map, Option.map_eq_some_iff] at hd
    obtain ⟨j, hj, rfl⟩ := hd
    obtain ⟨h1, h2⟩ := List.getElem?_eq_some_iff.mp hj
    rw [List.getElem_range] at h2
    subst h2
    rw [List.length_range] at h1
    refine ⟨h1, fun v H2 ⟨e2, ev⟩ => ?_⟩
    subst e2 ev
    exact ⟨F', Gr.refl S'.le, .int _⟩
  · rw [List.length_map, List.length_range] at hl
    exact hl
theorem wv_r1_rd {g : EV} {R : It → Hp → Prop} (h : tWv Z W (wR1 g) σ H R) : iRng1 (tCons (tEv Z W g) tNil) σ H R := by
  obtain ⟨N, F, e, S, P⟩ := h
  refine bindWI S P fun y F1 H1 e1 f1 S1 P1 => ?_
  dsimp only at P1
  split at P1
  · rename_i hb
    refine ⟨y, rfl, hb.1, hb.2, P1 _ F1 H1 (Same.refl _) S1 ?_⟩
    have e0 : rng 0 y = (List.range y.toNat).map fun i => D.int (0 + (i : Nat)) := by unfold rng; rw [Int.sub_zero]
    rw [e0]
    exact walk_rng
  · exact P1.elim
theorem for_post {tmp : List Nat} {t : Tg} {g : TG} {w : WV} {b : SV} (tk : TgOk Z g t) (S : SOk Z N F H σ e) (P : PostS Z N F W E (sFor tmp t w b e)) : tFor (fun _ _ R => PostW Z N F σ W R (w e)) g (tSv Z W b) E σ H := by
  unfold sFor at P
  show PostW Z N F σ W _ (w e)
  cases q : w e with
  | no => rw [q] at P; exact P
  | ex z e1 => rw [q] at P; exact fun cls d F1 H1 f1 S1 x => P cls d F1 H1 σ f1 S1 x
  | ok xs e1 => rw [q] at P; exact fun J F2 H2 f2 S2 wk => for_sound wk tk S2 (PostS.shift P f2)
theorem st_for {tmp : List Nat} {t : Tg} {g : TG} {w : WV} {b : SV} (tk : TgOk Z g t) (h : tSv Z W (sFor tmp t w b) E σ H) : tFor (tWv Z W w) g (tSv Z W b) E σ H :=
  let ⟨N, F, e, S, P⟩ := h
  ⟨N, F, e, S, for_post tk S P⟩
end

section
variable {ca : Str → Option Addr} {W : WX} {X : Cx} {a b c : Expr} {st : Stmt} {rest s1 s2 : List Stmt} {fa fb : EV} {t : TV} {f g : SV} {pos p p2 : Pos}
theorem bv_nil : Bv ca W X [] sNx := PSs_imp pss_nil fun _ _ _ => st_nx
theorem bv_one (h : Sv ca W X st f) : Bv ca W X [st] f := pss_one h
theorem bv_cons (h : Sv ca W X st f) (k : Bv ca W X rest g) : Bv ca W X (st :: rest) (sSeq f g) := PSs_imp (pss_cons h k) fun _ _ _ => st_seq
theorem sv_expr (h : Ev ca W X a fa) (hs : swapsWith a none pos.line X.env = pure false := by rfl) : Sv ca W X (.Expr a pos) (sExpr fa) := PS_imp (ps_expr h hs) fun _ _ _ => st_expr
theorem sv_ret (h : Ev ca W X a fa) : Sv ca W X (.Return (some a) pos) (sRet fa) := PS_imp (ps_ret h) fun _ _ _ => st_ret
theorem sv_if (hc : Tv ca W X c t) (h1 : Bv ca W X s1 f) (h2 : Bv ca W X s2 g) : Sv ca W X (.If c s1 s2 pos) (sIf t f g) := PS_imp (ps_if hc h1 h2) fun _ _ _ => st_if
theorem sv_set (i : Nat) {x : Str} (hN : X.N.Nodup) (h : Ev ca W X a fa) (hi : X.N[i]? = some x := by rfl) (hx : Loc X.env.scope x := by first | exact Or.inl rfl | exact Or.inr rfl) (hs : swapsWith a (some (.Name x p)) pos.line X.env = pure false := by rfl)
    (hf : X.fn x = true ∨ X.env.scope.names.lookup x = some .local := by first | exact .inl rfl | exact .inr rfl | assumption) : Sv ca W X (.Assign [.Name x p] a pos) (sSet i fa) := PS_imp (ps_set hN hi hx h hs hf) fun _ _ _ => st_set
/-- the text iter, walked to the target tg, says w -/
abbrev Wv (ca : Str → Option Addr) (W : WX) (X : Cx) (tg iter : Expr) (w : WV) : Prop := PI X tg iter (tWv (zw ca X) W w)
theorem wv_any {tg : Expr} (h : Ev ca W X a fa) : Wv ca W X tg a (wAny fa) := PI_imp (pi_any h) fun _ _ _ => wv_any_rd rfl
theorem wv_r1 {tg : Expr} (hm : X.mg "range" = none) (h : Ev ca W X a fa) (hg : Gl X "range" := by rfl) (hs : starEach [a] X.env = (false, eval a X.env) :: starEach [] X.env := by rfl) : Wv ca W X tg (.Call (.Name "range" p) [a] [] pos) (wR1 fa) := PI_imp (pi_range1 hg hm (pa_cons h pa_nil hs) (by rw [hs]; rfl)) fun _ _ _ => wv_r1_rd
theorem sv_for {tmp : List Nat} {tt : Tg} {tg : TG} {w : WV} (hp : PassesOwn (model X.prog X.w) X.A X.env X.xe) (hc : X.calm = true) (hg : PG X c tg) (tk : TgOk (zw ca X) tg tt) (h : Wv ca W X c a w) (hb : Bv ca W X s1 f)
    (hs : ∀ x, foldedSetIterable a X.env x = pure x := by intro _; rfl) : Sv ca W X (.For c a s1 [] pos) (sFor tmp tt w f) := PS_imp (ps_for hp hc h hg hb hs) fun _ _ _ => st_for tk
end
end S3

/-! B9: list comprehensions. -/
namespace S3
open PySem L2
section
variable {Z : Wd} {F F' H H' : Hp} {N : En} {σ : St} {e e' : Env} {v x y : V} {W : WX}
theorem get_lock {e : Env} {i : Nat} {s : Sl} (h : (lock e)[i]? = some s) : ∃ t, e[i]? = some t ∧ s = t.lock := by
  unfold lock at h
  rw [List.getElem?_map, Option.map_eq_some_iff] at h
  obtain ⟨t, h1, h2⟩ := h
  exact ⟨t, h1, h2.symm⟩
/-- all that is owned is lent to be read, from here on -/
theorem SOk.lockd (S : SOk Z N F H σ e) : SOk Z ⟨F, H, [], fun _ => none, fun _ => []⟩ F H σ (lock e) where
  le := S.le
  f0 := Same.refl _
  h0 := fun _ _ h _ => h
  nf := fun _ _ _ _ h => h
  len := by unfold lock; rw [List.length_map]; exact S.len
  slot := fun i s h => by
    obtain ⟨t, h1, rfl⟩ := get_lock h
    obtain ⟨o, g1, g2⟩ := S.slot i t h1
    refine ⟨o, g1, ?_⟩
    cases t with
    | no => trivial
    | fz d => exact g2
    | ow d => obtain ⟨a, rfl, f, n, t⟩ := g2; exact ⟨_, rfl, .inr ⟨a, rfl, f, t.there, by simp, t⟩⟩
    | mu d => obtain ⟨a, rfl, f, n, t⟩ := g2; exact ⟨_, rfl, .inr ⟨a, rfl, f, t.there, by simp, t⟩⟩
    | bo d =>
      obtain ⟨v, rfl, r | ⟨a, rfl, f, n, m, t⟩⟩ := g2
      · exact ⟨v, rfl, .inl r⟩
      · exact ⟨_, rfl, .inr ⟨a, rfl, f, t.there, by simp, t⟩⟩
    | dp g d => trivial
  sep := fun i j s t a h1 h2 ne o l1 l2 => by
    obtain ⟨s', _, rfl⟩ := get_lock h1
    cases s' <;> cases o
  mh := fun a m => absurd m (by simp)
  mus := fun i d h => by
    obtain ⟨t, _, q⟩ := get_lock h
    cases t <;> cases q
  bos := fun i d a r h k => by cases k
  lks := fun i j d a h m l => by cases m
  lkh := fun j a m => by cases m
theorem wipe_get {σ : St} {j : Nat} : ∀ {is : List Nat}, (wipe σ is)[j]? = if j ∈ is ∧ j < σ.length then some none else σ[j]?
  | [] => by simp [wipe]
  | i :: is => by
    have ih := wipe_get (σ := σ) (j := j) (is := is)
    have hl := wipe_length σ is
    unfold wipe
    by_cases q : i = j
    · subst q
      by_cases l : i < σ.length
      · rw [List.getElem?_set_self (by rw [hl]; exact l), if_pos ⟨List.mem_cons_self, l⟩]
      · rw [List.getElem?_eq_none (by rw [List.length_set, hl]; omega), if_neg (fun z => l z.2), List.getElem?_eq_none (by omega)]
    · rw [List.getElem?_set_ne q, ih]
      by_cases m : j ∈ is ∧ j < σ.length
      · rw [if_pos m, if_pos ⟨List.mem_cons_of_mem _ m.1, m.2⟩]
      · rw [if_neg m, if_neg]
        rintro ⟨m1, m2⟩
        rcases List.mem_cons.mp m1 with z | z
        · exact q z.symm
        · exact m ⟨z, m2⟩
theorem wipeE_get {e : Env} {j : Nat} : ∀ {is : List Nat}, (wipeE e is)[j]? = if j ∈ is ∧ j < e.length then some .no else e[j]?
  | [] => by simp [wipeE]
  | i :: is => by
    have ih := wipeE_get (e := e) (j := j) (is := is)
    have hl : ∀ is : List Nat, (wipeE e is).length = e.length := fun is => by
      induction is with
      | nil => rfl
      | cons a b ih => unfold wipeE; rw [List.length_set]; exact ih
    unfold wipeE
    by_cases q : i = j
    · subst q
      by_cases l : i < e.length
      · rw [List.getElem?_set_self (by rw [hl]; exact l), if_pos ⟨List.mem_cons_self, l⟩]
      · rw [List.getElem?_eq_none (by rw [List.length_set, hl]; omega), if_neg (fun z => l z.2), List.getElem?_eq_none (by omega)]
    · rw [List.getElem?_set_ne q, ih]
      by_cases m : j ∈ is ∧ j < e.length
      · rw [if_pos m, if_pos ⟨List.mem_cons_of_mem _ m.1, m.2⟩]
      · rw [if_neg m, if_neg]
        rintro ⟨m1, m2⟩
        rcases List.mem_cons.mp m1 with z | z
        · exact q z.symm
        · exact m ⟨z, m2⟩
theorem SOk.wipe2 (S : SOk Z N F H σ e) (is : List Nat) : SOk Z N F H (L2.wipe σ is) (wipeE e is) where
  le := S.le
  f0 := S.f0
  h0 := S.h0
  nf := S.nf
  len := by
    rw [wipe_length, S.len]
    induction is with
    | nil => rfl
    | cons a b ih => unfold wipeE; rw [List.length_set]; exact ih
  slot := fun i s h => by
    rw [wipeE_get] at h
    rw [wipe_get]
    split at h
    · rename_i m
      cases h
      rw [if_pos ⟨m.1, by rw [S.len]; exact m.2⟩]
      exact ⟨_, rfl, trivial⟩
    · rename_i m
      rw [if_neg (fun z => m ⟨z.1, by rw [← S.len]; exact z.2⟩)]
      exact S.slot i s h
  sep := fun i j s t a h1 h2 ne o l1 l2 => by
    rw [wipeE_get] at h1 h2
    split at h1
    · cases h1; cases o
    · rename_i m1
      split at h2
      · cases h2; exact l2
      · rename_i m2
        rw [wipe_get, if_neg (fun z => m1 ⟨z.1, by rw [← S.len]; exact z.2⟩)] at l1
        rw [wipe_get, if_neg (fun z => m2 ⟨z.1, by rw [← S.len]; exact z.2⟩)] at l2
        exact S.sep i j s t a h1 h2 ne o l1 l2
  mh := S.mh
  mus := fun i d h => by
    rw [wipeE_get] at h
    split at h
    · cases h
    · rename_i m
      rw [wipe_get, if_neg (fun z => m ⟨z.1, by rw [← S.len]; exact z.2⟩)]
      exact S.mus i d h
  bos := fun i d a r h k => by
    rw [wipeE_get] at h
    split at h
    · cases h
    · rename_i m
      rw [wipe_get, if_neg (fun z => m ⟨z.1, by rw [← S.len]; exact z.2⟩)]
      exact S.bos i d a r h k
  lks := fun i j d a h k l => by
    rw [wipeE_get] at h
    split at h
    · cases h
    · rename_i m
      rw [wipe_get, if_neg (fun z => m ⟨z.1, by rw [← S.len]; exact z.2⟩)] at l
      exact S.lks i j d a h k l
  lkh := S.lkh
theorem wipe_off {σ σ' : St} {is own : List Nat} (h : Off is σ σ') (sub : ∀ i ∈ is, i ∈ own) : wipe σ' own = wipe σ own := by
  apply List.ext_getElem?
  intro j
  rw [wipe_get, wipe_get, h.1]
  by_cases m : j ∈ own ∧ j < σ.length
  · rw [if_pos m, if_pos m]
  · rw [if_neg m, if_neg m]
    by_cases l : j < σ.length
    · exact h.2 j fun z => m ⟨sub j z, l⟩
    · rw [List.getElem?_eq_none (by rw [h.1]; omega), List.getElem?_eq_none (by omega)]
theorem wipe_wipe (σ : St) (own : List Nat) : wipe (wipe σ own) own = wipe σ own := by
  apply List.ext_getElem?
  intro j
  rw [wipe_get, wipe_get, wipe_length]
  split <;> rfl
abbrev W0 : WX := fun _ _ _ _ => False
theorem lc_sound {g : TG} {t : Tg} {own : List Nat} {c : TV} {f : EV} {J : It} {ds ys : List D} {Q : VK} (tk : TgOk Z g t) (sub : ∀ i ∈ tgIx t, i ∈ own) (S : SOk Z N F H σ e) (wk : WalkOk Z N F J ds)
    (hz : ds.length ≤ 16777216) (hl : lcL t c f ds (wipeE (lock e) own) [] = some ys) (P : PostE Z N F σ W Q (.ok (.nw (.lst ys)) e)) : ∀ A, H A = none →
    ∃ Wm : Nat → Nat → Hp → Prop, (∃ m, Wm 0 m (upd H A (.lst []))) ∧ ∀ i m H, Wm i m H → (J.stop i H ∧ Q (.ref A) H) ∨ (J.go i H ∧ ∃ Nx : Hp → Prop, (∀ H', Nx H' → ∃ m', m' < m ∧ Wm (i + 1) m' H') ∧
      ∀ x H', J.yld i H x H' → g x (wipe σ own) H' fun σ2 H2 => wipe σ2 own = wipe σ own ∧ tTv Z W0 c σ2 H2 fun b H3 =>
        if b = true then tEv Z W0 f σ2 H3 fun y H4 => ∃ acc, H4 A = some (.lst acc) ∧ acc.length < sizeLine ∧ Nx (upd H4 A (.lst (acc ++ [y]))) else Nx H3) := by
  intro A hA
  refine ⟨fun i m Hx => m = ds.length - i ∧ i ≤ ds.length ∧ ∃ F' Hm acc accD, Same F F' ∧ SOk Z N F' Hm σ e ∧ Hm A = none ∧ Hx = upd Hm A (.lst acc) ∧ RpA Z F' acc accD ∧ accD.length ≤ i ∧ lcL t c f (ds.drop i) (wipeE (lock e) own) accD = some ys,
    ⟨ds.length, rfl, Nat.zero_le _, F, H, [], [], Same.refl _, S, hA, rfl, .nil, Nat.le_refl _, hl⟩, ?_⟩
  rintro i m _ ⟨rfl, hi, F1, Hm, acc, accD, f1, S1, nA, rfl, ra, hacc, hl1⟩
  have SH : SOk Z N F1 (upd Hm A (.lst acc)) σ e := S1.gr (Gr.lay S1.le nA)
  obtain ⟨w1, w2⟩ := wk F1 _ σ e SH f1 i
  by_cases hlt : i < ds.length
  · have ed : ds.drop i = ds[i] :: ds.drop (i + 1) := List.drop_eq_getElem_cons hlt
    have ei : ds[i]? = some ds[i] := List.getElem?_eq_getElem hlt
    rw [ed] at hl1
    generalize ds[i] = d at hl1 ei
    obtain ⟨go, yl⟩ := w1 d ei
    refine .inr ⟨go, fun Hx => ∃ F' Hm acc accD, Same F F' ∧ SOk Z N F' Hm σ e ∧ Hm A = none ∧ Hx = upd Hm A (.lst acc) ∧ RpA Z F' acc accD ∧ accD.length ≤ i + 1 ∧ lcL t c f (ds.drop (i + 1)) (wipeE (lock e) own) accD = some ys,
      fun H' h => ⟨ds.length - (i + 1), by omega, rfl, hlt, h⟩, fun x H2 hy => ?_⟩
    obtain ⟨F2, g2, r2⟩ := yl x H2 hy
    have S2 := SH.gr g2
    have S3' := S2.lockd.wipe2 own
    unfold lcL at hl1
    cases q : tgt t d (wipeE (lock e) own) with
    | none => rw [q] at hl1; cases hl1
    | some e2 =>
      rw [q] at hl1
      dsimp only at hl1
      refine tk ⟨F2, H2, [], fun _ => none, fun _ => []⟩ F2 H2 (wipe σ own) (wipeE (lock e) own) x d e2 _ S3' r2 q fun σ2 S4 off => ⟨by rw [wipe_off off sub, wipe_wipe], ⟨F2, H2, [], fun _ => none, fun _ => []⟩, F2, e2, S4, ?_⟩
      -- the heap behind the turn, without the new list
      have A2 : H2 A = some (.lst acc) := g2.h _ _ upd_same
      have ntA : NT (HO.lst acc) := fun _ z => by cases z
      have FA : F2 A = none := g2.nf A _ upd_same ntA (none_le S1.le nA)
      have back : ∀ {F3 H3 : Hp} {σ3 : St} {e3 : Env}, SOk Z ⟨F2, H2, [], fun _ => none, fun _ => []⟩ F3 H3 σ3 e3 → H3 A = some (.lst acc) ∧ F3 A = none ∧ ∃ H3m : Hp, SOk Z N F3 H3m σ e ∧ H3m A = none ∧ ∀ o, upd H3 A o = upd H3m A o := by
        intro F3 H3 σ3 e3 T
        have k1 : H3 A = some (.lst acc) := T.h0 A _ A2 (by simp)
        have k2 : F3 A = none := T.nf A _ A2 ntA FA
        refine ⟨k1, k2, fun b => if b = A then none else H3 b, S1.grow (g2.f.trans T.f0) (fun b o hb => ?_) (fun b o hb => ?_) (fun b u hb nt n => ?_), if_pos rfl, fun o => ?_⟩
        · have nb : b ≠ A := ne_of_none hb nA
          rw [if_neg nb]
          exact T.h0 b o (g2.h _ _ (by rw [upd_ne nb]; exact hb)) (by simp)
        · have nb : b ≠ A := fun z => by subst z; rw [k2] at hb; cases hb
          rw [if_neg nb]
          exact T.le _ _ hb
        · have nb : b ≠ A := ne_of_none hb nA
          have hb' : upd Hm A (.lst acc) b = some u := by rw [upd_ne nb]; exact hb
          exact T.nf b u (g2.h _ _ hb') nt (g2.nf b u hb' nt n)
        · funext b
          show (if b = A then some o else H3 b) = (if b = A then some o else (if b = A then none else H3 b))
          by_cases z : b = A
          · rw [if_pos z, if_pos z]
          · rw [if_neg z, if_neg z, if_neg z]
      cases q2 : c e2 with
      | no => rw [q2] at hl1; cases hl1
      | ex z e3 => rw [q2] at hl1; cases hl1
      | ok b e3 =>
        rw [q2] at hl1
        intro F3 H3 f3 T3
        cases b with
        | false =>
          refine iteF ?_
          obtain ⟨k1, k2, H3m, S5, k3, k4⟩ := back T3
          refine ⟨F3, H3m, acc, accD, f1.trans (g2.f.trans f3), S5, k3, ?_, ra.mono (g2.f.trans f3), Nat.le_succ_of_le hacc, hl1⟩
          rw [← k4]
          funext b
          by_cases z : b = A
          · subst z; rw [upd_same, k1]
          · rw [upd_ne z]
        | true =>
          refine iteT ⟨⟨F2, H2, [], fun _ => none, fun _ => []⟩, F3, e3, T3, ?_⟩
          dsimp only at hl1
          cases q3 : f e3 with
          | no => rw [q3] at hl1; cases hl1
          | ex z e4 => rw [q3] at hl1; cases hl1
          | ok r e4 =>
            rw [q3] at hl1
            dsimp only at hl1
            cases q4 : stl r e4 with
            | none => rw [q4] at hl1; cases hl1
            | some pr =>
              obtain ⟨x', e5⟩ := pr
              rw [q4] at hl1
              dsimp only at hl1
              intro v F5 H5 f5 T5 R5
              obtain ⟨F6, f6, T6, r6⟩ := RvOk.stl T5 R5 q4
              obtain ⟨k1, k2, H6m, S6, k3, k4⟩ := back T6
              have ff : Same F1 F6 := g2.f.trans (f3.trans (f5.trans f6))
              refine ⟨acc, k1, ?_, F6, H6m, acc ++ [v], accD ++ [x'], f1.trans ff, S6, k3, k4 _, (ra.mono ff).append (.cons r6 .nil), by rw [List.length_append]; exact Nat.succ_le_succ hacc, hl1⟩
              rw [ra.length, sizeLine_eq]
              omega
  · have e0 : ds.drop i = [] := List.drop_eq_nil_of_le (Nat.le_of_not_lt hlt)
    rw [e0] at hl1
    unfold lcL at hl1
    cases hl1
    refine .inl ⟨w2 (Nat.le_of_not_lt hlt), P (.ref A) F1 _ f1 SH ⟨A, rfl, none_le S1.le nA, S1.nohave nA, ⟨acc, upd_same, ra⟩, fun j s hj l => ?_⟩⟩
    obtain ⟨_, u, hu⟩ := S1.live hj (S1.unlive hj l (Same.refl _) (fun _ _ z => z) fun _ _ _ _ _ _ _ => kp_same (same_upd nA))
    rw [nA] at hu; cases hu
theorem lc_post {g : TG} {t : Tg} {own : List Nat} {w : WV} {c : TV} {f : EV} {Q : VK} (tk : TgOk Z g t) (sub : ∀ i ∈ tgIx t, i ∈ own) (S : SOk Z N F H σ e) (P : PostE Z N F σ W Q (eLc own t w c f e)) : tLc (fun _ _ R => PostW Z N F σ W R (w e)) g (tTv Z W0 c) (tEv Z W0 f) own σ H Q := by
  unfold eLc at P
  show PostW Z N F σ W _ (w e)
  cases q : w e with
  | no => rw [q] at P; exact P
  | ex z e1 => rw [q] at P; exact P
  | ok xs e1 =>
    rw [q] at P
    dsimp only at P
    cases q1 : lcL t c f xs (wipeE (lock e1) own) [] with
    | none => rw [q1] at P; exact P.elim
    | some ys =>
      rw [q1] at P
      dsimp only at P
      split at P
      · rename_i hz
        exact fun J F1 H1 f1 S1 wk => lc_sound tk sub S1 wk hz q1 (PostE.shift P f1)
      · exact P.elim
theorem lc_rd {g : TG} {t : Tg} {own : List Nat} {w : WV} {c : TV} {f : EV} {Q : VK} (tk : TgOk Z g t) (sub : ∀ i ∈ tgIx t, i ∈ own) (h : tEv Z W (eLc own t w c f) σ H Q) : tLc (tWv Z W w) g (tTv Z W0 c) (tEv Z W0 f) own σ H Q :=
  let ⟨N, F, e, S, P⟩ := h
  ⟨N, F, e, S, lc_post tk sub S P⟩
theorem yes_rd {Q : Bool → Hp → Prop} (h : tTv Z W0 tYesS σ H Q) : tYes σ H Q := by
  obtain ⟨N, F, e, S, P⟩ := h
  exact P F H (Same.refl _) S
end
section
variable {ca : Str → Option Addr} {W : WX} {X : Cx} {fe : EV} {w : WV} {c : TV} {elt tg iter : Expr} {ifs : List Expr} {scope : Scope} {own : List (Str × Nat)} {pos : Pos} {g : TG} {t : Tg}
theorem ptv_nil : PTs X [] (tTv (zw ca X) W0 tYesS) := ⟨fun p s σ H Q I h => pts_nil.run p s σ H Q I (yes_rd h)⟩
theorem ev_lc (hc : X.calm = true) (hN : X.N.Nodup) (hi : Wv ca W X tg iter w) (ok : BlkOk X.N X.env.scope scope own) (tk : TgOk (zw ca X) g t) (sub : ∀ i ∈ tgIx t, i ∈ own.map (·.2))
    (hg : ∀ (s : Shared) (H : Hp) (C : Addr) (cl : List (Str × Addr)) (fp : List Addr), PG (X.blk s H scope (compEnvC scope cl C X.env) fp) tg g)
    (ht : ∀ (s : Shared) (H : Hp) (C : Addr) (cl : List (Str × Addr)) (fp : List Addr), PTs (X.blk s H scope (compEnvC scope cl C X.env) fp) ifs (tTv (zw ca X) W0 c))
    (he : ∀ (s : Shared) (H : Hp) (C : Addr) (cl : List (Str × Addr)) (fp : List Addr), Ev ca W0 (X.blk s H scope (compEnvC scope cl C X.env) fp) elt fe) (hs : ∀ x, foldedSetIterable iter X.env x = pure x := by intro _; rfl) :
    Ev ca W X (.ListComp elt [⟨tg, iter, ifs, 0⟩] scope pos) (eLc (own.map (·.2)) t w c fe) :=
  PE_imp (pe_lc hc hN hi ok hg ht he hs) fun _ _ _ => lc_rd tk sub
theorem sv_setLc (i : Nat) {y : Str} {py spos : Pos} (hc : X.calm = true) (hN : X.N.Nodup) (hyl : X.env.scope.names.lookup y = some .local) (hsw : swapsWith (.ListComp elt [⟨tg, iter, ifs, 0⟩] scope pos) (some (.Name y py)) spos.line X.env = pure true)
    (hi : Wv ca W X tg iter w) (ok : BlkOk X.N X.env.scope scope own) (tk : TgOk (zw ca X) g t) (sub : ∀ i ∈ tgIx t, i ∈ own.map (·.2))
    (hg : ∀ (s : Shared) (H : Hp) (C : Addr) (cl : List (Str × Addr)) (fp : List Addr), PG (X.blk s H scope (compEnvC scope cl C X.env) fp) tg g)
    (ht : ∀ (s : Shared) (H : Hp) (C : Addr) (cl : List (Str × Addr)) (fp : List Addr), PTs (X.blk s H scope (compEnvC scope cl C X.env) fp) ifs (tTv (zw ca X) W0 c))
    (he : ∀ (s : Shared) (H : Hp) (C : Addr) (cl : List (Str × Addr)) (fp : List Addr), Ev ca W0 (X.blk s H scope (compEnvC scope cl C X.env) fp) elt fe) (hy : X.N[i]? = some y := by rfl) (hs : ∀ x, foldedSetIterable iter X.env x = pure x := by intro _; rfl) :
    Sv ca W X (.Assign [.Name y py] (.ListComp elt [⟨tg, iter, ifs, 0⟩] scope pos) spos) (sSet i (eLc (own.map (·.2)) t w c fe)) :=
  PS_imp (ps_setLc hc hN hy hyl hsw hi ok hg ht he hs) fun D σ H h => by
    have h2 := st_set h
    exact lc_rd tk sub h2
end
end S3

/-! C1: defs: what a def promises, how it is called, how its body shows it. -/
namespace S3
open PySem L2
section
variable {Z : Wd} {F F' H H' : Hp} {N : En} {σ : St} {e e' : Env} {W : WX}
/-- the arguments, by their modes -/
inductive ArgsOk (Z : Wd) (F H : Hp) : List Md → List V → List D → Prop
  | nil : ArgsOk Z F H [] [] []
  | v {ms : List Md} {x : V} {vs : List V} {d : D} {ds : List D} : Rp Z F x d → ArgsOk Z F H ms vs ds → ArgsOk Z F H (.v :: ms) (x :: vs) (d :: ds)
  | r {ms : List Md} {x : V} {vs : List V} {d : D} {ds : List D} : RdV Z F H x d → ArgsOk Z F H ms vs ds → ArgsOk Z F H (.r :: ms) (x :: vs) (d :: ds)
  | m {ms : List Md} {a : Addr} {vs : List V} {d : D} {ds : List D} : F a = none → Top Z F H a d → ArgsOk Z F H ms vs ds → ArgsOk Z F H (.m :: ms) (.ref a :: vs) (d :: ds)
/-- a lent place: the slot that a parameter begins as -/
def pSl (m : Md) (d : D) : Sl := match m with | .v => .fz d | .r => .bo d | .m => .mu d
/-- the place of the i-th parameter, if it may be changed -/
def mAt (ms : List Md) (vs : List V) (i : Nat) : Option Addr := match ms[i]?, vs[i]? with
  | some .m, some (.ref a) => some a
  | _, _ => none
def mSet : List Md → List V → List Addr
  | .m :: ms, .ref a :: vs => a :: mSet ms vs
  | _ :: ms, _ :: vs => mSet ms vs
  | _, _ => []
theorem mem_mSet : ∀ {ms : List Md} {vs : List V} {a : Addr}, a ∈ mSet ms vs ↔ ∃ i, mAt ms vs i = some a
  | [], vs, a => by simp [mSet, mAt]
  | m :: ms, [], a => by cases m <;> simp [mSet, mAt]
  | m :: ms, v :: vs, a => by
    have ih := mem_mSet (ms := ms) (vs := vs) (a := a)
    have sh : ∀ i, mAt (m :: ms) (v :: vs) (i + 1) = mAt ms vs i := fun i => by simp [mAt]
    have h0 : ∀ b, (m = .m ∧ v = .ref b) ↔ mAt (m :: ms) (v :: vs) 0 = some b := fun b => by
      cases m <;> cases v <;> simp [mAt]
    have split : (∃ i, mAt (m :: ms) (v :: vs) i = some a) ↔ (m = .m ∧ v = .ref a) ∨ ∃ i, mAt ms vs i = some a := by
      constructor
      · rintro ⟨i, hi⟩
        cases i with
        | zero => exact .inl ((h0 a).mpr hi)
        | succ i => rw [sh] at hi; exact .inr ⟨i, hi⟩
      · rintro (h | ⟨i, hi⟩)
        · exact ⟨0, (h0 a).mp h⟩
        · exact ⟨i + 1, by rw [sh]; exact hi⟩
    rw [split]
    cases m <;> cases v <;> simp [mSet, ih] <;> try (constructor <;> intro h <;> simpa using h)
    all_goals (constructor <;> (rintro (h | h)) <;> first | exact .inl h.symm | exact .inr h)
/-- no place that may be changed is handed on twice -/
def ApartV (Z : Wd) (F H : Hp) (ms : List Md) (vs : List V) (ds : List D) : Prop :=
  ∀ i j a m d, i ≠ j → mAt ms vs i = some a → ms[j]? = some m → ds[j]? = some d → Live Z F H (vs[j]?) (pSl m d) a → False
/-- the heap behind a call -/
structure CGr (F H : Hp) (M : List Addr) (F' H' : Hp) : Prop where
  f : Same F F'
  le : Same F' H'
  h : ∀ b o, H b = some o → b ∉ M → H' b = some o
  nf : ∀ b o, H b = some o → NT o → F b = none → F' b = none
inductive OutsOk (Z : Wd) (F H : Hp) : List Md → List V → List D → Prop
  | nil : OutsOk Z F H [] [] []
  | v {ms : List Md} {x : V} {vs : List V} {ds : List D} : OutsOk Z F H ms vs ds → OutsOk Z F H (.v :: ms) (x :: vs) ds
  | r {ms : List Md} {x : V} {vs : List V} {ds : List D} : OutsOk Z F H ms vs ds → OutsOk Z F H (.r :: ms) (x :: vs) ds
  | m {ms : List Md} {a : Addr} {vs : List V} {d : D} {ds : List D} : Top Z F H a d → OutsOk Z F H ms vs ds → OutsOk Z F H (.m :: ms) (.ref a :: vs) (d :: ds)
def ResOk (Z : Wd) (H F' H' : Hp) (n : Bool) (v : V) (d : D) : Prop := if n = true then ∃ a, v = .ref a ∧ H a = none ∧ F' a = none ∧ Top Z F' H' a d else Rp Z F' v d
def PostC (Z : Wd) (F H : Hp) (ms : List Md) (vs : List V) (Q : VK) (E : XK) : RC → Prop
  | .no => False
  | .ok n d outs => ∀ v F' H', CGr F H (mSet ms vs) F' H' → OutsOk Z F' H' ms vs outs → ResOk Z H F' H' n v d → Q v H'
  | .ex x outs => ∀ cls dd F' H', CGr F H (mSet ms vs) F' H' → OutsOk Z F' H' ms vs outs → ExOk Z F' H' x cls dd → E cls dd H'
  | .dp d outs => ∀ v F' H', CGr F H (mSet ms vs) F' H' → OutsOk Z F' H' ms vs outs → (∃ R, OwT Z F' H' R v (.ob d) ∧ ∀ b ∈ R, H b = none) → Q v H'
/-- THE PROMISE of a def that does phi -/
def spOf (Z : Wd) (ms : List Md) (phi : List D → RC) : Sp := fun vs H Q E => ∃ F ds, Same F H ∧ ArgsOk Z F H ms vs ds ∧ ApartV Z F H ms vs ds ∧ PostC Z F H ms vs Q E (phi ds)

theorem ArgsOk.lens {ms : List Md} {vs : List V} {ds : List D} (h : ArgsOk Z F H ms vs ds) : vs.length = ms.length ∧ ds.length = ms.length := by
  induction h with
  | nil => exact ⟨rfl, rfl⟩
  | v _ _ ih => exact ⟨congrArg Nat.succ ih.1, congrArg Nat.succ ih.2⟩
  | r _ _ ih => exact ⟨congrArg Nat.succ ih.1, congrArg Nat.succ ih.2⟩
  | m _ _ _ ih => exact ⟨congrArg Nat.succ ih.1, congrArg Nat.succ ih.2⟩
theorem ArgsOk.at : ∀ {ms : List Md} {vs : List V} {ds : List D} {i : Nat} {m : Md} {d : D}, ArgsOk Z F H ms vs ds → ms[i]? = some m → ds[i]? = some d →
    ∃ v, vs[i]? = some v ∧ (match m with | .v => Rp Z F v d | .r => RdV Z F H v d | .m => ∃ a, v = .ref a ∧ F a = none ∧ Top Z F H a d)
  | _, _, _, _, _, _, .nil, h, _ => by simp at h
  | _, _, _, 0, _, _, .v a _, h, k => by simp at h k; subst h k; exact ⟨_, rfl, a⟩
  | _, _, _, 0, _, _, .r a _, h, k => by simp at h k; subst h k; exact ⟨_, rfl, a⟩
  | _, _, _, 0, _, _, .m a b _, h, k => by simp at h k; subst h k; exact ⟨_, rfl, _, rfl, a, b⟩
  | _, _, _, i + 1, _, _, .v a t, h, k => by
    obtain ⟨v, h1, h2⟩ := ArgsOk.at (i := i) t (by simpa using h) (by simpa using k)
    exact ⟨v, by simpa using h1, h2⟩
  | _, _, _, i + 1, _, _, .r a t, h, k => by
    obtain ⟨v, h1, h2⟩ := ArgsOk.at (i := i) t (by simpa using h) (by simpa using k)
    exact ⟨v, by simpa using h1, h2⟩
  | _, _, _, i + 1, _, _, .m a b t, h, k => by
    obtain ⟨v, h1, h2⟩ := ArgsOk.at (i := i) t (by simpa using h) (by simpa using k)
    exact ⟨v, by simpa using h1, h2⟩

/-! ### the body -/
theorem startE_get {ms : List Md} {ds : List D} {n i : Nat} {s : Sl} (hl : ds.length = ms.length) (h : (startE ms ds n)[i]? = some s) :
    (∃ m d, ms[i]? = some m ∧ ds[i]? = some d ∧ s = pSl m d) ∨ (ms.length ≤ i ∧ s = .no) := by
  unfold startE at h
  by_cases q : i < ms.length
  · rw [List.getElem?_append_left (by rw [List.length_map, List.length_zip, hl]; omega), List.getElem?_map, Option.map_eq_some_iff] at h
    obtain ⟨⟨m, d⟩, h1, rfl⟩ := h
    rw [List.getElem?_zip_eq_some] at h1
    exact .inl ⟨m, d, h1.1, h1.2, by cases m <;> rfl⟩
  · rw [List.getElem?_append_right (by rw [List.length_map, List.length_zip, hl]; omega), List.getElem?_replicate] at h
    split at h
    · cases h; exact .inr ⟨by omega, rfl⟩
    · cases h
theorem start_get {Nm : List Str} {vs : List V} {i : Nat} {v : V} (h : vs[i]? = some v) : (L2.start Nm vs)[i]? = some (some v) := by
  unfold L2.start
  rw [List.getElem?_append_left (by rw [List.length_map]; exact (List.getElem?_eq_some_iff.mp h).1), List.getElem?_map, h]
  rfl
/-- the frame's state at the entry -/
theorem start_ok {ms : List Md} {vs : List V} {ds : List D} {Nm : List Str} {n : Nat} (l : Same F H) (a : ArgsOk Z F H ms vs ds) (ap : ApartV Z F H ms vs ds) (hn : Nm.length = n) (hm : ms.length ≤ n) :
    SOk Z ⟨F, H, mSet ms vs, mAt ms vs, fun _ => []⟩ F H (L2.start Nm vs) (startE ms ds n) where
  le := l
  f0 := Same.refl _
  h0 := fun _ _ h _ => h
  nf := fun _ _ _ _ h => h
  len := by
    obtain ⟨h1, h2⟩ := a.lens
    unfold L2.start startE
    simp only [List.length_append, List.length_map, List.length_replicate, List.length_zip, h1, h2, hn]
    omega
  slot := fun i s h => by
    obtain ⟨h1, h2⟩ := a.lens
    rcases startE_get h2 h with ⟨m, d, k1, k2, rfl⟩ | ⟨k, rfl⟩
    · obtain ⟨v, g1, g2⟩ := a.at k1 k2
      refine ⟨_, start_get g1, ?_⟩
      cases m with
      | v => exact ⟨v, rfl, g2⟩
      | r =>
        refine ⟨v, rfl, ?_⟩
        by_cases rr : Rp Z F v d
        · exact .inl rr
        · rcases g2 with g2 | ⟨b, rfl, f, t⟩
          · exact (rr g2).elim
          · refine .inr ⟨b, rfl, f, t.there, fun hm => ?_, t⟩
            obtain ⟨j, hj⟩ := mem_mSet.mp hm
            have ne : j ≠ i := by
              rintro rfl
              unfold mAt at hj
              rw [k1] at hj
              cases hj
            refine ap j i b .r d ne hj k1 k2 ?_
            rw [g1]
            exact ⟨rfl, rr⟩
      | m =>
        obtain ⟨b, rfl, f, t⟩ := g2
        exact ⟨b, rfl, f, mem_mSet.mpr ⟨i, by unfold mAt; rw [k1, g1]⟩, t⟩
    · have hi : i < (startE ms ds n).length := (List.getElem?_eq_some_iff.mp h).1
      have hl : i < (L2.start Nm vs).length := by
        unfold L2.start startE at *
        simp only [List.length_append, List.length_map, List.length_replicate, List.length_zip, h1, h2, hn] at hi ⊢
        omega
      exact ⟨_, List.getElem?_eq_getElem hl, trivial⟩
  sep := fun i j s t b h1 h2 ne o l1 l2 => by
    obtain ⟨k1, k2⟩ := a.lens
    rcases startE_get k2 h1 with ⟨m, d, g1, g2, rfl⟩ | ⟨_, rfl⟩
    · cases m <;> try (cases o; done)
      obtain ⟨v, e1, b', rfl, f, t'⟩ := a.at g1 g2
      rcases startE_get k2 h2 with ⟨m2, d2, g3, g4, rfl⟩ | ⟨_, rfl⟩
      · obtain ⟨v2, e2, _⟩ := a.at g3 g4
        rw [start_get e1] at l1
        rw [start_get e2] at l2
        cases l1
        exact ap i j _ m2 d2 ne (by unfold mAt; rw [g1, e1]) g3 g4 (by rw [e2]; exact l2)
      · exact l2
    · cases o
  mh := fun b hb => by
    obtain ⟨i, hi⟩ := mem_mSet.mp hb
    unfold mAt at hi
    cases q1 : ms[i]? with
    | none => rw [q1] at hi; cases hi
    | some m =>
      have li : i < ds.length := by rw [a.lens.2]; exact (List.getElem?_eq_some_iff.mp q1).1
      obtain ⟨v, e1, g⟩ := a.at q1 (List.getElem?_eq_getElem li)
      rw [q1, e1] at hi
      cases m <;> cases v <;> cases hi
      obtain ⟨b', e2, f, t⟩ := g
      cases e2
      exact ⟨f, t.thereN, t.there⟩
  mus := fun i d h => by
    obtain ⟨k1, k2⟩ := a.lens
    rcases startE_get k2 h with ⟨m, d2, g1, g2, q⟩ | ⟨_, q⟩
    · cases m <;> cases q
      obtain ⟨v, e1, b, rfl, f, t⟩ := a.at g1 g2
      exact ⟨b, start_get e1, by show mAt ms vs i = _; unfold mAt; rw [g1, e1]⟩
    · cases q
  bos := fun i d a r h k => by cases k
  lks := fun i j d a h m l => by cases m
  lkh := fun j a m => by cases m
/-- the lent parameters' values at the end -/
theorem outs_ok : ∀ {ms : List Md} {vs : List V} {e : Env} {outs : List D} (k : Nat) (σ : St), vs.length = ms.length →
    (∀ i d, e[i]? = some (.mu d) → ∃ a, σ[k + i]? = some (some (.ref a)) ∧ mAt ms vs i = some a ∧ Top Z F H a d) → outsE ms e = some outs → OutsOk Z F H ms vs outs
  | [], [], _, _, _, _, _, _, h => by simp only [outsE] at h; cases h; exact .nil
  | m :: ms, v :: vs, e, outs, k, σ, hl, hm, h => by
    have rest : ∀ {e2 : Env} {s : Sl} {o : List D}, e = s :: e2 → outsE ms e2 = some o → OutsOk Z F H ms vs o := fun {e2 s o} he ho =>
      outs_ok (k + 1) σ (Nat.succ.inj hl) (fun i d hi => by
        obtain ⟨a, h1, h2, h3⟩ := hm (i + 1) d (by rw [he]; simpa using hi)
        exact ⟨a, by rw [show k + 1 + i = k + (i + 1) by omega]; exact h1, by simpa [mAt] using h2, h3⟩) ho
    cases m with
    | v => cases e with
      | nil => cases h
      | cons s e2 => exact .v (rest rfl h)
    | r => cases e with
      | nil => cases h
      | cons s e2 => exact .r (rest rfl h)
    | m => cases e with
      | nil => cases h
      | cons s e2 =>
        cases s <;> simp only [outsE] at h <;> try (cases h; done)
        rw [Option.map_eq_some_iff] at h
        obtain ⟨o, h1, rfl⟩ := h
        obtain ⟨a, g1, g2, g3⟩ := hm 0 _ rfl
        cases v <;> simp [mAt] at g2
        subst g2
        exact .m g3 (rest rfl h1)
theorem SOk.cgr {ms : List Md} {vs : List V} (S : SOk Z ⟨F, H, mSet ms vs, mAt ms vs, fun _ => []⟩ F' H' σ e) : CGr F H (mSet ms vs) F' H' := ⟨S.f0, S.le, S.h0, S.nf⟩
theorem SOk.outs {ms : List Md} {vs : List V} {outs : List D} (S : SOk Z ⟨F, H, mSet ms vs, mAt ms vs, fun _ => []⟩ F' H' σ e) (hl : vs.length = ms.length) (h : outsE ms e = some outs) : OutsOk Z F' H' ms vs outs :=
  outs_ok 0 σ hl (fun i d hi => by
    obtain ⟨a, h1, h2⟩ := S.mus i d hi
    obtain ⟨o, g1, b, rfl, f, m, t⟩ := S.slot i _ hi
    rw [h1] at g1
    cases g1
    exact ⟨a, by rw [Nat.zero_add]; exact h1, h2, t⟩) h
/-- the body's end is the def's end -/
theorem body_end {ms : List Md} {vs : List V} {r : RS} {Q : VK} {E : XK} (hl : vs.length = ms.length) (P : PostC Z F H ms vs Q E (finish ms r)) :
    PostS Z ⟨F, H, mSet ms vs, mAt ms vs, fun _ => []⟩ F (fun cls d _ H => E cls d H) { nx := fun _ H' => Q .non H', rt := Q } r := by
  cases r with
  | no => exact P
  | bk e => exact P.elim
  | ct e => exact P.elim
  | nx e =>
    unfold finish at P
    dsimp only at P
    cases q : outsE ms e with
    | none => rw [q] at P; exact P.elim
    | some o => rw [q] at P; exact fun F' H' σ' f S => P .non F' H' S.cgr (S.outs hl q) (by unfold ResOk; rw [if_neg Bool.false_ne_true]; exact .non)
  | ex x e =>
    unfold finish at P
    dsimp only at P
    cases q : outsE ms e with
    | none => rw [q] at P; exact P.elim
    | some o => rw [q] at P; exact fun cls d F' H' σ' f S k => P cls d F' H' S.cgr (S.outs hl q) k
  | rt r e =>
    unfold finish at P
    cases r with
    | «at» i => exact P.elim
    | fz d =>
      dsimp only at P
      cases q : outsE ms e with
      | none => rw [q] at P; exact P.elim
      | some o => rw [q] at P; exact fun v F' H' σ' f S k => P v F' H' S.cgr (S.outs hl q) (by unfold ResOk; rw [if_neg Bool.false_ne_true]; exact k)
    | nw d =>
      dsimp only at P
      cases q : outsE ms e with
      | none => rw [q] at P; exact P.elim
      | some o =>
        rw [q] at P
        intro v F' H' σ' f S k
        obtain ⟨a, rfl, fa, na, t, _⟩ := k
        exact P _ F' H' S.cgr (S.outs hl q) (by unfold ResOk; rw [if_pos rfl]; exact ⟨a, rfl, na, fa, t⟩)
    | dn d =>
      dsimp only at P
      cases q : outsE ms e with
      | none => rw [q] at P; exact P.elim
      | some o =>
        rw [q] at P
        intro v F' H' σ' f S k
        obtain ⟨R, t, na, _⟩ := k
        exact P _ F' H' S.cgr (S.outs hl q) ⟨R, t, na⟩
end
section
variable {P : Program} {w : World} {K : PySem.W.Frag} {mg : Str → Option Value} {base : Heap}
open PySem.Spec PyProof.Rows in
/-- THE RULE: a def of the text keeps the promise of its term -/
theorem fn_ok {ca : Str → Option Addr} {x qual : Str} {st : Stmt} {f : Addr} {fd : FuncData} {Nm ps : List Str} {k : Nat} {T : Def} {phi : String → List D → RC} (Fn : L2.Fun K x qual st f fd) (S : FnScope Nm ps (defScope st)) (hps : ps.length = T.ms.length) (hn : Nm.length = T.n) (hm : T.ms.length ≤ T.n)
    (body : ∀ (cdv : Value) (A : Around) (outer : List PySem.Env) (s : Shared) (H : Hp) (E : XK), Room k (A.deeper (envOfC qual (defScope st) s.heap.objs.size f cdv)) →
      Takes (cxOf (L2.CX P w) P w K mg base Nm qual (defScope st) f cdv A outer s H E) (fun cls d _ H => E cls d H) →
      PassesOwn (model P w) (cxOf (L2.CX P w) P w K mg base Nm qual (defScope st) f cdv A outer s H E).A (cxOf (L2.CX P w) P w K mg base Nm qual (defScope st) f cdv A outer s H E).env (cxOf (L2.CX P w) P w K mg base Nm qual (defScope st) f cdv A outer s H E).xe →
      PySem.W.kdsCode K cdv = true → Bv ca (fun cls d _ H => E cls d H) (cxOf (L2.CX P w) P w K mg base Nm qual (defScope st) f cdv A outer s H E) (defBody st) (T.body phi)) :
    FnOk P w K mg base (L2.CX P w) (k + 1) f fd ps (spOf ⟨P, w, K, ca⟩ T.ms (T.run phi)) := by
  obtain ⟨oc, od, kV, doc, pm, an, cdv, ct, osl, rfl, lk, hcd⟩ := Fn.ex
  refine fn_of lk hcd S (fun vs H Q E ⟨F, ds, l, a, _⟩ => by rw [a.lens.1, hps]) fun A outer s H vs Q E hr ⟨F, ds, l, a, ap, P⟩ => ?_
  refine ⟨_, body cdv A outer s H E hr (takes_of rfl rfl rfl rfl) (passes_of rfl) (kdsCode_of hcd), ⟨F, H, mSet T.ms vs, mAt T.ms vs, fun _ => []⟩, F, startE T.ms ds T.n, start_ok l a ap hn hm, ?_⟩
  unfold Def.run at P
  rw [if_pos a.lens.2] at P
  exact body_end a.lens.1 P
end
end S3

/-! C2: a def called. -/
namespace S3
open PySem L2
section
variable {Z : Wd} {F F' H H' : Hp} {N : En} {σ : St} {e e' : Env} {W : WX}
theorem args_ok (S : SOk Z N F H σ e) : ∀ {ms : List Md} {rs : List RV} {vs : List V} {ds : List D}, Helds Z F σ vs rs → argD ms rs e = some ds → ArgsOk Z F H ms vs ds
  | [], [], _, _, h, q => by cases h; simp only [argD] at q; cases q; exact .nil
  | [], _ :: _, _, _, _, q => by simp only [argD] at q; cases q
  | m :: ms, [], _, _, _, q => by cases m <;> simp only [argD] at q <;> cases q
  | m :: ms, r :: rs, _, _, h, q => by
    cases h with
    | cons h1 h2 =>
      cases m with
      | v =>
        cases r <;> simp only [argD] at q <;> try (cases q; done)
        rw [Option.map_eq_some_iff] at q
        obtain ⟨ds, q1, rfl⟩ := q
        exact .v h1 (args_ok S h2 q1)
      | r =>
        simp only [argD] at q
        cases d1 : S3.rd r e with
        | none => rw [d1] at q; cases q
        | some d =>
          rw [d1] at q
          dsimp only at q
          rw [Option.map_eq_some_iff] at q
          obtain ⟨ds, q1, rfl⟩ := q
          exact .r (h1.rd S d1) (args_ok S h2 q1)
      | m =>
        cases r <;> simp only [argD] at q <;> try (cases q; done)
        rename_i i
        cases d1 : S3.slot e i <;> rw [d1] at q <;> dsimp only at q <;> try (cases q; done)
        all_goals
          rw [Option.map_eq_some_iff] at q
          obtain ⟨ds, q1, rfl⟩ := q
          obtain ⟨a, g1, g2, g3, _⟩ := own_at S d1 rfl rfl
          have h1' : σ[i]? = some (some _) := h1
          rw [g1] at h1'
          cases h1'
          exact .m g2 g3 (args_ok S h2 q1)
theorem held_at : ∀ {vs : List V} {rs : List RV} {j : Nat} {v : V}, Helds Z F σ vs rs → vs[j]? = some v → ∃ r, rs[j]? = some r ∧ Held Z F σ v r
  | _, _, _, _, .nil, h => by simp at h
  | _, _, 0, _, .cons a _, h => by simp at h; subst h; exact ⟨_, rfl, a⟩
  | _, _, j + 1, _, .cons _ t, h => by
    obtain ⟨r, h1, h2⟩ := held_at (j := j) t (by simpa using h)
    exact ⟨r, by simpa using h1, h2⟩
def ArgAt (e : Env) (m : Md) (r : RV) (d : D) : Prop := match m with
  | .v => r = .fz d
  | .r => S3.rd r e = some d
  | .m => ∃ i, r = .at i ∧ (S3.slot e i).own = true ∧ (S3.slot e i).val = some d
theorem argD_at : ∀ {ms : List Md} {rs : List RV} {ds : List D} {j : Nat} {m : Md} {r : RV} {d : D}, argD ms rs e = some ds → ms[j]? = some m → rs[j]? = some r → ds[j]? = some d →
    ArgAt e m r d
  | [], _, _, _, _, _, _, _, h, _, _ => by simp at h
  | m :: ms, [], _, _, _, _, _, q, _, _, _ => by cases m <;> simp only [argD] at q <;> cases q
  | m :: ms, r :: rs, ds, j, _, _, _, q, h1, h2, h3 => by
    have key : ∃ d ds', ds = d :: ds' ∧ argD ms rs e = some ds' ∧ ArgAt e m r d := by
      cases m with
      | v =>
        cases r <;> simp only [argD] at q <;> try (cases q; done)
        rw [Option.map_eq_some_iff] at q
        obtain ⟨ds', q1, rfl⟩ := q
        exact ⟨_, _, rfl, q1, rfl⟩
      | r =>
        simp only [argD] at q
        cases d1 : S3.rd r e with
        | none => rw [d1] at q; cases q
        | some d =>
          rw [d1] at q
          dsimp only at q
          rw [Option.map_eq_some_iff] at q
          obtain ⟨ds', q1, rfl⟩ := q
          exact ⟨_, _, rfl, q1, d1⟩
      | m =>
        cases r <;> simp only [argD] at q <;> try (cases q; done)
        rename_i i
        cases d1 : S3.slot e i <;> rw [d1] at q <;> dsimp only at q <;> try (cases q; done)
        all_goals
          rw [Option.map_eq_some_iff] at q
          obtain ⟨ds', q1, rfl⟩ := q
          exact ⟨_, _, rfl, q1, i, rfl, by rw [d1]; rfl, by rw [d1]; rfl⟩
    obtain ⟨d, ds', rfl, q1, k⟩ := key
    cases j with
    | zero => simp at h1 h2 h3; subst h1 h2 h3; exact k
    | succ j => exact argD_at (j := j) q1 (by simpa using h1) (by simpa using h2) (by simpa using h3)
theorem mutIx_mem : ∀ {ms : List Md} {rs : List RV} {i p : Nat}, ms[i]? = some .m → rs[i]? = some (.at p) → p ∈ mutIx ms rs
  | [], _, _, _, h, _ => by simp at h
  | _ :: _, [], _, _, _, h => by simp at h
  | m :: ms, r :: rs, 0, p, h1, h2 => by simp at h1 h2; subst h1 h2; exact List.mem_cons_self
  | m :: ms, r :: rs, i + 1, p, h1, h2 => by
    have ih := mutIx_mem (ms := ms) (rs := rs) (i := i) (p := p) (by simpa using h1) (by simpa using h2)
    cases m <;> cases r <;> simp only [mutIx] <;> first | exact ih | exact List.mem_cons_of_mem _ ih
theorem atIx_count1 : ∀ {rs : List RV} {i p : Nat}, rs[i]? = some (.at p) → 1 ≤ (atIx rs).count p
  | [], _, _, h => by simp at h
  | r :: rs, 0, p, h => by simp at h; subst h; simp [atIx]
  | r :: rs, i + 1, p, h => by
    have ih := atIx_count1 (rs := rs) (i := i) (p := p) (by simpa using h)
    cases r <;> simp only [atIx] <;> first | exact ih | (rw [List.count_cons]; omega)
theorem atIx_count2 : ∀ {rs : List RV} {i j p : Nat}, i < j → rs[i]? = some (.at p) → rs[j]? = some (.at p) → 2 ≤ (atIx rs).count p
  | [], _, _, _, _, h, _ => by simp at h
  | r :: rs, 0, 0, _, l, _, _ => absurd l (Nat.lt_irrefl _)
  | r :: rs, i + 1, 0, _, l, _, _ => absurd l (Nat.not_lt_zero _)
  | r :: rs, 0, j + 1, p, _, h, k => by
    simp at h
    subst h
    have := atIx_count1 (rs := rs) (i := j) (p := p) (by simpa using k)
    simp only [atIx, List.count_cons_self]
    omega
  | r :: rs, i + 1, j + 1, p, l, h, k => by
    have ih := atIx_count2 (rs := rs) (i := i) (j := j) (p := p) (by omega) (by simpa using h) (by simpa using k)
    cases r <;> simp only [atIx] <;> first | exact ih | (rw [List.count_cons]; omega)
theorem apart_no {ms : List Md} {rs : List RV} {i j p : Nat} (h : apart ms rs = true) (hm : ms[i]? = some .m) (h1 : rs[i]? = some (.at p)) (h2 : rs[j]? = some (.at p)) (ne : i ≠ j) : False := by
  unfold apart at h
  have q := List.all_eq_true.mp h p (mutIx_mem hm h1)
  rw [beq_iff_eq] at q
  rcases Nat.lt_or_gt_of_ne ne with l | l
  · have := atIx_count2 l h1 h2; omega
  · have := atIx_count2 l h2 h1; omega
theorem apart_ok (S : SOk Z N F H σ e) {ms : List Md} {rs : List RV} {vs : List V} {ds : List D} (hl : Helds Z F σ vs rs) (q : argD ms rs e = some ds) (ap : apart ms rs = true) : ApartV Z F H ms vs ds := by
  intro i j a m d ne hi hj hd lv
  have A := args_ok S hl q
  unfold mAt at hi
  cases q1 : ms[i]? with
  | none => rw [q1] at hi; cases hi
  | some mi =>
    cases q2 : vs[i]? with
    | none => rw [q1, q2] at hi; cases mi <;> cases hi
    | some vi =>
      rw [q1, q2] at hi
      cases mi <;> cases vi <;> cases hi
      have li : i < ds.length := by rw [A.lens.2]; exact (List.getElem?_eq_some_iff.mp q1).1
      obtain ⟨ri, g1, g2⟩ := held_at hl q2
      obtain ⟨p, e1, ho, hv⟩ := argD_at q q1 g1 (List.getElem?_eq_getElem li)
      subst e1
      have g2' : σ[p]? = some (some (.ref a)) := g2
      have np : S3.slot e p ≠ .no := fun z => by rw [z] at ho; cases ho
      have gp := slot_get rfl np
      have lp : Live Z F H ((σ[p]?).join) (S3.slot e p) a := by
        rw [g2']
        cases q5 : S3.slot e p <;> rw [q5] at ho <;> first | rfl | cases ho
      obtain ⟨vj, hvj, _⟩ := A.at hj hd
      rw [hvj] at lv
      obtain ⟨rj, k1, k2⟩ := held_at hl hvj
      have kd := argD_at q hj k1 hd
      have atj : ∀ p2, rj = .at p2 → vj = .ref a → (∀ x, S3.slot e p2 = .fz x → x = d) → (∀ x, S3.slot e p2 = .bo x → x = d) → ¬ Rp Z F (.ref a) d ∨ (S3.slot e p2).own = true → False := by
        intro p2 e2 e3 z1 z3 z2
        subst e2 e3
        have k2' : σ[p2]? = some (some (.ref a)) := k2
        by_cases pp : p = p2
        · subst pp; exact apart_no ap q1 g1 k1 ne
        · cases q6 : S3.slot e p2 with
          | no =>
            cases m with
            | v => cases kd
            | r => have kd' : (S3.slot e p2).val = some d := kd; rw [q6] at kd'; cases kd'
            | m => obtain ⟨_, e5, o5, _⟩ := kd; cases e5; rw [q6] at o5; cases o5
          | fz x =>
            have e7 := z1 x q6
            subst e7
            obtain ⟨o, h1, w, rfl, r⟩ := S.slot p2 _ (slot_get q6 (by intro z; cases z))
            rw [k2'] at h1
            cases h1
            rcases z2 with z2 | z2
            · exact z2 r
            · rw [q6] at z2; cases z2
          | bo x =>
            have e7 := z3 x q6
            subst e7
            rcases z2 with z2 | z2
            · exact S.sep p p2 _ _ a gp (slot_get q6 (by intro z; cases z)) pp (Sl.own_ex ho) lp (by rw [k2']; exact ⟨rfl, z2⟩)
            · rw [q6] at z2; cases z2
          | ow x => exact S.sep p p2 _ _ a gp (slot_get q6 (by intro z; cases z)) pp (Sl.own_ex ho) lp (by rw [k2']; rfl)
          | mu x => exact S.sep p p2 _ _ a gp (slot_get q6 (by intro z; cases z)) pp (Sl.own_ex ho) lp (by rw [k2']; rfl)
          | dp g x =>
            cases m with
            | v => cases kd
            | r => have kd' : (S3.slot e p2).val = some d := kd; rw [q6] at kd'; cases kd'
            | m => obtain ⟨_, e5, o5, _⟩ := kd; cases e5; rw [q6] at o5; cases o5
      cases m with
      | v => exact lv
      | r =>
        obtain ⟨e3, nr⟩ := lv
        cases e3
        cases rj with
        | fz x => cases kd; exact nr k2
        | nw x => cases kd; exact nr k2
        | «at» p2 =>
          have kd' : (S3.slot e p2).val = some d := kd
          exact atj p2 rfl rfl (fun x hx => by rw [hx] at kd'; exact Option.some.inj kd') (fun x hx => by rw [hx] at kd'; exact Option.some.inj kd') (.inl nr)
        | dn x => cases kd
      | m =>
        have e3 : some vj = some (.ref a) := lv
        cases e3
        obtain ⟨p2, e5, o5, v5⟩ := kd
        subst e5
        exact atj p2 rfl rfl (fun x hx => by rw [hx] at o5; cases o5) (fun x hx => by rw [hx] at o5; cases o5) (.inr o5)

/-! the slots behind the call -/
/-- what has become of the slots: as they were, or (at is) another object's tree -/
def Wb (Z : Wd) (F H : Hp) (σ : St) (is : List Nat) (e e2 : Env) : Prop := e2.length = e.length ∧ ∀ j s2, e2[j]? = some s2 →
  ∃ s, e[j]? = some s ∧ ((j ∉ is ∧ s2 = s) ∨ (j ∈ is ∧ s.own = true ∧ ∃ a d', σ[j]? = some (some (.ref a)) ∧ s2 = reown s d' ∧ Top Z F H a d'))
theorem wb_ok : ∀ {is : List Nat} {ds : List D} {e e2 : Env}, wback is ds e = some e2 → is.Nodup →
    (∀ (k i : Nat) (d : D), is[k]? = some i → ds[k]? = some d → ∃ a, σ[i]? = some (some (V.ref a)) ∧ Top Z F H a d) → Wb Z F H σ is e e2
  | [], [], e, _, h, _, _ => by
    simp only [wback] at h
    cases h
    exact ⟨rfl, fun j s h => ⟨s, h, .inl ⟨by simp, rfl⟩⟩⟩
  | [], _ :: _, _, _, h, _, _ => by simp only [wback] at h; cases h
  | _ :: _, [], _, _, h, _, _ => by simp only [wback] at h; cases h
  | i :: is, d :: ds, e, e2, h, nd, ht => by
    obtain ⟨n1, n2⟩ := List.nodup_cons.mp nd
    obtain ⟨a, g1, g2⟩ := ht 0 i d rfl rfl
    have step : (S3.slot e i).own = true ∧ wback is ds (e.set i (reown (S3.slot e i) d)) = some e2 := by
      simp only [wback] at h
      cases q : S3.slot e i <;> rw [q] at h <;> dsimp only at h <;> first | exact ⟨rfl, h⟩ | cases h
    obtain ⟨o1, h1⟩ := step
    have ih := wb_ok h1 n2 fun k i' d' k1 k2 => ht (k + 1) i' d' (by simpa using k1) (by simpa using k2)
    have np : S3.slot e i ≠ .no := fun z => by rw [z] at o1; cases o1
    have gp := slot_get rfl np
    refine ⟨by rw [ih.1, List.length_set], fun j s2 hj => ?_⟩
    obtain ⟨s, k1, k2⟩ := ih.2 j s2 hj
    rcases get_set k1 with ⟨rfl, rfl, l⟩ | ⟨ne, k1'⟩
    · rcases k2 with ⟨_, rfl⟩ | ⟨m, _⟩
      · exact ⟨_, gp, .inr ⟨List.mem_cons_self, o1, a, d, g1, rfl, g2⟩⟩
      · exact (n1 m).elim
    · refine ⟨s, k1', ?_⟩
      rcases k2 with ⟨m, rfl⟩ | ⟨m, r⟩
      · exact .inl ⟨fun z => (List.mem_cons.mp z).elim (fun z => ne z.symm) m, rfl⟩
      · exact .inr ⟨List.mem_cons_of_mem _ m, r⟩
theorem live_reown {s : Sl} {d : D} {o : Option V} {a : Addr} (h : s.own = true) : Live Z F H o (reown s d) a ↔ Live Z F H o s a := by
  cases s <;> first | exact Iff.rfl | cases h
theorem SOk.callKp (S : SOk Z N F H σ e) {M : List Addr} {is : List Nat} (g : CGr F H M F' H') (hM : ∀ a, a ∈ M → ∃ i s, i ∈ is ∧ e[i]? = some s ∧ s.own = true ∧ σ[i]? = some (some (.ref a))) :
    (∀ {j : Nat} {s : Sl}, e[j]? = some s → j ∉ is → ∀ R d v f, s = .dp f d → (σ[j]?).join = some v → OwT Z F H R v (.ob d) → Kp R H H') ∧
    (∀ {j : Nat} {s : Sl} {a : Addr}, e[j]? = some s → (j ∉ is ∨ s.own = true) → Live Z F' H' ((σ[j]?).join) s a → Live Z F H ((σ[j]?).join) s a) := by
  have nM : ∀ {j : Nat} {s : Sl} {a : Addr}, e[j]? = some s → j ∉ is → Live Z F H ((σ[j]?).join) s a → a ∉ M := fun {j s a} h1 nj l hb => by
    obtain ⟨i, s', hi, h1', h2', h3'⟩ := hM a hb
    have ne : i ≠ j := fun z => nj (z ▸ hi)
    exact S.sep i j s' s a h1' h1 ne (Sl.own_ex h2') (by rw [h3']; cases s' <;> first | rfl | cases h2') l
  have kpc : ∀ {j : Nat} {s : Sl}, e[j]? = some s → j ∉ is → ∀ R d v f, s = .dp f d → (σ[j]?).join = some v → OwT Z F H R v (.ob d) → Kp R H H' := fun {j s} h1 nj R d v f es ev t b o hb m => by
    refine g.h b o hb fun hm => ?_
    rcases m with m | m
    · exact nM h1 nj (by rw [es]; exact ⟨v, R, ev, t, m⟩) hm
    · obtain ⟨i, s', hi, h1', h2', h3'⟩ := hM b hm
      have lv : Live Z F H ((σ[i]?).join) s' b := by rw [h3']; cases s' <;> first | rfl | cases h2'
      obtain ⟨_, u, hu, nt⟩ := S.liveN h1' lv
      rw [hb] at hu; cases hu
      exact m nt
  have ul : ∀ {j : Nat} {s : Sl} {a : Addr}, e[j]? = some s → (j ∉ is ∨ s.own = true) → Live Z F' H' ((σ[j]?).join) s a → Live Z F H ((σ[j]?).join) s a := fun {j s a} h1 nj l =>
    S.unlive h1 l g.f (fun b ⟨u, q, n⟩ => g.nf b u q n) fun R d v f es => by
      rcases nj with nj | nj
      · exact kpc h1 nj R d v f es
      · rw [es] at nj; cases nj
  exact ⟨kpc, ul⟩
theorem SOk.callLive (S : SOk Z N F H σ e) {M : List Addr} {is : List Nat} (g : CGr F H M F' H') (hM : ∀ a, a ∈ M → ∃ i s, i ∈ is ∧ e[i]? = some s ∧ s.own = true ∧ σ[i]? = some (some (.ref a)))
    (wb : Wb Z F' H' σ is e e') {j : Nat} {s : Sl} {b : Addr} (h : e'[j]? = some s) (l : Live Z F' H' ((σ[j]?).join) s b) : ∃ s0 u, e[j]? = some s0 ∧ Live Z F H ((σ[j]?).join) s0 b ∧ H b = some u := by
  obtain ⟨kpc, ul⟩ := S.callKp g hM
  obtain ⟨s0, g1, g2⟩ := wb.2 j s h
  have k1 : Live Z F H ((σ[j]?).join) s0 b := by
    rcases g2 with ⟨nj, rfl⟩ | ⟨_, ho, _, d', _, rfl, _⟩
    · exact ul g1 (.inl nj) l
    · exact ul g1 (.inr ho) ((live_reown ho).mp l)
  obtain ⟨_, u, hu⟩ := S.live g1 k1
  exact ⟨s0, u, g1, k1, hu⟩
/-- the frame's state behind a call -/
theorem SOk.called (S : SOk Z N F H σ e) {M : List Addr} {is : List Nat} (g : CGr F H M F' H') (hM : ∀ a, a ∈ M → ∃ i s, i ∈ is ∧ e[i]? = some s ∧ s.own = true ∧ σ[i]? = some (some (.ref a)))
    (wb : Wb Z F' H' σ is e e') : SOk Z N F' H' σ e' := by
  obtain ⟨kpc, ul⟩ := S.callKp g hM
  have nM : ∀ {j : Nat} {s : Sl} {a : Addr}, e[j]? = some s → j ∉ is → Live Z F H ((σ[j]?).join) s a → a ∉ M := fun {j s a} h1 nj l hb => by
    obtain ⟨i, s', hi, h1', h2', h3'⟩ := hM a hb
    have ne : i ≠ j := fun z => nj (z ▸ hi)
    exact S.sep i j s' s a h1' h1 ne (Sl.own_ex h2') (by rw [h3']; cases s' <;> first | rfl | cases h2') l
  exact {
  le := g.le
  f0 := S.f0.trans g.f
  h0 := fun b o h m => g.h b o (S.h0 b o h m) fun hb => by
    obtain ⟨i, s, _, h1, h2, h3⟩ := hM b hb
    obtain ⟨ov, k1, k2⟩ := S.slot i s h1
    rw [h3] at k1
    cases k1
    cases s <;> try (cases h2; done)
    · obtain ⟨c, e1, _, n, _⟩ := k2; cases e1; rw [n] at h; cases h
    · obtain ⟨c, e1, _, n, _⟩ := k2; cases e1; exact m n
  nf := fun b o h nt n => by
    by_cases m : b ∈ N.M
    · obtain ⟨x, ⟨u, y, ny⟩, z⟩ := S.mh b m
      exact g.nf b u y ny x
    · exact g.nf b o (S.h0 b o h m) nt (S.nf b o h nt n)
  len := by rw [S.len, wb.1]
  slot := fun j s2 hj => by
    obtain ⟨s, h1, h2⟩ := wb.2 j s2 hj
    obtain ⟨o, k1, k2⟩ := S.slot j s h1
    refine ⟨o, k1, ?_⟩
    rcases h2 with ⟨nj, rfl⟩ | ⟨mj, ho, a, d', g1, rfl, t⟩
    · have kp : ∀ a, Live Z F H o s2 a → ∀ u, H a = some u → H' a = some u := fun a l u hu => g.h a u hu fun hb => by
        obtain ⟨i, s, hi, h1', h2', h3'⟩ := hM a hb
        have ne : i ≠ j := fun z => nj (z ▸ hi)
        exact S.sep i j s s2 a h1' h1 ne (Sl.own_ex h2') (by rw [h3']; cases s <;> first | rfl | cases h2') (by rw [k1]; exact l)
      cases s2 with
      | no => trivial
      | fz d => obtain ⟨v, e, r⟩ := k2; exact ⟨v, e, r.mono g.f⟩
      | ow d => obtain ⟨a, e, x, y, t⟩ := k2; obtain ⟨u, hu, nt⟩ := t.thereN; exact ⟨a, e, g.nf _ _ hu nt x, y, t.keep g.f (kp a (by rw [e]; rfl))⟩
      | mu d => obtain ⟨a, e, x, y, t⟩ := k2; obtain ⟨u, hu, nt⟩ := t.thereN; exact ⟨a, e, g.nf _ _ hu nt x, y, t.keep g.f (kp a (by rw [e]; rfl))⟩
      | bo d =>
        obtain ⟨v, e, r⟩ := k2
        by_cases rr : Rp Z F v d
        · exact ⟨v, e, .inl (rr.mono g.f)⟩
        · rcases r with r | ⟨a, rfl, x, y, z, t⟩
          · exact (rr r).elim
          · obtain ⟨u, hu, nt⟩ := t.thereN
            exact ⟨_, e, .inr ⟨a, rfl, g.nf _ _ hu nt x, y, z, t.keep g.f (kp a (by rw [e]; exact ⟨rfl, rr⟩))⟩⟩
      | dp f d =>
        obtain ⟨v, R, e, t, y⟩ := k2
        exact ⟨v, R, e, t.mono g.f (fun b hb => by obtain ⟨q, u, hu, nt⟩ := t.there b hb; exact g.nf _ _ hu nt q) (kpc h1 nj R d v f rfl (by rw [k1]; exact e) t), y⟩
    · rw [k1] at g1
      cases g1
      cases s <;> try (cases ho; done)
      · obtain ⟨c, e1, x, y, t0⟩ := k2; cases e1; obtain ⟨u, hu, nt⟩ := t0.thereN; exact ⟨a, rfl, g.nf _ _ hu nt x, y, t⟩
      · obtain ⟨c, e1, x, y, t0⟩ := k2; cases e1; obtain ⟨u, hu, nt⟩ := t0.thereN; exact ⟨a, rfl, g.nf _ _ hu nt x, y, t⟩
  sep := fun i j s2 t2 a h1 h2 ne o l1 l2 => by
    obtain ⟨s, g1, g2⟩ := wb.2 i s2 h1
    obtain ⟨t, g3, g4⟩ := wb.2 j t2 h2
    have ho : s.ex = true := by
      rcases g2 with ⟨_, rfl⟩ | ⟨_, ho, _⟩
      · exact o
      · exact Sl.own_ex ho
    have k1 : Live Z F H ((σ[i]?).join) s a := by
      rcases g2 with ⟨nj, rfl⟩ | ⟨_, ho, _, d', _, rfl, _⟩
      · exact ul g1 (.inl nj) l1
      · exact ul g1 (.inr ho) ((live_reown ho).mp l1)
    have k2 : Live Z F H ((σ[j]?).join) t a := by
      rcases g4 with ⟨nj, rfl⟩ | ⟨_, ho, _, d', _, rfl, _⟩
      · exact ul g3 (.inl nj) l2
      · exact ul g3 (.inr ho) ((live_reown ho).mp l2)
    exact S.sep i j s t a g1 g3 ne ho k1 k2
  mh := fun a m => by
    obtain ⟨x, ⟨u, y, ny⟩, z⟩ := S.mh a m
    refine ⟨g.nf a u y ny x, ?_, z⟩
    by_cases hb : a ∈ M
    · obtain ⟨i, s, hi, h1', h2', h3'⟩ := hM a hb
      have il : i < e'.length := by rw [wb.1]; exact (List.getElem?_eq_some_iff.mp h1').1
      obtain ⟨s', k1, k2⟩ := wb.2 i _ (List.getElem?_eq_getElem il)
      rcases k2 with ⟨ni, _⟩ | ⟨_, _, a', d', e1, _, t⟩
      · exact (ni hi).elim
      · rw [h3'] at e1; cases e1; exact t.thereN
    · exact ⟨u, g.h a u y hb, ny⟩
  mus := fun i d h => by
    obtain ⟨s, g1, g2⟩ := wb.2 i _ h
    rcases g2 with ⟨_, rfl⟩ | ⟨_, ho, a, d', _, e1, _⟩
    · exact S.mus i d g1
    · cases s with
      | no => cases ho
      | fz d => cases ho
      | bo d => cases ho
      | dp f d => cases ho
      | ow d => simp only [reown] at e1; cases e1
      | mu d => exact S.mus i _ g1
  lkh := S.lkh
  lks := fun i j d a h m l => by
    obtain ⟨s, g1, g2⟩ := wb.2 i _ h
    rcases g2 with ⟨nj, rfl⟩ | ⟨_, ho, a, d', _, e1, _⟩
    · exact S.lks i j d a g1 m (ul g1 (.inl nj) l)
    · cases s with
      | no => cases ho
      | fz d => cases ho
      | bo d => cases ho
      | dp f d => cases ho
      | ow d => simp only [reown] at e1; cases e1
      | mu d => simp only [reown] at e1; cases e1
  bos := fun i d a r h k => by
    obtain ⟨s, g1, g2⟩ := wb.2 i _ h
    rcases g2 with ⟨_, rfl⟩ | ⟨_, ho, a, d', _, e1, _⟩
    · exact S.bos i d a r g1 k
    · cases s with
      | no => cases ho
      | fz d => cases ho
      | bo d => cases ho
      | dp f d => cases ho
      | ow d => simp only [reown] at e1; cases e1
      | mu d => simp only [reown] at e1; cases e1
  }
theorem outs_at : ∀ {ms : List Md} {rs : List RV} {vs : List V} {outs : List D}, Helds Z F σ vs rs → OutsOk Z F' H' ms vs outs → argD ms rs e = some ds →
    ∀ (k i : Nat) (d : D), (mutIx ms rs)[k]? = some i → outs[k]? = some d → ∃ a, σ[i]? = some (some (V.ref a)) ∧ Top Z F' H' a d := by
  intro ms
  induction ms generalizing ds with
  | nil => intro rs vs outs _ _ _ k i d h; simp [mutIx] at h
  | cons m ms ih =>
    intro rs vs outs hl ho q k i d h1 h2
    cases hl with
    | nil => cases m <;> simp [mutIx] at h1
    | @cons v vs r rs a hl =>
      have tail : ∃ ds', argD ms rs e = some ds' := by
        cases m with
        | v =>
          cases r <;> simp only [argD] at q <;> try (cases q; done)
          rw [Option.map_eq_some_iff] at q
          obtain ⟨ds', q1, _⟩ := q
          exact ⟨_, q1⟩
        | r =>
          simp only [argD] at q
          cases d1 : S3.rd r e with
          | none => rw [d1] at q; cases q
          | some d =>
            rw [d1] at q
            dsimp only at q
            rw [Option.map_eq_some_iff] at q
            obtain ⟨ds', q1, _⟩ := q
            exact ⟨_, q1⟩
        | m =>
          cases r <;> simp only [argD] at q <;> try (cases q; done)
          rename_i i
          cases d1 : S3.slot e i <;> rw [d1] at q <;> dsimp only at q <;> try (cases q; done)
          all_goals
            rw [Option.map_eq_some_iff] at q
            obtain ⟨ds', q1, _⟩ := q
            exact ⟨_, q1⟩
      obtain ⟨ds', q1⟩ := tail
      cases ho with
      | v ho => cases r <;> exact ih hl ho q1 k i d h1 h2
      | r ho => cases r <;> exact ih hl ho q1 k i d h1 h2
      | m t ho =>
        cases r <;> simp only [argD] at q <;> try (cases q; done)
        cases k with
        | zero => simp [mutIx] at h1 h2; subst h1 h2; exact ⟨_, a, t⟩
        | succ k => exact ih hl ho q1 k i d (by simpa [mutIx] using h1) (by simpa using h2)
theorem mset_at : ∀ {ms : List Md} {rs : List RV} {vs : List V} {ds : List D} {a : Addr}, Helds Z F σ vs rs → argD ms rs e = some ds → a ∈ mSet ms vs →
    ∃ i s, i ∈ mutIx ms rs ∧ e[i]? = some s ∧ s.own = true ∧ σ[i]? = some (some (.ref a)) := by
  intro ms rs vs ds a hl q h
  obtain ⟨j, hj⟩ := mem_mSet.mp h
  unfold mAt at hj
  cases q1 : ms[j]? with
  | none => rw [q1] at hj; cases hj
  | some mj =>
    cases q2 : vs[j]? with
    | none => rw [q1, q2] at hj; cases mj <;> cases hj
    | some vj =>
      rw [q1, q2] at hj
      cases mj <;> cases vj <;> cases hj
      obtain ⟨rj, g1, g2⟩ := held_at hl q2
      have len : ∀ {ms : List Md} {rs : List RV} {ds : List D}, argD ms rs e = some ds → ds.length = ms.length := by
        intro ms
        induction ms with
        | nil => intro rs ds q; cases rs <;> simp only [argD] at q <;> cases q; rfl
        | cons m ms ih =>
          intro rs ds q
          cases rs with
          | nil => cases m <;> simp only [argD] at q <;> cases q
          | cons r rs =>
            cases m with
            | v =>
              cases r <;> simp only [argD] at q <;> try (cases q; done)
              rw [Option.map_eq_some_iff] at q
              obtain ⟨ds', q1, rfl⟩ := q
              exact congrArg Nat.succ (ih q1)
            | r =>
              simp only [argD] at q
              cases d1 : S3.rd r e with
              | none => rw [d1] at q; cases q
              | some d =>
                rw [d1] at q
                dsimp only at q
                rw [Option.map_eq_some_iff] at q
                obtain ⟨ds', q1, rfl⟩ := q
                exact congrArg Nat.succ (ih q1)
            | m =>
              cases r <;> simp only [argD] at q <;> try (cases q; done)
              rename_i i
              cases d1 : S3.slot e i <;> rw [d1] at q <;> dsimp only at q <;> try (cases q; done)
              all_goals
                rw [Option.map_eq_some_iff] at q
                obtain ⟨ds', q1, rfl⟩ := q
                exact congrArg Nat.succ (ih q1)
      have lj : j < ds.length := by rw [len q]; exact (List.getElem?_eq_some_iff.mp q1).1
      obtain ⟨p, e1, ho, _⟩ := argD_at q q1 g1 (List.getElem?_eq_getElem lj)
      subst e1
      have np : S3.slot e p ≠ .no := fun z => by rw [z] at ho; cases ho
      exact ⟨p, _, mutIx_mem q1 g1, slot_get rfl np, ho, g2⟩
theorem mut_nodup : ∀ {ms : List Md} {rs : List RV}, apart ms rs = true → (mutIx ms rs).Nodup := by
  intro ms rs h
  have all : ∀ p ∈ mutIx ms rs, (atIx rs).count p = 1 := fun p hp => by
    unfold apart at h
    have q := List.all_eq_true.mp h p hp
    rwa [beq_iff_eq] at q
  clear h
  have le : ∀ (ms : List Md) (rs : List RV) (p : Nat), (mutIx ms rs).count p ≤ (atIx rs).count p := by
    intro ms
    induction ms with
    | nil => intro rs p; simp [mutIx]
    | cons m ms ih =>
      intro rs p
      cases rs with
      | nil => cases m <;> simp [mutIx]
      | cons r rs =>
        have := ih rs p
        cases m <;> cases r <;> simp only [mutIx, atIx, List.count_cons] <;> omega
  rw [List.nodup_iff_count]
  intro p
  by_cases hp : p ∈ mutIx ms rs
  · have := le ms rs p
    rw [all p hp] at this
    exact this
  · rw [List.count_eq_zero_of_not_mem hp]
    exact Nat.zero_le _
/-- THE CALL -/
theorem call_rd {ms : List Md} {phi : List D → RC} {a : AV} {Q : VK} (h : tEv Z W (eCall phi ms a) σ H Q) : tAv Z W a σ H fun vs H1 => spOf Z ms phi (vs ++ []) H1 Q (WE W σ) := by
  obtain ⟨N, F, e, S, P⟩ := h
  unfold eCall at P
  refine ⟨N, F, e, S, ?_⟩
  cases q : a e with
  | no => rw [q] at P; exact P
  | ex z e1 => rw [q] at P; exact P
  | ok rs e1 =>
    rw [q] at P
    dsimp only at P
    intro vs F1 H1 f1 S1 hl
    rw [List.append_nil]
    cases q1 : argD ms rs e1 with
    | none => rw [q1] at P; exact P.elim
    | some ds =>
      rw [q1] at P
      dsimp only at P
      split at P
      · rename_i ap
        refine ⟨F1, ds, S1.le, args_ok S1 hl q1, apart_ok S1 hl q1 ap, ?_⟩
        have P1 := PostE.shift P f1
        have after : ∀ {F' H' : Hp} {outs : List D} {e2 : Env}, CGr F1 H1 (mSet ms vs) F' H' → OutsOk Z F' H' ms vs outs → wback (mutIx ms rs) outs e1 = some e2 → SOk Z N F' H' σ e2 :=
          fun {F' H' outs e2} g ho w => S1.called g (fun a ha => mset_at hl q1 ha) (wb_ok w (mut_nodup ap) (outs_at hl ho q1))
        cases q2 : phi ds with
        | no => rw [q2] at P1; exact P1
        | ok n d outs =>
          rw [q2] at P1
          dsimp only at P1
          intro v F' H' g ho r
          cases q3 : wback (mutIx ms rs) outs e1 with
          | none => rw [q3] at P1; exact P1.elim
          | some e2 =>
            rw [q3] at P1
            have S2 := after g ho q3
            refine P1 v F' H' g.f S2 ?_
            unfold ResOk at r
            cases n with
            | false => rw [if_neg Bool.false_ne_true] at r; exact r
            | true =>
              rw [if_pos rfl] at r
              have l0 : ∀ {j : Nat} {s : Sl} {b : Addr}, e2[j]? = some s → Live Z F' H' ((σ[j]?).join) s b → H1 b ≠ none := fun {j s b} hj l z => by
                obtain ⟨s0, u, k1, k2, k3⟩ := S1.callLive g (fun a ha => mset_at hl q1 ha) (wb_ok q3 (mut_nodup ap) (outs_at hl ho q1)) hj l
                rw [z] at k3; cases k3
              obtain ⟨b, rfl, hb, fb, t⟩ := r
              exact ⟨b, rfl, fb, S1.nohave hb, t, fun j s hj l => l0 hj l hb⟩
        | dp d outs =>
          rw [q2] at P1
          dsimp only at P1
          intro v F' H' g ho ⟨R, t, hb⟩
          cases q3 : wback (mutIx ms rs) outs e1 with
          | none => rw [q3] at P1; exact P1.elim
          | some e2 =>
            rw [q3] at P1
            refine P1 v F' H' g.f (after g ho q3) ⟨R, t, fun b m => S1.nohave (hb b m), fun b m j s hj l => ?_⟩
            obtain ⟨s0, u, k1, k2, k3⟩ := S1.callLive g (fun a ha => mset_at hl q1 ha) (wb_ok q3 (mut_nodup ap) (outs_at hl ho q1)) hj l
            rw [hb b m] at k3; cases k3
        | ex x outs =>
          rw [q2] at P1
          dsimp only at P1
          intro cls dd F' H' g ho r
          cases q3 : wback (mutIx ms rs) outs e1 with
          | none => rw [q3] at P1; exact P1.elim
          | some e2 =>
            rw [q3] at P1
            exact P1 cls dd F' H' g.f (after g ho q3) r
      · exact P.elim
end
section
variable {ca : Str → Option Addr} {W : WX} {X : Cx} {a : Expr} {es : List Expr} {ga : AV} {pos p : Pos}
/-- a def of the module, as the module's code may call it -/
structure FnT (ca : Str → Option Addr) (P : Program) (w : World) (K : PySem.W.Frag) (mg : Str → Option Value) (base : Heap) (k : Nat) (n : Str) (ms : List Md) (phi : List D → RC) : Prop where
  ex : ∃ (f : Addr) (fd : FuncData) (ps : List Str), FnOk P w K mg base (L2.CX P w) (2 * k) f fd ps (spOf ⟨P, w, K, ca⟩ ms phi) ∧ mg n = some (.ref f) ∧ PySem.W.keepIn K (.ref f) = true ∧ Binds K fd ps []
theorem ev_call {n : Str} {k : Nat} {ms : List Md} {phi : List D → RC} (G : FnT ca X.prog X.w X.K X.mg X.base k n ms phi) (hr : Room (2 * k + 1) X.A) (tk : Takes X W) (ha : Av ca W X (a :: es) ga) (hg : Gl X n := by rfl) (hdb : (n == ("__debug__" : Str)) = false := by decide)
    (he : starEach (a :: es) X.env = (false, eval a X.env) :: starEach es X.env := by rfl) (hpl : (backTo pos (starEach es X.env)).any (·.1) = false := by rfl) : Ev ca W X (.Call (.Name n p) (a :: es) [] pos) (eCall phi ms ga) := by
  obtain ⟨f, fd, ps, G, hm, hk, hb⟩ := G.ex
  exact PE_imp (pe_callSD G (hr.mono (Nat.le_succ _)) hg hm hk hb .nil (fun σ => passAt tk σ) ha hdb he hpl) fun _ _ _ => call_rd
open PySem.Spec PyProof.Rows in
end
end S3

/-! C3: chains, names from a tuple; the depth of calls; the law's end. -/
namespace S3
open PySem L2
section
variable {Z : Wd} {F F' H H' : Hp} {N : En} {σ : St} {e e' : Env} {v x y : V} {W : WX} {E : Ends}
end
section
variable {ca : Str → Option Addr} {W : WX} {X : Cx} {a b c : Expr} {fa fb fc : EV} {pos p : Pos} {st : Stmt}
end
/-! ### in comprehensions nothing is raised -/
theorem takes0 {X : Cx} : Takes X W0 := fun u s' ⟨_, _, _, _, _, _, _, _, _, _, _, _, _, _, _, _, w⟩ => w.elim
section
variable {P : Program} {w : World} {K : PySem.W.Frag} {mg : Str → Option Value} {base : Heap} {ca : Str → Option Addr}
/-- at depth 0 nothing is promised -/
theorem FnT.zero {n : Str} {f : Addr} {fd : FuncData} {ps : List Str} {ms : List Md} {g : String} {tab : String → Option Def} (hf : mg n = some (.ref f)) (hk : PySem.W.keepIn K (.ref f) = true) (hb : Binds K fd ps []) : FnT ca P w K mg base 0 n ms (sem tab 0 g) :=
  ⟨f, fd, ps, ⟨fun vs H Q E ⟨_, _, _, _, _, z⟩ => z.elim, fun A outer s H args us vs Q E _ _ _ _ ⟨_, _, _, _, _, z⟩ => z.elim⟩, hf, hk, hb⟩
theorem FnT.succ {n : Str} {f : Addr} {fd : FuncData} {ps : List Str} {ms : List Md} {k : Nat} {g : String} {T : Def} {tab : String → Option Def} (h : FnOk P w K mg base (L2.CX P w) (2 * (k + 1)) f fd ps (spOf ⟨P, w, K, ca⟩ T.ms (T.run (sem tab k)))) (hf : mg n = some (.ref f)) (hk : PySem.W.keepIn K (.ref f) = true)
    (hb : Binds K fd ps []) (ht : tab g = some T) (hm : T.ms = ms := by rfl) : FnT ca P w K mg base (k + 1) n ms (sem tab (k + 1) g) := by
  refine ⟨f, fd, ps, ?_, hf, hk, hb⟩
  subst hm
  have e : sem tab (k + 1) g = T.run (sem tab k) := by funext ds; simp only [sem, ht]
  rw [e]
  exact h
end

/-! ### the law's end -/
theorem u65 {k : Nat} {A : PySem.Around} (hr : Room k A) : A.units + 65 < PySem.cLine := by have := hr.un; omega
theorem law_end {Z : Wd} {phi : List D → RC} {H : Hp} {a : Addr} {ns : List Int} (hS : SqL Z.K H a (ns.map V.int)) (sol : phi [.scr (ns.map .int)] = .ok false (.bl true) []) : spOf Z [.v] phi [.ref a] H (fun v _ => v = .bl true) fun _ _ _ => False := by
  refine ⟨H, [.scr (ns.map .int)], Same.refl _, .v (.scr hS ?_) .nil, fun i j a m d _ hi => ?_, ?_⟩
  · clear sol hS
    induction ns with
    | nil => exact .nil
    | cons n ns ih => exact .cons (.int n) ih
  · unfold mAt at hi
    cases i with
    | zero => cases hi
    | succ i => cases hi
  · rw [sol]
    intro v F' H' g o r
    unfold ResOk at r
    rw [if_neg Bool.false_ne_true] at r
    exact RdV.bl (H := H') (.inl r)
theorem law_CX {P : Program} (w : World) (H : Hp) (s : Shared) (e : Value) (s' : Shared) (h : L2.CX P w [] H s (fun _ _ _ => False) e s') : False := by
  obtain ⟨_, _, _, _, _, _, _, _, _, _, _, _, z⟩ := h
  exact z
theorem call_strA {X : Cx} : CallR X (.type "str") (fun xs H Q => (∃ a, xs = [V.str a] ∧ Q (.str a) H) ∨ ∃ i, xs = [V.int i] ∧ i.natAbs.log2 < 1920 ∧ Q (.str (toString i)) H) := CallR.or SkE.call_str_str call_str_int
end S3

/-! C4: more of the language: reversed, starred, dicts. -/
namespace S3
open PySem L2
/-! ### terms -/
def seqI : D → Option (List D)
  | .lst xs => some xs
  | .tup xs => some xs
  | _ => none
/-- *f, .. in a display -/
def aStar (f : EV) (g : AV) : AV := fun e => match f e with
  | .ok r e1 => (match (rd r e1).bind seqI with
    | some xs => (match g e1 with
      | .ok rs e2 => .ok (xs.map .fz ++ rs) e2
      | .ex x e2 => .ex x e2
      | .no => .no)
    | none => .no)
  | .ex x e1 => .ex x e1
  | .no => .no
section
variable {Z : Wd} {F F' H H' : Hp} {N : En} {σ : St} {e e' : Env} {v x y : V} {W : WX} {E : Ends}
theorem rpA_rev : ∀ {xs : List V} {ds : List D}, RpA Z F xs ds → RpA Z F xs.reverse ds.reverse
  | _, _, .nil => .nil
  | _, _, .cons h r => by rw [List.reverse_cons, List.reverse_cons]; exact (rpA_rev r).append (.cons h .nil)
theorem s_rev : Sound1 Z (fun x H Q => ∃ a xs, x = V.ref a ∧ SqL Z.K H a xs ∧ ∀ p, H p = none → Q (.ref p) (upd H p (.lst xs.reverse))) opRev := by
  intro F H x dx rr Q l hx ho q
  cases dx <;> simp only [opRev] at ho <;> cases ho
  obtain ⟨a, xs, rfl, ha, ra⟩ := hx.lst l
  refine ⟨a, xs, rfl, SqL.of ha, fin_lst l q ?_⟩
  exact rpA_rev ra
theorem helds_map : ∀ {xs : List V} {ds : List D}, RpA Z F xs ds → Helds Z F σ xs (ds.map .fz)
  | _, _, .nil => .nil
  | _, _, .cons h r => .cons h (helds_map r)
theorem helds_app : ∀ {xs ys : List V} {rs qs : List RV}, Helds Z F σ xs rs → Helds Z F σ ys qs → Helds Z F σ (xs ++ ys) (rs ++ qs)
  | _, _, _, _, .nil, h => h
  | _, _, _, _, .cons a r, h => .cons a (helds_app r h)
theorem tAv_star {K : PySem.W.Frag} (hK : Z.K = K) {f : EV} {g : AV} {Q : List V → Hp → Prop} (h : tAv Z W (aStar f g) σ H Q) : StX.tStar K (tEv Z W f) (tAv Z W g) σ H Q := by
  obtain ⟨N, F, e, S, P⟩ := h
  unfold aStar at P
  refine ⟨N, F, e, S, ?_⟩
  cases q : f e with
  | no => rw [q] at P; exact P
  | ex z e1 => rw [q] at P; exact P
  | ok r e1 =>
    rw [q] at P
    dsimp only at P
    intro x F1 H1 f1 S1 R1
    obtain ⟨F2, f2, S2, h2⟩ := RvOk.hold S1 R1
    cases d1 : S3.rd r e1 with
    | none => rw [d1] at P; exact P.elim
    | some dx =>
      rw [d1] at P
      dsimp only [Option.bind] at P
      cases d2 : seqI dx with
      | none => rw [d2] at P; exact P.elim
      | some ds =>
        rw [d2] at P
        dsimp only at P
        have hx := h2.rd S2 d1
        obtain ⟨a, xs, ex, hq, ra⟩ : ∃ a xs, x = V.ref a ∧ (SqT K H1 a xs ∨ SqL K H1 a xs) ∧ RpA Z F2 xs ds := by
          cases dx <;> simp only [seqI] at d2 <;> cases d2
          · obtain ⟨a, xs, rfl, ha, ra⟩ := hx.lst S2.le; exact ⟨a, xs, rfl, .inr (SqL.of ha), ra⟩
          · obtain ⟨a, xs, rfl, ha, ra⟩ := hx.tup S2.le; exact ⟨a, xs, rfl, .inl (SqT.of ha), ra⟩
        refine ⟨a, xs, ex, hq, N, F2, e1, S2, ?_⟩
        cases q3 : g e1 with
        | no => rw [q3] at P; exact P
        | ex z e2 => rw [q3] at P; exact fun cls d F3 H3 f3 S3 x => P cls d F3 H3 ((f1.trans f2).trans f3) S3 x
        | ok rs e2 =>
          rw [q3] at P
          exact fun ys F3 H3 f3 S3 h3 => P (xs ++ ys) F3 H3 ((f1.trans f2).trans f3) S3 (helds_app (helds_map (ra.mono f3)) h3)
end
section
variable {Z : Wd} {F F' H H' : Hp} {N : En} {σ : St} {e e' : Env} {v x y : V} {W : WX} {E : Ends}
theorem PostE.imp {Q Q' : VK} {r : RE} (h : PostE Z N F σ W Q r) (i : ∀ v H, Q v H → Q' v H) : PostE Z N F σ W Q' r := by
  cases r with
  | no => exact h
  | ok r e => exact fun v F' H' f S R => i _ _ (h v F' H' f S R)
  | ex x e => exact h
end
section
variable {ca : Str → Option Addr} {W : WX} {X : Cx} {a b c : Expr} {fa fb fc : EV} {es : List Expr} {ga : AV} {pos p apos : Pos}
theorem ev_rev {k : Nat} {p1 p2 p3 : Pos} (h : Ev ca W X a fa) : Ev ca W X (.Subscript a (.Slice none none (some (.UnaryOp .USub (.Constant (.int 1) k p1) p2)) p3) pos) (eOp1 opRev fa) := PE_imp (pe_revL h) fun _ _ _ => one s_rev
theorem av_star (h : Ev ca W X a fa) (k : Av ca W X es ga) (hs : starEach (.Starred a p :: es) X.env = (true, eval a X.env) :: starEach es X.env := by rfl) : Av ca W X (.Starred a p :: es) (aStar fa ga) := PA_imp (StX.pa_star h k hs) fun _ _ _ => tAv_star rfl
end
end S3

/-! C5: sets: {x}, set(xs), add, discard; sorted. -/
namespace S3
open PySem L2
/-! ### terms -/
def setOf (xs : List D) : Option RV := match toKeys xs with
  | some ks => if ks.length < 4000 then some (.nw (.st (dedKey ks))) else none
  | none => none
section
variable {Z : Wd} {F F' H H' : Hp} {N : En} {σ : St} {e e' : Env} {v x y : V} {W : WX} {E : Ends}
end
section
variable {ca : Str → Option Addr} {W : WX} {X : Cx} {a b c : Expr} {fa fb fc : EV} {es : List Expr} {ga : AV} {pos p apos : Pos}
end
end S3

/-! C6: enumerate, name += n, xs[i] = v, while (x := f) is None. -/
namespace S3
open PySem L2
/-! ### terms -/
def enumD (xs : List D) : List D := xs.zipIdx.map fun p => .tup [.int (p.2 : Nat), p.1]
def wEnum (f : EV) : WV := wE f fun r e => match walk r e with
  | some (.lst xs, e1) => .ok (enumD xs) e1
  | _ => .no
def mPutL : D → D → D → Option D
  | .lst xs, .int k, v => (L2.ixN xs.length k).map fun j => .lst (xs.set j v)
  | _, _, _ => none
/-- xs[g] = f, xs at slot i -/
def sPutL (i : Nat) (f g : EV) : SV := sE f fun r e => match stl r e with
  | some (v, e1) => if mine isLst (slot e1 i) then (sE g fun q e2 => match rd q e2 with
    | some y => if mine isLst (slot e2 i) then (match (slot e2 i).val with
      | some d => (match mPutL d y v with
        | some d' => .nx (e2.set i (reown (slot e2 i) d'))
        | none => .no)
      | none => .no) else .no
    | none => .no) e1 else .no
  | none => .no
section
variable {Z : Wd} {F F' H H' : Hp} {N : En} {σ : St} {e e' : Env} {v x y : V} {W : WX} {E : Ends}
theorem enumD_get {xs : List D} {i : Nat} : (enumD xs)[i]? = (xs[i]?).map fun d => .tup [.int (i : Nat), d] := by
  unfold enumD
  rw [List.getElem?_map, List.getElem?_zipIdx]
  cases xs[i]? <;> simp
theorem enumD_len (xs : List D) : (enumD xs).length = xs.length := by unfold enumD; rw [List.length_map, List.length_zipIdx]
theorem walk_enum {K : PySem.W.Frag} (hK : Z.K = K) {ds : List D} (S : SOk Z N F H σ e) (h : Rp Z F v (.lst ds) ∨ ∃ a, v = .ref a ∧ (∃ u, N.H a = some u) ∧ a ∉ N.M ∧ Top Z F H a (.lst ds)) :
    ∃ a, v = .ref a ∧ (∃ xs, SqL K H a xs) ∧ WalkOk Z N F (Ite K a) (enumD ds) := by
  obtain ⟨a, xs, rfl, ha, ra, st⟩ : ∃ a xs, v = .ref a ∧ H a = some (.lst xs) ∧ RpA Z F xs ds ∧ ∀ F' H' σ e, SOk Z N F' H' σ e → Same F F' → H' a = some (.lst xs) := by
    rcases h with h | ⟨a, rfl, ⟨u, hu⟩, m, xs, ha, ra⟩
    · cases h with
      | lst k r => exact ⟨_, _, rfl, S.le _ _ k, r, fun F' H' σ e S' f => S'.le _ _ (f _ _ k)⟩
    · have e1 := S.h0 a u hu m
      rw [ha] at e1
      cases e1
      exact ⟨a, xs, rfl, ha, ra, fun F' H' σ e S' f => S'.h0 a _ hu m⟩
  refine ⟨a, rfl, ⟨xs, SqL.of ha⟩, fun F' H' σ' e' S' f i => ⟨fun d hd => ?_, fun hl => ⟨xs, SqL.of (st _ _ _ _ S' f), by rw [ra.length]; rw [enumD_len] at hl; exact hl⟩⟩⟩
  have hx := st _ _ _ _ S' f
  rw [enumD_get, Option.map_eq_some_iff] at hd
  obtain ⟨d0, hd0, rfl⟩ := hd
  obtain ⟨w, hw, rw'⟩ := ra.get hd0
  refine ⟨⟨xs, w, SqL.of hx, hw⟩, fun x H2 ⟨T, w2, e1, hT, e2, y⟩ => ?_⟩
  subst e1 e2
  have := y xs (SqL.of hx)
  rw [hw] at this
  cases this
  have fT := none_le S'.le hT
  exact ⟨upd F' T (.tup [.int (i : Nat), w]), Gr.layF S'.le hT, .tup upd_same (.cons (.int _) (.cons ((rw'.mono f).mono (same_upd fT)) .nil))⟩
theorem wv_enum_rd {K : PySem.W.Frag} (hK : Z.K = K) {f : EV} {R : It → Hp → Prop} (h : tWv Z W (wEnum f) σ H R) : iEnum K (tCons (tEv Z W f) tNil) σ H R := by
  obtain ⟨N, F, e, S, P⟩ := h
  unfold wEnum wE at P
  refine ⟨N, F, e, S, ?_⟩
  cases q : f e with
  | no => rw [q] at P; exact P
  | ex z e1 => rw [q] at P; exact fun cls d F1 H1 f1 S1 x => P cls d F1 H1 f1 S1 x
  | ok r e0 =>
    rw [q] at P
    dsimp only at P
    intro v F1 H1 f1 S1 R1
    cases q1 : walk r e0 with
    | none => rw [q1] at P; exact P.elim
    | some pr =>
      obtain ⟨d, e1⟩ := pr
      rw [q1] at P
      cases d <;> try exact P.elim
      rename_i xs
      have h : ∀ J F2 H2, Same F F2 → SOk Z N F2 H2 σ e1 → WalkOk Z N F2 J (enumD xs) → R J H2 := P
      obtain ⟨F2, f2, S2, h2⟩ := walk_ok S1 R1 q1
      obtain ⟨a, ev, ⟨ys, h3⟩, w⟩ := walk_enum hK S2 h2
      exact ⟨a, ys, by rw [ev], h3, h _ F2 H1 (f1.trans f2) S2 w⟩
theorem mputL_rd {a : Addr} {d dy dv d' : D} (t : Top Z F H a d) (hy : RdV Z F H y dy) (rv : Rp Z F v dv) (h : mPutL d dy dv = some d') : ∃ (xs : List V) (k : Int) (j : Nat), y = .int k ∧ H a = some (.lst xs) ∧ ixN xs.length k = some j ∧ Top Z F (upd H a (.lst (xs.set j v))) a d' := by
  cases d <;> simp only [mPutL] at h <;> try (cases h; done)
  rename_i ds
  cases dy <;> simp only at h <;> try (cases h; done)
  rename_i k
  rw [Option.map_eq_some_iff] at h
  obtain ⟨j, hj, rfl⟩ := h
  obtain ⟨xs, ha, r⟩ := t
  exact ⟨xs, k, j, hy.int, ha, by rw [r.length]; exact hj, _, upd_same, r.set j rv⟩
theorem putL_rd {i : Nat} {f g : EV} (p : tSv Z W (sPutL i f g) E σ H) : tAsg (tEv Z W f) (gSub (tVar i) (tEv Z W g) rSetL) E σ H := by
  obtain ⟨N, F, e, S, P⟩ := p
  refine bindS S P fun v F1 H1 e1 r f1 S1 R1 P1 => ?_
  cases c1 : S3.stl r e1 with
  | none => rw [c1] at P1; exact P1.elim
  | some pr =>
    obtain ⟨dv, e2⟩ := pr
    rw [c1] at P1
    dsimp only at P1
    obtain ⟨F2, f2, S2, r2⟩ := RvOk.stl S1 R1 c1
    split at P1
    · rename_i hm
      obtain ⟨ho, d0, hd0, hk0⟩ := mine_own hm
      obtain ⟨a, h1, f0, t0, g0⟩ := own_at S2 rfl ho hd0
      refine ⟨.ref a, h1, ?_⟩
      refine bindS S2 (PostS.shift P1 f2) fun y F3 H3 e3 q f3 T3 R3 P3 => ?_
      obtain ⟨F4, f4, S4, h4⟩ := RvOk.hold T3 R3
      have P4 := PostS.shift P3 f4
      cases c2 : S3.rd q e3 with
      | none => rw [c2] at P4; exact P4.elim
      | some dy =>
        rw [c2] at P4
        dsimp only at P4
        split at P4
        · rename_i hm4
          obtain ⟨ho4, d4, hd4, hk4⟩ := mine_own hm4
          obtain ⟨a', h1', f0', t4, g4⟩ := own_at S4 rfl ho4 hd4
          rw [h1] at h1'
          cases h1'
          rw [hd4] at P4
          dsimp only at P4
          cases c3 : mPutL d4 dy dv with
          | none => rw [c3] at P4; exact P4.elim
          | some d' =>
            rw [c3] at P4
            obtain ⟨xs, k, j, ey, ha, hj, t'⟩ := mputL_rd t4 (h4.rd S4 c2) (r2.mono (f3.trans f4)) c3
            exact ⟨a, xs, k, j, rfl, ey, ha, hj, P4 F4 _ σ (Same.refl _) (S4.write g4 ho4 h1 t')⟩
        · exact P4.elim
    · exact P1.elim
end
section
variable {ca : Str → Option Addr} {W : WX} {X : Cx} {a b c : Expr} {fa fb fc : EV} {es : List Expr} {s1 : List Stmt} {ga : AV} {f : SV} {pos p p2 apos : Pos}
theorem wv_enum {elts : List Expr} {kk : Nat} {tpos : Pos} (hm : X.mg "enumerate" = none) (h : Ev ca W X a fa) (hg : Gl X "enumerate" := by rfl) (hs : starEach [a] X.env = (false, eval a X.env) :: starEach [] X.env := by rfl) : Wv ca W X (.Tuple elts kk tpos) (.Call (.Name "enumerate" p) [a] [] pos) (wEnum fa) :=
  PI_imp (pi_enum hg hm (pa_cons h pa_nil hs) (by rw [hs]; rfl)) fun _ _ _ => wv_enum_rd rfl
theorem sv_putL {i : Nat} {xx : Str} {px p2 : Pos} (hx : PE X (.Name xx px) (tVar i)) (ha : Ev ca W X a fa) (hb : Ev ca W X b fb) (hs : swapsWithSole [.Subscript (.Name xx px) b p2] a pos.line X.env = pure false := by rfl) (hw : swappedStores [.Subscript (.Name xx px) b p2] a X.env = pure none := by rfl)
    (h1 : (assignEach [.Subscript (.Name xx px) b p2] X.env).map (·.2) = [assign (.Subscript (.Name xx px) b p2) X.env] := by rfl)
    (hq : ∀ v, assign (.Subscript (.Name xx px) b p2) X.env v = (do
      let ov ← holding [v] (eval (.Name xx px) X.env)
      let iv ← holding [v, ov] (eval b X.env)
      standAt p2
      holding [v, ov, iv] (setItem ov iv v)
      release [v, ov, iv] []) := by intro _; rfl) :
    Sv ca W X (.Assign [.Subscript (.Name xx px) b p2] a pos) (sPutL i fa fb) := PS_imp (ps_asg ha (pg_sub hx hb set_list hq) hs hw h1) fun _ _ _ => putL_rd
end
end S3

/-! C7: comprehensions of two clauses: lists, sets. -/
namespace S3
open PySem L2
/-! ### terms -/
section
variable {β : Type}
end
section
variable {Z : Wd} {F F' H H' : Hp} {N : En} {σ : St} {e e' : Env} {v x y : V} {W : WX} {E : Ends}
/-! ### a heap without one place -/
def cutA (H : Hp) (A : Addr) : Hp := fun b => if b = A then none else H b
theorem cutA_self {H : Hp} {A : Addr} : cutA H A A = none := if_pos rfl
theorem cutA_upd {H : Hp} {A : Addr} (x : HO) : upd H A x = upd (cutA H A) A x := by
  funext b
  show (if b = A then some x else H b) = (if b = A then some x else (if b = A then none else H b))
  by_cases z : b = A
  · rw [if_pos z, if_pos z]
  · rw [if_neg z, if_neg z, if_neg z]
theorem cutA_in {H : Hp} {A : Addr} {o : HO} (h : H A = some o) : H = upd (cutA H A) A o := by
  rw [← cutA_upd]
  funext b
  by_cases z : b = A
  · subst z; rw [upd_same, h]
  · rw [upd_ne z]
theorem back_all {A : Addr} {o : HO} {F1 Hm F2 H2 F3 H3 : Hp} {σ3 : St} {e3 : Env} (no : NT o) (nA : Hm A = none) (l1 : Same F1 Hm) (g : Gr F1 (upd Hm A o) F2 H2) (T : SOk Z ⟨F2, H2, [], fun _ => none, fun _ => []⟩ F3 H3 σ3 e3) :
    H3 A = some o ∧ F3 A = none ∧ Same F1 F3 ∧ ∀ {N : En} {σ : St} {e : Env}, SOk Z N F1 Hm σ e → SOk Z N F3 (cutA H3 A) σ e := by
  have A2 : H2 A = some o := g.h _ _ upd_same
  have FA : F2 A = none := g.nf A _ upd_same no (none_le l1 nA)
  have k1 : H3 A = some o := T.h0 A _ A2 (by simp)
  have k2 : F3 A = none := T.nf A _ A2 no FA
  refine ⟨k1, k2, g.f.trans T.f0, fun S1 => S1.grow (g.f.trans T.f0) (fun b o' hb => ?_) (fun b o' hb => ?_) (fun b u hb nt n => ?_)⟩
  · have nb : b ≠ A := ne_of_none hb nA
    show (if b = A then none else H3 b) = some o'
    rw [if_neg nb]
    exact T.h0 b o' (g.h _ _ (by rw [upd_ne nb]; exact hb)) (by simp)
  · have nb : b ≠ A := fun z => by subst z; rw [k2] at hb; cases hb
    show (if b = A then none else H3 b) = some o'
    rw [if_neg nb]
    exact T.le _ _ hb
  · have nb : b ≠ A := ne_of_none hb nA
    have hb' : upd Hm A o b = some u := by rw [upd_ne nb]; exact hb
    exact T.nf b u (g.h _ _ hb') nt (g.nf b u hb' nt n)
/-! ### the block's slots behind a target -/
end
section
variable {ca : Str → Option Addr} {W : WX} {X : Cx} {fe f1 : EV} {w : WV} {c c1 : TV} {elt tg iter tg1 iter1 : Expr} {ifs ifs1 : List Expr} {scope : Scope} {own : List (Str × Nat)} {own1 : List Nat} {pos : Pos} {g g1 : TG} {t t1 : Tg}
end
end S3

/-! E1: an exception of an own class over ValueError whose __init__ says super().__init__('..') and keeps its arguments in fields of their names: what its making leaves. -/
namespace PySem
namespace S3X
open PySem.W PySem.Calls PyProof.Rows PySem.HandSPX

/-- the assignments self.f = f -/
def IsAsg : List Str → List Stmt → Prop
  | [], [] => True
  | f :: fs, s :: r => (∃ q1 q2 q3 q4, s = .Assign [.Attribute (.Name "self" q1) f q2] (.Name f q3) q4) ∧ IsAsg fs r
  | _, _ => False
/-- the text of such an __init__ -/
structure InitTxt (ps : Arguments) (sc : Scope) (body : List Stmt) (fs : List Str) : Prop where
  head : ∃ ar, (ps.posonlyargs ++ ps.args).head? = some ar ∧ ar.arg = "self"
  body : ∃ (txt : Str) (j : Nat) (p0 p1 p2 p3 p4 p5 : Pos) (asg : List Stmt), body = .Expr (.Call (.Attribute (.Call (.Name "super" p0) [] [] p1) "__init__" p2) [.Constant (.str txt) j p3] [] p4) p5 :: asg ∧ (p2.endLine == p4.line) = true ∧ IsAsg fs asg
  su : sc.names.lookup ("super" : Str) = some .globalImplicit
  cl : sc.names.lookup ("__class__" : Str) = some .free
  se : sc.names.lookup ("self" : Str) = some .local
  fl : ∀ f ∈ fs, sc.names.lookup f = some .local
  nd : (("self" : Str) :: fs).Nodup
  db : ∀ f ∈ fs, (f == ("__debug__" : Str)) = false
  nc : ∀ x ∈ sc.names, x.2 ≠ .cell
  co : sc.isCoroutine = false
  gn : sc.isGenerator = false
  kd : sc.kind = .function
/-- what the written part says of the class at C -/
structure ExT (prog : Program) (K : Frag) (C fI cc cda : Addr) (fd : FuncData) (fs : List Str) : Prop where
  cls : ∃ nm q N bs bm sn sub ab col dd k0 k1 k2 k3 k5, K.lookup C = some (excClassObj nm q C N bs bm true sn sub ab col dd k0 k1 k2 k3 k5 "ValueError.__new__") ∧ refsVE bm = true
  sa : findIn K (.ref C) "__setattr__" = some (some (.builtin "object.__setattr__"))
  exC : subIn K (.ref C) (.type "BaseException") = some true
  tyC : typeIn K (.ref C) = some (.type "type")
  kC : keepIn K (.ref C) = true
  noN : ∀ f ∈ fs, findIn K (.ref C) f = some none
  iC : findIn K (.ref C) "__init__" = some (some (.ref fI))
  tI : typeIn K (.ref fI) = some (.type "function")
  sup : ks_superIn K C C "__init__" = some (some (.builtin "ValueError.__init__"))
  vB : subIn K (.ref C) (.type "ValueError") = some true
  mC : mroIn K C (.ref C) = some true
  opq : nsIn K cStatics "thirdparty.any" = some none
  fn : ∃ oc od osl, K.lookup fI = some ⟨oc, od, .func fd, osl⟩
  fe : ∃ name qual params body scope dV kV doc pm an ct, fd = ksFn name qual params body scope dV kV doc pm an (.ref cda) ct cc ∧ InitTxt params scope body fs
  cd : codeIn K (.ref cda) fd.qualname = true
  code : ∃ ccl cdd vs ccs file tf, K.lookup cda = some ⟨ccl, cdd, .fields vs, ccs⟩ ∧ vs[2]? = some (.str file tf) ∧ ((prog.main.file : Str) == file) = true
  cell : ∃ cl cld csl, K.lookup cc = some ⟨cl, cld, .cell (some (.ref C)), csl⟩
  bd : ∀ (s : Shared) (e : Addr) (us : List Value), us.length = fs.length → BindsTo s fd ⟨.ref e :: us, []⟩ (("self", .ref e) :: fs.zip us)
  top : (prog.main.scope.names.lookup ("super" : Str)).isSome = false
abbrev exO (C : Addr) (d : Option Addr) (t : Addr) : Obj := { cls := .ref C, dict := d, data := .fields #[.ref t, .none, .none, .none, .bool false, .none] }
/-- fields put one after the other -/
def putAll : List (Str × Value) → (Str → Option Value) → Str → Option Value
  | [], m => m
  | (f, v) :: r, m => putAll r fun y => if y = f then some v else m y
section
variable {prog : Program} {w : World} {A : Around} {E : Value → Shared → Prop} {R : Result → Shared → Prop} {K : Frag} {C fI cc cda : Addr} {fd : FuncData} {fs : List Str}
theorem ldN {M : Model} {s : Shared} {env : Env} {m : Str → Option Value} {x : Str} {pos : Pos} {v : Value} {Q : Value → Shared → Prop} (hn : s.heap.Ns env.locals m) (hv : m x = some v) (h : Q v s)
    (hk : env.scope.kind = .function) (hl : env.kindOf x = some .local) (hd : (x == ("__debug__" : Str)) = false) : wpAny M A (eval (.Name x pos) env) Q E s := wpAny_Name (wpAny_loadName_local hk hl hn hv h) hd
theorem clsIn_of (T : ExT prog K C fI cc cda fd fs) : ∃ cd, clsIn K C = some cd ∧ refsVE cd.mro = true ∧ cd.hasDict = true := by
  obtain ⟨nm, q, N, bs, bm, sn, sub, ab, col, dd, k0, k1, k2, k3, k5, hC, hbm⟩ := T.cls
  refine ⟨{ name := nm, bases := bs, mro := .ref C :: bm, ns := N, qualname := q, hasDict := true, slotNames := sn, subclasses := sub, abstract := ab, collection := col, hasDel := false }, ?_, hbm, rfl⟩
  unfold clsIn; rw [hC] <;> rfl
/-- the further fields -/
theorem asgs_old (T : ExT prog K C fI cc cda fd fs) {env : Env} {m : Str → Option Value} {e : Addr} (hk : env.scope.kind = .function) (se : env.kindOf "self" = some .local) (ms : m "self" = some (.ref e)) :
    ∀ {l : List (Str × Value)} {body : List Stmt} {s : Shared} {dx t1 : Addr} {m0 : Str → Option Value} {nl : List Str} {Q : Flow → Shared → Prop}, IsAsg (l.map (·.1)) body → (∀ p ∈ l, m p.1 = some p.2 ∧ env.kindOf p.1 = some .local ∧ (p.1 == ("__debug__" : Str)) = false ∧ p.1 ∈ fs) →
      K.In s.heap → s.heap.Ns env.locals m → env.locals ≠ dx → env.locals ≠ e → dx ≠ e → (∀ o, K.lookup dx ≠ some o) → s.heap.get? e = some (exO C (some dx) t1) → s.heap.Ns1 dx m0 → Within m0 nl → nl.length + l.length ≤ 900 →
      (∀ h' tk, (∀ b o, b ≠ dx → s.heap.get? b = some o → h'.get? b = some o) → h'.Ns1 dx (putAll l m0) → Q .next { s with heap := h', toks := tk }) → wpAny (model prog w) A (execs body env) Q E s := by
  obtain ⟨cd, hcl, hmr, hdi⟩ := clsIn_of T
  intro l
  induction l with
  | nil =>
    intro body s dx t1 m0 nl Q hb _ _ _ _ _ _ _ _ hns _ _ hq
    cases body with
    | cons _ _ => exact hb.elim
    | nil => exact wpAny_execs_nil (hq s.heap s.toks (fun _ _ _ h => h) hns)
  | cons p l ih =>
    intro body s dx t1 m0 nl Q hb hp X hn nL ne nd nK he hns hw hz hq
    obtain ⟨f, v⟩ := p
    cases body with
    | nil => exact hb.elim
    | cons st body =>
      obtain ⟨⟨q1, q2, q3, q4, rfl⟩, hb⟩ := hb
      obtain ⟨mv, kf, df, hf⟩ := hp (f, v) List.mem_cons_self
      refine wpAny_execs_cons (plainObj_wpAny_Assign_Attribute ?_)
      refine ldN hn mv (ldN hn ms ?_ hk se (by decide)) hk kf df
      obtain ⟨hp', g, d, t, os⟩ := s
      obtain ⟨oD, esD, epD, hoD, hdD, _⟩ := hns.count hw
      refine set_plain X (ox := exO C (some dx) t1) (od := some oD) ⟨he, rfl, rfl, hoD⟩ T.sa ?_
      refine PySem.OEX.osa_old X he hns hw (by rw [List.length_cons] at hz; omega) hcl hmr hdi (T.noN f hf) (fun h' tk' k hn' => ?_)
      have X' : K.In h' := fun a o q => k a o (fun z => nK o (by rw [← z]; exact q)) (X a o q)
      refine ih hb (fun p hp' => hp p (List.mem_cons_of_mem _ hp')) X' (hn.at fun o q => k _ _ nL q) nL ne nd nK (k _ _ (Ne.symm nd) he) hn' (Within.cons f v hw) (by rw [List.length_cons] at hz ⊢; omega) fun h2 tk2 k2 hn2 => ?_
      exact hq h2 tk2 (fun b o hb ho => k2 b o hb (k b o hb ho)) hn2
end
end S3X
end PySem

/-! E2: the __init__ run, the exception made. -/
namespace PySem
namespace S3X
open PySem.W PySem.Calls PyProof.Rows PySem.HandSPX
section
variable {prog : Program} {w : World} {A : Around} {E : Value → Shared → Prop} {R : Result → Shared → Prop} {K : Frag} {C fI cc cda : Addr} {fd : FuncData} {fs : List Str}
theorem quiet_of {env : Env} (h : env.scope.kind = .function) : interactive env = false := by
  unfold interactive
  first
    | (rw [h]; rfl)
    | simp [Env.blockKind, h]
theorem not_in {h : Heap} {b : Addr} (X : K.In h) (n : h.get? b = none) : ∀ o, K.lookup b ≠ some o := fun o q => by
  have := X _ _ q
  rw [n] at this; cases this
theorem call_line {o : Expr} {name : Str} {apos pos : Pos} {args : List Expr} {env : Env} (hf : methodCallForm (args.length + 0) (backTo pos (starEach args env)) [] = true) (hl : (apos.endLine == pos.line) = true) :
    eval (.Call (.Attribute o name apos) args [] pos) env = (do
      let ov ← attributeBase o name env (eval o env)
      standAt apos.atName
      let (f, first) ← holding [ov] (getMethod ov name (do return (← importBound o env).getD true))
      callWith pos f first (backTo pos (starEach args env)) []) := by
  have e : backToKw pos (keywordEach [] env) = [] := rfl
  have hp : methodCallPos true o env apos pos = pure pos := by unfold methodCallPos; simp [hl]
  have hc : ∀ ov, calleeOf true o env ov name = getMethod ov name (do return (← importBound o env).getD true) := fun _ => rfl
  rw [arm_eval_Call]
  unfold methodCall
  simp only [List.length_nil, e, hf, hp, hc, pure_bind]
/-- super().__init__('..') -/
theorem sup_run (T : ExT prog K C fI cc cda fd fs) {name qual : Str} {params : Arguments} {scope : Scope} {body : List Stmt} {dV kV doc pm ct : Value} {an : Option Addr} (hfd : fd = ksFn name qual params body scope dV kV doc pm an (.ref cda) ct cc) (I : InitTxt params scope body fs)
    {L e t0 : Addr} {h : Heap} {g : Array GenState} {d : Drawn} {t : Nat} {os : OsState} {m mg mb : Str → Option Value} {txt : Str} {j : Nat} {p0 p1 p2 p3 p4 p5 : Pos} {Q : Flow → Shared → Prop} (hl : (p2.endLine == p4.line) = true) (X : K.In h) (hn : h.Ns L m) (ms : m "self" = some (.ref e)) (G : h.Ns mainGlobals mg) (hms : mg "super" = none) (B : h.Ns builtinsNs mb) (hbs : mb "super" = some (.type "super"))
    (hx : h.get? e = some (exO C none t0)) (hnx : ∀ o, K.lookup e ≠ some o)
    (hq : ∀ h' t1 tk, (∀ b o, b ≠ e → h.get? b = some o → h'.get? b = some o) → h'.get? e = some (exO C none t1) → Q .next ⟨h', g, d, tk, os⟩) :
    _root_.PySem.wpAt (model prog w) A (.func body (ksEnv qual scope L fI (.ref cda) cc)) (exec (.Expr (.Call (.Attribute (.Call (.Name "super" p0) [] [] p1) "__init__" p2) [.Constant (.str txt) j p3] [] p4) p5) (ksEnv qual scope L fI (.ref cda) cc)) Q E ⟨h, g, d, t, os⟩ := by
  obtain ⟨cdC, hcl, hmr, hdi⟩ := clsIn_of T
  obtain ⟨nm, q, N, bs, bm, sn, sub, ab, col, dd, k0, k1, k2, k3, k5, hC, hbm⟩ := T.cls
  obtain ⟨oc, od, osl, hf⟩ := T.fn
  obtain ⟨ar, har, hself⟩ := I.head
  obtain ⟨ccl, cdd, vs, ccs, file, tf, hcode, hvs, hfile⟩ := T.code
  obtain ⟨cl, cld, csl, hcell⟩ := T.cell
  refine ks_wpAt_Expr_any (ks_wpAt_MethodCall (pl := do return (← importBound (.Call (.Name "super" p0) [] [] p1) (ksEnv qual scope L fI (.ref cda) cc)).getD true) ?_ (call_line (by rfl) hl)) (hi := quiet_of I.kd)
  refine ks_wpAt_super_base (of := ⟨oc, od, .func fd, osl⟩) (fd := fd) I.su I.cl (by decide) rfl (X _ _ hf) rfl (by rw [hfd]; exact har) rfl (X _ _ hcode) rfl hvs hfile T.top ?_
  refine ks_loadName_global I.kd I.su (loadGlobal_builtin G hms B hbs ⟨rfl, ?_⟩)
  refine wpAny_loadName_free I.kd I.cl rfl ⟨_, X _ _ hcell, rfl⟩ ?_
  refine wpAny_loadName_local I.kd (by rw [hself]; exact I.se) hn (by rw [hself]; exact ms) ?_
  refine ks_wpAny_isType_cls (X _ _ hC) rfl ⟨rfl, ?_⟩
  refine ks_wpAny_call_super (X _ _ hC) rfl hx rfl (fun c z => by cases z) (looks_mroIn X T.mC) (fun h1 e1 kk1 => ?_)
  have hx1 := kk1 _ _ hx
  have X1 : K.In h1 := X.keeps kk1
  have J1 : InstAt h1 e (exO C none t0) C none := ⟨hx1, rfl, rfl, trivial⟩
  have hI : Looks (model prog w) h1 (isInstance (.ref e) (.type "ValueError")) true := J1.type.andThen (looks_subIn X1 T.vB)
  have sp := T.sup
  unfold ks_superIn at sp
  rw [hcl] at sp
  refine kxs_getMethod kxs_ValueError e1 (looks_opaque X1 T.opq) (l₀ := cdC.mro) ?_ rfl X1 sp hI (fun z => hnx _ (by rw [z]; exact hC)) (by decide) ?_
  · exact fun A Q E s k q => wpAny_bind ((looks_clsIn X1 hcl) A _ E s k (wpAny_pure q))
  have k2 : ∀ b o, h1.get? b = some o → (h1.push (kxs_mw "ValueError.__init__" e)).get? b = some o := fun b o z => Heap.get?_push_of_some _ z
  have hu : (h1.push (kxs_mw "ValueError.__init__" e)).get? h1.objs.size = some (kxs_mw "ValueError.__init__" e) := Heap.get?_push_at rfl rfl
  refine kxs_callWith (i := "ValueError.__init__") (x := e) (by rfl) (evalArgs_plain (spliced_cons (Constant_str (k := j) (pos := p3) (spliced_nil ⟨hu, ?_⟩))))
  have hC2 := (X1.keeps k2) _ _ hC
  have he2 := k2 _ _ hx1
  refine wpAny_call (codeAny_of_tree ?_)
  show wpAny _ A.in1 (callAny (.ref _) ⟨_, []⟩) _ _ _
  simp only [callAny]
  refine wpAny_bind (wpAny_load hu ?_)
  simp only [kxs_mw, show (Value.type "method-wrapper" == Value.type "method" || Value.type "method-wrapper" == Value.type "builtin_function_or_method" || Value.type "method-wrapper" == Value.type "method-wrapper") = true by decide, if_true]
  refine KFB.if_so (by decide) ?_
  refine wpAny_bind (check_bound_init F.excBase_ValueError.toExcCallFacts hC2 he2 rfl ?_)
  refine wpAny_bind (wpAny_pure (wpAny_pure ?_))
  refine ⟨plainId_quiet F.excBase_ValueError.init.plain _, codeAny_builtin F.excBase_ValueError.initEntry ?_⟩
  refine exc_init_tree (cls := .ref C) (t0 := t0) (dv := none) (c2 := .none) (c3 := .none) (b4 := .bool false) he2 (by rw [sizeLine_eq]; simp) (fun h3 kk3 e3 _ => ?_)
  exact hq h3 _ _ (fun b o hb ho => kk3 b o hb (k2 b o (kk1 b o ho))) e3
end
end S3X
end PySem

/-! E3: an exception made by its class's call; the rule for raise. -/
namespace PySem
namespace S3X
open PySem.W PySem.Calls PyProof.Rows PySem.HandSPX
theorem lookup_rev : ∀ {l : List (Str × Value)} {f : Str} {v : Value}, (l.map (·.1)).Nodup → (f, v) ∈ l → l.reverse.lookup f = some v
  | [], _, _, _, h => by cases h
  | (g, u) :: l, f, v, nd, h => by
    rw [List.map_cons, List.nodup_cons] at nd
    rw [List.reverse_cons, List.lookup_append]
    rcases List.mem_cons.mp h with e | e
    · obtain ⟨e1, e2⟩ := Prod.mk.inj e
      rw [e1, e2]
      have : l.reverse.lookup g = none := by
        rw [List.lookup_eq_none_iff]
        intro p hp
        have hp' := List.mem_reverse.mp hp
        have : p.1 ≠ g := fun z => nd.1 (by rw [← z]; exact List.mem_map.mpr ⟨p, hp', rfl⟩)
        simpa using Ne.symm this
      rw [this]
      simp [List.lookup]
    · rw [lookup_rev nd.2 e]
      rfl
theorem keys_zip : ∀ {fs : List Str} {us : List Value}, us.length = fs.length → (fs.zip us).map (·.1) = fs
  | [], _, _ => rfl
  | f :: fs, [], h => by cases h
  | f :: fs, u :: us, h => by rw [List.zip_cons_cons, List.map_cons, keys_zip (Nat.succ.inj h)]
section
variable {prog : Program} {w : World} {A : Around} {E : Value → Shared → Prop} {R : Result → Shared → Prop} {K : Frag} {C fI cc cda : Addr} {fd : FuncData} {fs : List Str}
theorem init_run (T : ExT prog K C fI cc cda fd fs) {s : Shared} {e t0 : Addr} {us : List Value} {mg mb : Str → Option Value} (hfs : fs ≠ []) (hz : fs.length ≤ 800) (hl : us.length = fs.length) (X : K.In s.heap) (hlim : s.heap.NoLimit) (G : s.heap.Ns mainGlobals mg) (hms : mg "super" = none) (B : s.heap.Ns builtinsNs mb) (hbs : mb "super" = some (.type "super"))
    (hx : s.heap.get? e = some (exO C none t0)) (hnx : ∀ o, K.lookup e ≠ some o) (hroom : A.depth < recursionLimit)
    (hq : ∀ h' tk dx t1, (∀ b o, b ≠ e → s.heap.get? b = some o → h'.get? b = some o) → h'.get? e = some (exO C (some dx) t1) → s.heap.objs.size ≤ dx → dx ≠ e → h'.Ns1 dx (putAll (fs.zip us) fun _ => none) → R (.ok (.ret .none)) { s with heap := h', toks := tk }) :
    codeAny (model prog w) A (.call (.ref fI) ⟨.ref e :: us, []⟩) R s := by
  obtain ⟨oc, od, osl, hf⟩ := T.fn
  obtain ⟨name, qual, params, body, scope, dV, kV, doc, pm, an, ct, hfd, I⟩ := T.fe
  obtain ⟨cdC, hcl, hmr, hdi⟩ := clsIn_of T
  have hkeys : ((("self" : Str), Value.ref e) :: fs.zip us).map (·.1) = ("self" : Str) :: fs := by rw [List.map_cons, keys_zip hl]
  have hnd : (((("self" : Str), Value.ref e) :: fs.zip us).map (·.1)).Nodup := by rw [hkeys]; exact I.nd
  have lk : ∀ {f v}, (f, v) ∈ (("self" : Str), Value.ref e) :: fs.zip us → ((("self" : Str), Value.ref e) :: fs.zip us).reverse.lookup f = some v := fun h => lookup_rev hnd h
  have hT := T
  have hbd := T.bd s e us hl
  have hcd := T.cd
  subst hfd
  refine ks_codeAny_call_defAt (body := body) (binds := ("self", .ref e) :: fs.zip us) hroom (X _ _ hf) rfl hlim (codeRec_of X hcd) rfl hbd I.nc (fun x hx => ?_) (fun h1 hns k1 => ?_) I.co I.gn I.kd
  · rcases List.mem_cons.mp hx with q | q
    · rw [q]; exact I.se
    · exact I.fl _ (by rw [← keys_zip hl]; exact List.mem_map.mpr ⟨x, q, rfl⟩)
  obtain ⟨hp, g, d, t, os⟩ := s
  have X1 : K.In h1 := X.keeps k1
  have hL : ∀ {b : Addr} {o : Obj}, hp.get? b = some o → hp.objs.size ≠ b := fun z => Nat.ne_of_gt (Heap.lt_size z)
  obtain ⟨txt, j, p0, p1, p2, p3, p4, p5, asg, hb, hl2, ha⟩ := I.body
  show _root_.PySem.wpAt (model prog w) (A.deeper (ksEnv qual scope hp.objs.size fI (.ref cda) cc)) (.func body (ksEnv qual scope hp.objs.size fI (.ref cda) cc)) (execs body (ksEnv qual scope hp.objs.size fI (.ref cda) cc)) _ _ _
  have hex : execs body (ksEnv qual scope hp.objs.size fI (.ref cda) cc) = execs (.Expr (.Call (.Attribute (.Call (.Name "super" p0) [] [] p1) "__init__" p2) [.Constant (.str txt) j p3] [] p4) p5 :: asg) (ksEnv qual scope hp.objs.size fI (.ref cda) cc) := by rw [← hb]
  rw [hex]
  refine ks_wpAt_execs_cons (sup_run hT rfl I hl2 X1 hns (lk List.mem_cons_self) (G.keeps k1) hms (B.keeps k1) hbs (k1 _ _ hx) hnx (fun h2 t2 tk2 k2 e2 => ?_))
  show _root_.PySem.wpAt _ _ _ (execs asg _) _ _ _
  refine wpAt_of_wpAny ?_
  cases hfs' : fs with
  | nil => exact (hfs hfs').elim
  | cons f fs' =>
    cases hus' : us with
    | nil => rw [hus', hfs'] at hl; cases hl
    | cons v us' =>
      rw [hfs'] at ha
      cases asg with
      | nil => exact ha.elim
      | cons st asg =>
        obtain ⟨⟨q1, q2, q3, q4, rfl⟩, ha⟩ := ha
        have hff : f ∈ fs := by rw [hfs']; exact List.mem_cons_self
        have hzip : fs.zip us = (f, v) :: fs'.zip us' := by rw [hfs', hus', List.zip_cons_cons]
        have X2 : K.In h2 := fun a o q => k2 a o (fun z => hnx o (by rw [← z]; exact q)) (X1 a o q)
        have n2 := hns.at fun o q => k2 _ _ (hL hx) q
        refine wpAny_execs_cons (plainObj_wpAny_Assign_Attribute ?_)
        refine ldN n2 (lk (List.mem_cons_of_mem _ (by rw [hzip]; exact List.mem_cons_self))) (ldN n2 (lk List.mem_cons_self) ?_ I.kd I.se (by decide)) I.kd (I.fl f hff) (I.db f hff)
        refine set_plain X2 (ox := exO C none t2) (od := none) ⟨e2, rfl, rfl, trivial⟩ T.sa ?_
        refine exc_osa X2 e2 hcl hmr hdi (T.noN f hff) (fun h3 tk3 dx k3 dn dne e3 n3 => ?_)
        have X3 : K.In h3 := fun a o q => k3 a o (fun z => hnx o (by rw [← z]; exact q)) (X2 a o q)
        have h2L : ∀ {b : Addr} {o : Obj}, h2.get? b = some o → b ≠ dx := fun z => Nat.ne_of_lt (Nat.lt_of_lt_of_le (Heap.lt_size z) dn)
        have dxn : h2.get? dx = none := by
          cases q : h2.get? dx with
          | none => rfl
          | some o => exact absurd rfl (h2L q)
        obtain ⟨oL, _, _, hoL, _⟩ := id n2
        have old : ∀ {b : Addr} {o : Obj}, b ≠ e → hp.get? b = some o → h2.get? b = some o := fun hb z => k2 _ _ hb (k1 _ _ z)
        have hlen : us'.length = fs'.length := by rw [hfs', hus'] at hl; exact Nat.succ.inj hl
        have szz : hp.objs.size ≤ dx := Nat.le_of_lt (Nat.lt_of_lt_of_le (Heap.lt_size hoL) dn)
        refine asgs_old hT (env := ksEnv qual scope hp.objs.size fI (.ref cda) cc) (m := fun x => ((("self" : Str), Value.ref e) :: fs.zip us).reverse.lookup x) (e := e) I.kd I.se (lk List.mem_cons_self) (l := fs'.zip us') (dx := dx) (t1 := t2) (nl := [f]) (by rw [keys_zip hlen]; exact ha) (fun p hp' => ?_) X3 (n2.at fun o q => k3 _ _ (hL hx) q) (h2L hoL) (hL hx) dne (not_in X2 dxn) e3 n3
          (Within.cons f v (fun y hy => absurd rfl hy)) (by rw [List.length_zip, hlen, Nat.min_self]; rw [hfs', List.length_cons] at hz; show 1 + fs'.length ≤ 900; omega) (fun h4 tk4 k4 n4 => ?_)
        · have hm : p.1 ∈ fs := by rw [hfs', ← keys_zip hlen]; exact List.mem_cons_of_mem _ (List.mem_map.mpr ⟨p, hp', rfl⟩)
          exact ⟨lk (List.mem_cons_of_mem _ (by rw [hzip]; exact List.mem_cons_of_mem _ hp')), I.fl _ hm, I.db _ hm, hm⟩
        · refine hq h4 tk4 dx t2 (fun b o hb z => ?_) ?_ szz dne (by rw [hzip]; exact n4)
          · have z2 := old hb z
            exact k4 b o (h2L z2) (k3 b o hb z2)
          · exact k4 _ _ (Ne.symm dne) e3
end
end S3X
end PySem

/-! E4: C(..), C such a class; raise C(..). -/
namespace PySem
namespace S3X
open PySem.W PySem.Calls PyProof.Rows PySem.HandSPX
section
variable {prog : Program} {w : World} {A : Around} {E : Value → Shared → Prop} {R : Result → Shared → Prop} {K : Frag} {C fI cc cda : Addr} {fd : FuncData} {fs : List Str}
theorem made (T : ExT prog K C fI cc cda fd fs) {s : Shared} {us : List Value} {mg mb : Str → Option Value} (hfs : fs ≠ []) (hz : fs.length ≤ 800) (hl : us.length = fs.length) (X : K.In s.heap) (hlim : s.heap.NoLimit) (G : s.heap.Ns mainGlobals mg) (hms : mg "super" = none) (B : s.heap.Ns builtinsNs mb) (hbs : mb "super" = some (.type "super"))
    (hroom : A.depth + 1 < recursionLimit)
    (hq : ∀ h' tk e d t1, (∀ b o, s.heap.get? b = some o → h'.get? b = some o) → s.heap.objs.size ≤ e → h'.get? e = some (exO C (some d) t1) → s.heap.objs.size ≤ d → d ≠ e → h'.Ns1 d (putAll (fs.zip us) fun _ => none) → R (.ok (.ret (.ref e))) { s with heap := h', toks := tk }) :
    codeAny (model prog w) A (.call (.ref C) ⟨us, []⟩) R s := by
  obtain ⟨nm, q, N, bs, bm, sn, sub, ab, col, dd, k0, k1, k2, k3, k5, hC, hbm⟩ := T.cls
  obtain ⟨hp, g, dr, tk, os⟩ := s
  have k : ∀ b o, hp.get? b = some o → ((hp.push (kdv_tup us)).push (excO C hp.objs.size)).get? b = some o := fun b o e => Heap.get?_push_of_some _ (Heap.get?_push_of_some _ e)
  have hget : ((hp.push (kdv_tup us)).push (excO C hp.objs.size)).get? (hp.objs.size + 1) = some (excO C hp.objs.size) := by heap_get
  have hnx : ∀ o, K.lookup (hp.objs.size + 1) ≠ some o := fun o z => by
    have y : hp.get? (hp.objs.size + 1) = some o := X _ _ z
    exact absurd (Nat.lt_of_succ_lt (Heap.lt_size y)) (Nat.lt_irrefl _)
  refine call_own F.excBase_ValueError (fun X => refsVE_contains X bm hbm) (X _ _ hC) (looks_findIn X T.iC) (fun self => bind_fn X self T.tI) (by rw [sizeLine_eq]; omega) ?_
  refine init_run (s := ⟨(hp.push (kdv_tup us)).push (excO C hp.objs.size), g, dr, tk, os⟩) T hfs hz hl (X.keeps k) (hlim.keeps k) (G.keeps k) hms (B.keeps k) hbs hget hnx ?_ fun h' tk' dx t1 k' hx dn dne hns => ?_
  · show A.depth + 1 < recursionLimit
    exact hroom
  · have old : ∀ b o, hp.get? b = some o → h'.get? b = some o := fun b o e => k' b o (Nat.ne_of_lt (Nat.lt_succ_of_lt (Heap.lt_size e))) (k b o e)
    have z : hp.objs.size + 1 + 1 ≤ dx := by
      first
        | (simpa only [Heap.size_push] using dn)
        | exact dn
        | (have q := dn; rw [Heap.size_push, Heap.size_push] at q; exact q)
    exact ⟨rfl, hq h' tk' (hp.objs.size + 1) dx t1 old (Nat.le_succ _) hx (Nat.le_trans (Nat.le_trans (Nat.le_succ _) (Nat.le_succ _)) z) dne hns⟩
end
end S3X
end PySem
namespace L2
open PySem PySem.Spec PyProof.Rows PySem.S3X
section
variable {X : Cx} {C fI cc cda : Addr} {fd : FuncData} {fs : List Str} {e : Expr} {es : List Expr} {ta : TA} {p pos : Pos} {x : Str}
end
end L2

/-! E5: raise C(..), try: .. except D as n: .. -/
namespace S3
open PySem PySem.Spec L2
/-- an exception class's name (other own classes' keys begin with @) -/
def xnm (c : Str) : Bool := match c.cps.toList with | 64 :: _ => false | _ => true
/-- the classes' places with the exception's own -/
def caX (ca : Str → Option Addr) (a : Addr) (cls : Value) (d : Option Addr) : Str → Option Addr := fun s =>
  if s = "" then some a else if s = " " then d else if s = "  " then (match cls with | .ref C => some C | _ => none) else ca s
section
variable {P : Program} {w : World} {K : PySem.W.Frag} {ca ca' : Str → Option Addr} {F H : Hp}
end
end S3

/-! E6: the rules for raise, try, and for what a suite reads of the exception. -/
namespace S3
open PySem PySem.Spec L2
section
variable {ca : Str → Option Addr} {W : WX} {X : Cx} {e : Expr} {es : List Expr} {fa : AV} {p pos pos2 : Pos} {x : Str}
end
section
variable {ca : Str → Option Addr} {W : WX} {X : Cx} {x n : Str} {c : Value} {i : Nat} {body suite : List Stmt} {b₀ : Stmt} {np pos pos' : Pos} {b h : SV}
end
end S3

/-! E7: in an except suite: isinstance(n, C), n.f. -/
namespace S3
open PySem PySem.Spec L2
section
variable {X : Cx} {a : Addr} {oe : Obj} {cls : Value} {d : Option Addr} {pn : List (Addr × Obj)}
end
section
variable {ca : Str → Option Addr} {W : WX} {X : Cx} {a : Addr} {oe : Obj} {cls : Value} {d : Option Addr} {pn : List (Addr × Obj)} {e : Expr} {fe : EV} {p p2 pos : Pos} {fs : List Str}
end
end S3

/-! E8: raise C(..) from D(..). -/
namespace S3F
open PySem PySem.Spec PyProof.Rows HotX
end S3F
namespace L2
open PySem PySem.Spec PyProof.Rows PySem.S3X S3F
section
variable {X : Cx} {pins : List (Addr × Obj)} {σ : St} {H : Hp} {s : Shared}
end
end L2

/-! E9: the rule for raise C(..) from D(..). -/
namespace L2
open PySem PySem.Spec PyProof.Rows PySem.S3X S3F
section
variable {X : Cx} {C fI cc cda : Addr} {fd : FuncData} {fs : List Str} {C2 fI2 cc2 cda2 : Addr} {fd2 : FuncData} {fs2 : List Str} {e : Expr} {es : List Expr} {e2 : Expr} {es2 : List Expr} {ta tb : TA} {p pos q0 q1 pos2 : Pos} {x y : Str}
end
end L2
namespace S3
open PySem PySem.Spec L2
section
variable {ca : Str → Option Addr} {W : WX} {X : Cx} {e : Expr} {es : List Expr} {e2 : Expr} {es2 : List Expr} {fa fb : AV} {p pos q0 q1 pos2 : Pos} {x y : Str}
end
end S3

/-! E10: raise C(), C an own exception class without __init__. -/
namespace L2
open PySem PySem.Spec PyProof.Rows
end L2
namespace S3
open PySem PySem.Spec L2
end S3

/-! F1: match over a tuple: cases of a head word or several and names behind it. -/
namespace S3
open PySem PySem.Spec L2
inductive CapPats (X : Cx) : List Pattern → List Nat → List Str → Prop
  | nil : CapPats X [] [] []
  | cons {n : Str} {q : Pos} {i : Nat} {ps : List Pattern} {is : List Nat} {ns : List Str} : X.N[i]? = some n → X.env.scope.names.lookup n = some .local → CapPats X ps is ns → CapPats X (.MatchAs none (some n) q :: ps) (i :: is) (n :: ns)
section
variable {ca : Str → Option Addr} {W : WX} {X : Cx}
theorem CapPats.len {ps : List Pattern} {is : List Nat} {ns : List Str} (hp : CapPats X ps is ns) : ps.length = is.length ∧ (ps.findIdx? (·.isStar) = none) ∧ (ps.all fun p => !p.isStar) = true := by
  induction hp with
  | nil => exact ⟨rfl, rfl, rfl⟩
  | cons _ _ _ ih => exact ⟨congrArg Nat.succ ih.1, by rw [List.findIdx?_cons, ih.2.1]; rfl, by rw [List.all_cons, ih.2.2]; rfl⟩
end
end S3

/-! F2: sep.join(a), a.split(sep), sep a written text. -/
namespace S3
open PySem PySem.Spec L2
section
variable {Z : Wd} {F H : Hp}
end
section
variable {ca : Str → Option Addr} {W : WX} {X : Cx} {e : Expr} {fe : EV} {a : Str} {j : Nat} {p apos pos : Pos}
end
end S3

/-! F3: the facts of the classes bundled; the law's end over classes. -/
namespace S3
open PySem PySem.Spec L2
section
variable {ca : Str → Option Addr} {W : WX} {X : Cx} {a : Addr} {oe : Obj} {cls : Value} {d : Option Addr} {pn : List (Addr × Obj)} {e : Expr} {fe : EV} {p p2 pos : Pos} {fs : List Str}
end
section
variable {ca : Str → Option Addr} {W : WX} {X : Cx} {x n : Str} {i : Nat} {body suite : List Stmt} {b₀ : Stmt} {np pos pos' : Pos} {b h : SV} {fs : List Str}
end
end S3

/-! I1: own instances: fields, making, methods, properties. -/
namespace L2
open PySem PySem.Spec PyProof.Rows
section
variable {X : Cx} {CX : CXT} {k : Nat} {f C : Addr} {fd : FuncData} {ps : List Str} {sp : Sp} {E : St → XK} {x m : Str} {p pos apos : Pos} {e o : Expr} {es : List Expr} {ta : TE} {t : TA}
end
end L2
namespace S3
open PySem PySem.Spec L2
/-! ### terms -/
def noMut : List Md → Bool
  | [] => true | .m :: _ => false | _ :: ms => noMut ms
/-! ### facts -/
section
variable {Z : Wd} {F F' H H' : Hp} {N : En} {σ : L2.St} {e e' : Env} {v x y : V} {W : WX} {E : Ends}
end
end S3

/-! I2: own instances: the readings and the rules. -/
namespace S3
open PySem PySem.Spec L2
section
variable {Z : Wd} {F F' H H' : Hp} {N : En} {σ : L2.St} {e e' : Env} {v x y : V} {W : WX} {E : Ends}
theorem noMut_at : ∀ {ms : List Md} {vs : List V} {i : Nat} {a : Addr}, noMut ms = true → mAt ms vs i = some a → False
  | [], _, _, _, _, h => by simp [mAt] at h
  | .m :: ms, _, _, _, h, _ => by cases h
  | .v :: ms, vs, 0, a, _, h => by simp [mAt] at h
  | .r :: ms, vs, 0, a, _, h => by simp [mAt] at h
  | .v :: ms, [], i + 1, a, h, q => by simp [mAt] at q
  | .r :: ms, [], i + 1, a, h, q => by simp [mAt] at q
  | .v :: ms, w :: vs, i + 1, a, h, q => noMut_at (ms := ms) (vs := vs) (i := i) h (by simpa [mAt] using q)
  | .r :: ms, w :: vs, i + 1, a, h, q => noMut_at (ms := ms) (vs := vs) (i := i) h (by simpa [mAt] using q)
theorem noMut_set : ∀ {ms : List Md} {vs : List V}, noMut ms = true → mSet ms vs = []
  | [], _, _ => by simp [mSet]
  | .m :: ms, _, h => by cases h
  | .v :: ms, [], h => by simp [mSet]
  | .r :: ms, [], h => by simp [mSet]
  | .v :: ms, v :: vs, h => by
    show mSet ms vs = []
    exact noMut_set h
  | .r :: ms, v :: vs, h => by
    show mSet ms vs = []
    exact noMut_set h
end
section
variable {ca : Str → Option Addr} {W : WX} {X : Cx} {o a : Expr} {es : List Expr} {fo fa : EV} {ga : AV} {pos p apos p2 : Pos} {c m n : Str} {k : Nat} {ms : List Md} {phi : List D → RC}
end
end S3

/-! I3: isinstance by own classes and of own instances; own operators; constants of a class. -/
namespace L2
open PySem PySem.Spec PyProof.Rows
section
variable {X : Cx} {CX : CXT} {k : Nat} {g C : Addr} {fd : FuncData} {ps : List Str} {sp : Sp}
end
end L2
namespace S3
open PySem PySem.Spec L2
/-! ### terms -/
/-! ### facts -/
section
variable {Z : Wd} {F F' H H' : Hp} {N : En} {σ : L2.St} {e e' : Env} {v x y : V} {W : WX} {E : Ends}
end
section
variable {ca : Str → Option Addr} {W : WX} {X : Cx} {a b : Expr} {fa fb : EV} {pos p p2 : Pos} {c n : Str} {k : Nat} {phi : List D → RC}
end
end S3

/-! ST1: the tables of sets up to 300 items (the roads of HandS.TupSets, widened by one mask). -/
namespace STK
open PySem PySem.Spec PyProof.Rows L2
/-! ### the round of i -> 5 i + 1 -/
/-- the masks that come -/
def MaskOk (m : Nat) : Prop := m = 7 ∨ m = 31 ∨ m = 127 ∨ m = 511
/-! ### the way of a search -/
/-- SetTable.advance, by the mask alone -/
def adv (m : Nat) (p : SetTable.Probe) : SetTable.Probe :=
  if p.more > 0 then { p with j := p.j + 1, more := p.more - 1 } else
  { p with j := (SetTable.leap m p.i p.perturb).1, more := SetTable.runEnd m (SetTable.leap m p.i p.perturb).1 - (SetTable.leap m p.i p.perturb).1, i := (SetTable.leap m p.i p.perturb).1, perturb := (SetTable.leap m p.i p.perturb).2 }
def nth (m : Nat) (p : SetTable.Probe) : Nat → SetTable.Probe
  | 0 => p
  | k + 1 => nth m (adv m p) k
theorem nth_add (m : Nat) : ∀ (a : Nat) (p : SetTable.Probe) (k : Nat), nth m p (a + k) = nth m (nth m p a) k
  | 0, p, k => by rw [Nat.zero_add]; rfl
  | a + 1, p, k => by
    have e : a + 1 + k = (a + k) + 1 := by omega
    rw [e]
    exact nth_add m a (adv m p) k
theorem nth_succ (m : Nat) (p : SetTable.Probe) (k : Nat) : nth m p (k + 1) = adv m (nth m p k) := nth_add m k p 1
/-- a run's first state -/
def runAt (m i perturb : Nat) : SetTable.Probe := { j := i, more := SetTable.runEnd m i - i, i, perturb, dummy := none }
/-- within a run -/
theorem nth_run (m : Nat) (i perturb : Nat) : ∀ k, k ≤ SetTable.runEnd m i - i → nth m (runAt m i perturb) k = { j := i + k, more := SetTable.runEnd m i - i - k, i, perturb, dummy := none }
  | 0, _ => rfl
  | k + 1, h => by
    rw [nth_succ, nth_run m i perturb k (by omega)]
    unfold adv
    have hp : SetTable.runEnd m i - i - k > 0 := by omega
    rw [if_pos hp]
    rfl
/-! ### slots -/
/-! ### the table's word -/
abbrev way (m : Nat) (h : Int) (k : Nat) : Nat := (nth m (runAt m (SetTable.bits h % (m + 1)) (SetTable.bits h)) k).j
/-- a table whose slots all are found again from their hashes -/
structure TabOk (t : SetTable) (hs : List Int) : Prop where
  ris : Ris t.place.toList
  dm : t.dummies = #[]
  sz : t.place.size = hs.length
  mok : MaskOk t.mask
  bd : ∀ x ∈ t.place.toList, x ≤ t.mask
  reach : ∀ (i : Nat) (h : Int) (j : Nat), hs[i]? = some h → t.place.toList[i]? = some j → ∃ k, way t.mask h k = j ∧ ∀ k', k' < k → way t.mask h k' ∈ t.place.toList
end STK

namespace STK
open PySem PySem.Spec PyProof.Rows L2

/-! ### the way stays within the table -/
/-! ### one put in -/
/-! ### laying all anew: the runs -/
/-- who sits at a slot -/
abbrev oAt (owner : Array (Option Nat)) (j : Nat) : Option Nat := owner.getD j (some 0)
/-- the steps up to the n-th run -/
def off (m : Nat) : Nat → Nat → Nat → Nat
  | _, _, 0 => 0
  | i, b, n + 1 => (SetTable.runEnd m i - i + 1) + off m (SetTable.leap m i b).1 (SetTable.leap m i b).2 n
/-! ### who sits where -/
theorem oAt_init {m j : Nat} (hj : j ≤ m) : oAt (Array.replicate (m + 1) none) j = none := by
  have h : j < m + 1 := Nat.lt_succ_of_le hj
  show (Array.replicate (m + 1) (none : Option Nat)).getD j (some 0) = none
  rw [Array.getD_eq_getD_getElem?, Array.getElem?_replicate, if_pos h] <;> rfl
structure Own (m : Nat) (done : List Int) (owner : Array (Option Nat)) : Prop where
  sz : owner.size = m + 1
  at_ : ∀ j k, j ≤ m → oAt owner j = some k → ∃ h K, done[k]? = some h ∧ way m h K = j ∧ ∀ k', k' < K → oAt owner (way m h k') ≠ none
  all : ∀ k, k < done.length → ∃ j, j ≤ m ∧ oAt owner j = some k
  ps : ∃ ps : List Nat, ps.length = done.length ∧ ∀ j, j ≤ m → oAt owner j ≠ none → j ∈ ps
theorem Own.init (m : Nat) : Own m [] (Array.replicate (m + 1) none) where
  sz := by simp
  at_ := fun j k hj e => by
    rw [oAt_init hj] at e
    cases e
  all := fun k hk => absurd hk (Nat.not_lt_zero _)
  ps := ⟨[], rfl, fun j hj e => absurd (oAt_init hj) e⟩
/-! ### layClean -/
/-! ### the new table -/
end STK

/-! ST2: sets of tuples of ints and texts (the roads of HandS.TupSets, by mixKind). -/
namespace STK
open PySem PySem.Spec PyProof.Rows L2
abbrev thash (P : Program) (w : World) (k : List Key) : Int := tupleKeyHash (mixKind P w) k
/-- the tuple at a has the ints k -/
abbrev IsT (P : Program) (w : World) (h : Heap) (k : List Key) (a : Addr) : Prop := IsTupleKey (mixKind P w) h k a

/-! ### the model's words, opened -/
section
variable {P : Program} {w : World} {A : Around} {E : Value → Shared → Prop} {s : Shared}

/-! ### small questions asked of tuples -/
/-! ### the set of tuples -/
def rowsOf (P : Program) (w : World) (L : List (Addr × List Key)) : List (Int × Value) := L.map fun p => (thash P w p.2, Value.ref p.1)
structure SetTR (P : Program) (w : World) (h : Heap) (a : Addr) (L : List (Addr × List Key)) (es : Array (Int × Value)) (ep : Nat) (t : SetTable) : Prop where
  ob : ∃ o, h.get? a = some o ∧ o.ExactSet ∧ o.data = .set es ep t
  rows : es.toList = rowsOf P w L
  tab : TabOk t (L.map fun p => thash P w p.2)
  nd : (L.map (·.2)).Nodup
  tup : ∀ p ∈ L, IsT P w h p.2 p.1
  led : w.params.followText "set-order" = true ∨ t.led = true
  room : L.length * 5 < t.mask * 3
  few : L.length < 300
variable {a : Addr} {L : List (Addr × List Key)} {es : Array (Int × Value)} {ep : Nat} {t : SetTable}
theorem SetTR.size (R : SetTR P w s.heap a L es ep t) : es.size = L.length := by
  have h := congrArg List.length R.rows
  unfold rowsOf at h
  rw [Array.length_toList, List.length_map] at h
  exact h
theorem SetTR.fits (R : SetTR P w s.heap a L es ep t) : t.fits es.size = true := by
  have h1 := R.tab.sz
  rw [List.length_map] at h1
  have h2 := R.size
  have h3 := R.room
  unfold SetTable.fits SetTable.fill
  rw [R.tab.dm, Bool.and_eq_true, beq_iff_eq, decide_eq_true_eq]
  show t.place.size = es.size ∧ t.place.size + 0 ≤ t.mask
  omega
end
end STK

namespace STK
open PySem PySem.Spec PyProof.Rows L2
section
variable {P : Program} {w : World} {A : Around} {E : Value → Shared → Prop} {s : Shared}
variable {a : Addr} {L : List (Addr × List Key)} {es : Array (Int × Value)} {ep : Nat} {t : SetTable}
end
end STK

namespace STK
open PySem PySem.Spec PyProof.Rows L2

/-- what the set has got from the first i items -/
structure Got (ks : List (Addr × List Key)) (i : Nat) (L : List (Addr × List Key)) : Prop where
  sub : ∀ p ∈ L, p ∈ ks.take i
  all : ∀ p ∈ ks.take i, p.2 ∈ L.map (·.2)
  len : L.length ≤ i
theorem Got.zero (ks : List (Addr × List Key)) : Got ks 0 [] := ⟨fun p h => (by cases h), fun p h => (by simp at h), Nat.le_refl _⟩
theorem take_next {α : Type} {l : List α} {i : Nat} {x : α} (h : l[i]? = some x) : l.take (i + 1) = l.take i ++ [x] := by
  rw [List.take_succ, h] <;> rfl
theorem Got.same {ks L : List (Addr × List Key)} {i : Nat} {x : Addr × List Key} (g : Got ks i L) (h : ks[i]? = some x) (hm : x.2 ∈ L.map (·.2)) : Got ks (i + 1) L := by
  refine ⟨fun p hp => ?_, fun p hp => ?_, Nat.le_succ_of_le g.len⟩
  · rw [take_next h]
    exact List.mem_append_left _ (g.sub p hp)
  · rw [take_next h] at hp
    rcases List.mem_append.mp hp with z | z
    · exact g.all p z
    · rw [List.mem_singleton.mp z]; exact hm
theorem Got.more {ks L L' : List (Addr × List Key)} {i : Nat} {x : Addr × List Key} (g : Got ks i L) (h : ks[i]? = some x) (pm : L'.Perm (x :: L)) : Got ks (i + 1) L' := by
  refine ⟨fun p hp => ?_, fun p hp => ?_, ?_⟩
  · rw [take_next h]
    rcases List.mem_cons.mp (pm.mem_iff.mp hp) with e | z
    · rw [e]; exact List.mem_append_right _ (List.mem_singleton.mpr rfl)
    · exact List.mem_append_left _ (g.sub p z)
  · rw [(pm.map (·.2)).mem_iff, List.map_cons]
    rw [take_next h] at hp
    rcases List.mem_append.mp hp with z | z
    · exact List.mem_cons_of_mem _ (g.all p z)
    · rw [List.mem_singleton.mp z]; exact List.mem_cons_self
  · rw [pm.length_eq, List.length_cons]
    exact Nat.succ_le_succ g.len

section
variable {P : Program} {w : World} {A : Around} {E : Value → Shared → Prop} {s : Shared}
theorem SetTR.keep {h h' : Heap} {a : Addr} {L : List (Addr × List Key)} {es : Array (Int × Value)} {ep : Nat} {t : SetTable} (R : SetTR P w h a L es ep t) (ha : ∀ o, h.get? a = some o → h'.get? a = some o) (ht : ∀ p ∈ L, IsT P w h' p.2 p.1) : SetTR P w h' a L es ep t := by
  obtain ⟨o, ho, r⟩ := R.ob
  exact ⟨⟨o, ha o ho, r⟩, R.rows, R.tab, R.nd, ht, R.led, R.room, R.few⟩
end
end STK

/-! ST3: sets of tuples of keys on the abstract heap; what adds to a set. -/
namespace STK
open PySem PySem.Spec PyProof.Rows L2
section
variable {X : Cx}
end
end STK
namespace S3
open PySem PySem.Spec L2 STK
section
variable {Z : Wd} {F H : Hp}
end
section
variable {ca : Str → Option Addr} {W : WX} {X : Cx} {e : Expr} {fe : EV} {p p2 q pos : Pos}
end
end S3

/-! ST4: set comprehensions of one clause, for what adds to a set. -/
namespace STK
open PySem PySem.Spec PyProof.Rows L2
open S3 (SetGO setG_new setG_fresh setG_get setG_add addKey addKey_is)
section
variable {prog : Program} {w : World} {A : Around} {R : Result → Shared → Prop} {s : Shared} {elt t0 i0 : Expr} {ifs0 : List Expr} {scope : Scope} {pos : Pos} {it acc : Value} {env : Env}
end
section
variable {X : Cx}
end
end STK

/-! ST5: set and dict comprehensions of one clause, as terms. -/
namespace S3
open PySem PySem.Spec L2 STK
/-! ### terms -/
section
variable {β : Type}
def cpG (t : Tg) (c : TV) (bd : Env → β → Option β) : List D → Env → β → Option β
  | [], _, acc => some acc
  | d :: ds, e, acc => (match tgt t d e with
    | some e1 => (match c e1 with
      | .ok true e2 => (match bd e2 acc with
        | some acc' => cpG t c bd ds e acc'
        | none => none)
      | .ok false _ => cpG t c bd ds e acc
      | _ => none)
    | none => none)
end
section
variable {Z : Wd} {F F' H H' : Hp} {N : En} {σ : L2.St} {e e' : Env} {v x y : V} {W : WX} {E : Ends}
end
section
variable {ca : Str → Option Addr} {W : WX} {X : Cx} {fe fv : EV} {w : WV} {c : TV} {elt vx tg iter : Expr} {ifs : List Expr} {scope : Scope} {own : List (Str × Nat)} {pos p q : Pos} {g : TG} {t : Tg}
end
end S3

/-! J1: walks over dicts. A dict that is walked stands locked meanwhile. -/
namespace L2
open PySem PySem.Spec PyProof.Rows
/-- in the end it is unlocked, or not -/
def unQ (H0 : Hp) (Q : VK) : VK := fun v H' => Q v H' ∨ ∃ d od u, H' d = some (.frz od u) ∧ (∀ o' u', H0 d ≠ some (.frz o' u')) ∧ Q v (upd H' d u)
def unN (H0 : Hp) (Q : St → Hp → Prop) : St → Hp → Prop := fun v H' => Q v H' ∨ ∃ d od u, H' d = some (.frz od u) ∧ (∀ o' u', H0 d ≠ some (.frz o' u')) ∧ Q v (upd H' d u)
def unE (H0 : Hp) (D : Ends) : Ends := ⟨unN H0 D.nx, unQ H0 D.rt, unN H0 D.bk, unN H0 D.ct⟩
section
variable {X : Cx}
end
end L2
namespace S3
open PySem L2
/-- a dict -/
def IsD : HO → Prop
  | .dK _ => True
  | .dT _ => True
  | _ => False
/-- the same, but for locks on dicts -/
def LkS (F F' : Hp) : Prop := ∀ b o, F b = some o → F' b = some o ∨ (IsD o ∧ ∃ od, F' b = some (.frz od o)) ∨ ∃ od u, o = .frz od u ∧ IsD u ∧ F' b = some u
section
variable {Z : Wd} {F F' H H' : Hp}
theorem LkS.at (k : LkS F F') {b : Addr} {o : HO} (h : F b = some o) (n : ¬ IsD o) (nf : ∀ od u, o = .frz od u → ¬ IsD u) : F' b = some o := by
  rcases k b o h with z | ⟨z, _⟩ | ⟨od, u, z, i, _⟩
  · exact z
  · exact (n z).elim
  · exact (nf od u z i).elim
theorem LkS.rd (k : LkS F F') {b : Addr} {o : HO} (h : L2.Rd F b o) (n : ∀ od u, o ≠ .frz od u) : L2.Rd F' b o := by
  rcases h with h | ⟨od, h⟩
  · rcases k b o h with z | ⟨_, od, z⟩ | ⟨od, u, z, _⟩
    · exact .inl z
    · exact .inr ⟨od, z⟩
    · exact (n od u z).elim
  · rcases k b _ h with z | ⟨i, _⟩ | ⟨od', u, z, i, z2⟩
    · exact .inr ⟨od, z⟩
    · exact i.elim
    · cases z; exact .inl z2
variable {N N' : En} {σ : L2.St} {e : Env}
end
end S3

/-! J2: walks over dicts: the rules. -/
namespace S3
open PySem PySem.Spec L2 STK
section
variable {Z : Wd} {F F' H H' : Hp} {N : En} {σ : L2.St} {e e' : Env} {v x y : V} {W : WX} {E : Ends} {H0 : Hp}
theorem PostE.un {Q : VK} {r : RE} (P : PostE Z N F σ W Q r) : PostE Z N F σ W (unQ H0 Q) r := by
  cases r with
  | no => exact P
  | ok r e => exact fun v F1 H1 f1 S1 R1 => .inl (P v F1 H1 f1 S1 R1)
  | ex x e => exact P
theorem PostS.un {r : RS} (P : PostS Z N F W E r) : PostS Z N F W (unE H0 E) r := by
  cases r with
  | no => exact P
  | nx e => exact fun F1 H1 σ1 f1 S1 => .inl (P F1 H1 σ1 f1 S1)
  | rt r e => exact fun v F1 H1 σ1 f1 S1 R1 => .inl (P v F1 H1 σ1 f1 S1 R1)
  | bk e => exact fun F1 H1 σ1 f1 S1 => .inl (P F1 H1 σ1 f1 S1)
  | ct e => exact fun F1 H1 σ1 f1 S1 => .inl (P F1 H1 σ1 f1 S1)
  | ex x e => exact P
/-! ### the walkers -/
theorem RpP.get {κ : Type} : ∀ {vs : List (κ × V)} {ds : List (κ × D)} {i : Nat} {k : κ} {v : V}, RpP Z F vs ds → vs[i]? = some (k, v) → ∃ d, ds[i]? = some (k, d) ∧ Rp Z F v d
  | _, _, _, _, _, .nil, h => by simp at h
  | _, _, 0, _, _, .cons h _, q => by simp at q; obtain ⟨rfl, rfl⟩ := q; exact ⟨_, rfl, h⟩
  | _, _, i + 1, _, _, .cons _ r, q => by
    obtain ⟨v, h1, h2⟩ := RpP.get (i := i) r (by simpa using q)
    exact ⟨v, by simpa using h1, h2⟩
end
/-! ### the rules -/
section
variable {ca : Str → Option Addr} {W : WX} {X : Cx} {fe fv : EV} {w : WV} {c : TV} {a elt vx tg iter : Expr} {ifs : List Expr} {scope : Scope} {own : List (Str × Nat)} {pos p q apos cpos : Pos} {g : TG} {t : Tg}
end
end S3

/-! ST6: set(a dict). -/
namespace S3
open PySem PySem.Spec PyProof.Rows L2
section
variable {P : Program} {w : World} {κ : Type} [DecidableEq κ] {knd : PySem.KeyKind P w κ} {A : Around} {E : Value → Shared → Prop} {s : Shared} {a : Addr} {ks : List κ}
end
end S3

/-! ST7: set(a dict): the call. -/
namespace S3
open PySem PySem.Spec PyProof.Rows L2
section
variable {P : Program} {w : World} {κ : Type} [DecidableEq κ] {knd : PySem.KeyKind P w κ} {A : Around} {E : Value → Shared → Prop} {s : Shared} {a : Addr} {ks : List κ}
end
end S3

/-! ST8: set(a dict) over the abstract heap; the rule. -/
namespace S3
open PySem PySem.Spec PyProof.Rows L2
section
variable {X : Cx}
end
section
variable {X : Cx}
variable {Z : Wd}
end
end S3

/-! J3: == of dicts, both answers. -/
namespace L2
open PySem PySem.Spec PyProof.Rows
section
variable {P : Program} {w : World} {A : Around} {s : Shared}
end
section
variable {X : Cx} {pins : List (Addr × Obj)} {σ : St} {H : Hp} {s : Shared}
end
section
variable {X : Cx}
end
end L2
namespace S3
open PySem PySem.Spec L2
section
variable {Z : Wd} {F H : Hp}
end
end S3

/-! J4: a dict of the module asked; extend; dict(d). -/
namespace S3
open PySem PySem.Spec L2 STK
section
variable {Z : Wd} {F F' H H' : Hp}
end
section
variable {ca : Str → Option Addr} {W : WX} {X : Cx} {a b : Expr} {fa fb : EV} {ga : AV} {pos p p2 : Pos} {n : Str}
end
end S3

/-! J5: facts of own classes at the levels; expressions that are never reached. -/
namespace S3
open PySem PySem.Spec L2 STK
section
variable {ca : Str → Option Addr} {P : Program} {w : World} {K : PySem.W.Frag} {mg : Str → Option Value} {base : Heap}
end
section
variable {ca : Str → Option Addr} {W : WX} {X : Cx} {a : Expr}
end
/-! a block within a block -/
end S3

/-! J6: a, b = x, y with plain local names. -/
namespace S3
open PySem PySem.Spec L2 STK
section
variable {Z : Wd} {W : WX} {E : Ends} {σ : St} {H : Hp}
end
section
variable {ca : Str → Option Addr} {W : WX} {X : Cx} {a b : Expr} {ga : AV} {pos px py pt pt2 : Pos} {x y : Str} {kt k2 : _}
end
end S3

/-! J7: try .. except C: without a name. -/
namespace S3
open PySem PySem.Spec L2 STK
section
variable {ca : Str → Option Addr} {W : WX} {X : Cx} {x n : Str} {c : Value} {body suite : List Stmt} {b₀ : Stmt} {np pos pos' : Pos} {b h : SV}
end
end S3

/-! J8: f-strings: {x}, {x:<8}, {x:>8}, parts joined. -/
namespace S3
open PySem PySem.Spec L2
open Builtin Builtin.Str Builtin.Int Builtin.Float PyProof.Rows in
/-! ### the rules -/
section
variable {X : Cx}
end
section
variable {Z : Wd}
end
section
variable {ca : Str → Option Addr} {W : WX} {X : Cx} {e : Expr} {fe : EV} {pos p1 p2 : Pos}
end
end S3

/-! J9: x.split(sep), sep a written text; x.upper(). What is said of the parts is asked of the term. -/
namespace S3
open PySem PySem.Spec L2
section
variable {Z : Wd}
end
section
variable {ca : Str → Option Addr} {W : WX} {X : Cx} {o : Expr} {fo : EV} {b : Str} {j : Nat} {p apos pos : Pos}
end
end S3

/-! J10: x.replace('a', 'b') in a list display behind a written text: there a token is out. -/
namespace S3
open PySem PySem.Spec PyProof.Rows L2
section
variable {X : Cx}
end
section
variable {Z : Wd}
end
section
variable {ca : Str → Option Addr} {W : WX} {X : Cx} {e o b : Expr} {es : List Expr} {fe fo fb : EV} {ga : AV} {pos p1 p2 apos c0 c1 : Pos}
end
end S3

/-! N1: tuples of words that stand in a class (in, not in, index, ==); a def with *args; an own operator that may tell one of its two sides. -/
namespace S3
open PySem PySem.Spec L2
/-! ### terms -/
/-! ### readings -/
section
variable {Z : Wd} {F F' H H' : Hp} {N : En} {σ : L2.St} {e e' : Env} {v x y : V} {W : WX} {E : Ends}
theorem RdV.kt {x : V} {ds : List D} (h : RdV Z F H x (.kt ds)) : ∃ a xs, x = .ref a ∧ SqT Z.K F a xs ∧ RpA Z F xs ds := by
  rcases h with h | ⟨a, _, _, t⟩
  · cases h with
    | kt h r => exact ⟨_, _, rfl, h, r⟩
  · exact t.elim
end
section
variable {ca : Str → Option Addr} {W : WX} {X : Cx} {a b o : Expr} {es : List Expr} {fa fb fo : EV} {ga : AV} {pos p apos : Pos} {k : Nat} {n c : Str} {phi : List D → RC}
/-! ### == and isinstance of such a tuple -/
/-! ### defs with *args alone -/
structure StarT (ca : Str → Option Addr) (P : Program) (w : World) (K : PySem.W.Frag) (mg : Str → Option Value) (base : Heap) (k : Nat) (n : Str) (phi : List D → RC) : Prop where
  ex : ∃ (f : Addr), FnR P w K mg base (L2.CX P w) (2 * k) f (fun vs H Q E => vs.length ≤ sizeLine ∧ ∀ p, H p = none → spOf ⟨P, w, K, ca⟩ [.v] phi [.ref p] (upd H p (.tup vs)) Q E) ∧ mg n = some (.ref f) ∧ PySem.W.keepIn K (.ref f) = true
theorem StarT.zero {P : Program} {w : World} {K : PySem.W.Frag} {mg : Str → Option Value} {base : Heap} {n : Str} {f : Addr} {g : String} {tab : String → Option Def} (F : FnR P w K mg base (L2.CX P w) 0 f (fun vs H Q E => vs.length ≤ sizeLine ∧ ∀ p, H p = none → spOf ⟨P, w, K, ca⟩ [.v] (sem tab 0 g) [.ref p] (upd H p (.tup vs)) Q E)) (hf : mg n = some (.ref f)) (hk : PySem.W.keepIn K (.ref f) = true) : StarT ca P w K mg base 0 n (sem tab 0 g) :=
  ⟨f, F, hf, hk⟩
theorem StarT.succ {P : Program} {w : World} {K : PySem.W.Frag} {mg : Str → Option Value} {base : Heap} {n : Str} {f : Addr} {k : Nat} {g : String} {T : Def} {tab : String → Option Def} (h : FnR P w K mg base (L2.CX P w) (2 * (k + 1)) f (fun vs H Q E => vs.length ≤ sizeLine ∧ ∀ p, H p = none → spOf ⟨P, w, K, ca⟩ [.v] (T.run (sem tab k)) [.ref p] (upd H p (.tup vs)) Q E)) (hf : mg n = some (.ref f)) (hk : PySem.W.keepIn K (.ref f) = true)
    (ht : tab g = some T) : StarT ca P w K mg base (k + 1) n (sem tab (k + 1) g) := by
  refine ⟨f, ?_, hf, hk⟩
  have e : sem tab (k + 1) g = T.run (sem tab k) := by funext ds; simp only [sem, ht]
  rw [e]
  exact h
/-! ### an own operator that keeps both sides -/
end
end S3

/-! N2: exceptions as values: C(..) held, isinstance(x, C), x.f. -/
namespace L2
open PySem PySem.Spec PyProof.Rows PySem.S3X
section
variable {X : Cx} {C fI cc cda : Addr} {fd : FuncData} {fs : List Str} {e : Expr} {es : List Expr} {ta : TA} {te : TE} {p pos : Pos} {x : Str}
end
end L2
namespace S3
open PySem PySem.Spec L2
section
variable {Z : Wd} {F F' H H' : Hp} {N : En} {σ : L2.St} {e e' : Env} {v x y : V} {W : WX}
theorem RdV.xv {x : V} {c : Str} {ds : List (Str × D)} (l : Same F H) (h : RdV Z F H x (.xv c ds)) : ∃ a C d xs, x = .ref a ∧ Z.ca c = some C ∧ H a = some (ExW C d a) ∧ ((ds = [] ∧ d = none) ∨ ∃ dd, d = some dd ∧ H dd = some (.xd xs)) ∧ RpP Z F xs ds := by
  rcases h with h | ⟨_, _, _, t⟩
  · cases h with
    | xv h1 h2 h3 r => exact ⟨_, _, _, _, rfl, h1, l _ _ h2, h3.imp id fun ⟨dd, x, y⟩ => ⟨dd, x, l _ _ y⟩, r⟩
  · exact t.elim
end
section
variable {ca : Str → Option Addr} {W : WX} {X : Cx} {e a : Expr} {es : List Expr} {fe : EV} {ga : AV} {p p2 pos : Pos} {fs : List Str} {n : Str}
end
end S3

/-! N3: *xs of a written tuple; several except clauses without names; a keyword argument with a default. -/
namespace S3
open PySem PySem.Spec L2
section
variable {Z : Wd} {F F' H H' : Hp} {N : En} {σ : L2.St} {e e' : Env} {v x y : V} {W : WX}
end
section
variable {ca : Str → Option Addr} {W : WX} {X : Cx} {a : Expr} {es : List Expr} {fa : EV} {ga : AV} {p pos : Pos} {x : Str} {body : List Stmt} {b : SV}
/-! ### several except clauses -/
inductive HdsV (ca : Str → Option Addr) (X : Cx) : List ExceptHandler → List ((Str → Bool) × SV) → List (Value × (Addr → Value → Option Addr → TS)) → Prop
  | nil : HdsV ca X [] [] []
  | cons {x : Str} {c : Value} {sub : Str → Bool} {h : SV} {b₀ : Stmt} {suite : List Stmt} {np pos' : Pos} {hds : List ExceptHandler} {hs : List ((Str → Bool) × SV)} {l : List (Value × (Addr → Value → Option Addr → TS))} :
      Names X x c → (∀ m C, ca m = some C → xnm m = true → PySem.W.exmOne X.K (.ref C) c = some (sub m)) →
      (∀ (a : Addr) (oe : Obj) (cls : Value) (d : Option Addr) (pn : List (Addr × Obj)), Zc cls d oe → (∃ vs, oe.data = .fields vs) → Bv ca (fun _ _ _ _ => False) (X.suite a ((a, oe) :: pn)) (b₀ :: suite) h) →
      HdsV ca X hds hs l → HdsV ca X (.ExceptHandler (some (.Name x np)) none (b₀ :: suite) pos' :: hds) ((sub, h) :: hs) ((c, fun _ _ _ => tSv (zw ca X) (fun _ _ _ _ => False) h) :: l)
theorem HdsV.ok {hds : List ExceptHandler} {hs : List ((Str → Bool) × SV)} {l : List (Value × (Addr → Value → Option Addr → TS))} (h : HdsV ca X hds hs l) : HdsOk X hds l := by
  induction h with
  | nil => exact .nil
  | cons h1 h2 h3 _ ih => exact .cons h1 h3 ih
/-! ### a keyword argument with a default -/
structure FnDT (ca : Str → Option Addr) (P : Program) (w : World) (K : PySem.W.Frag) (mg : Str → Option Value) (base : Heap) (k : Nat) (n kw : Str) (ms : List Md) (phi : List D → RC) : Prop where
  ex : ∃ (f : Addr) (fd : FuncData) (ps : List Str) (dv : Value) (v0 : V), FnOk P w K mg base (L2.CX P w) (2 * k) f fd ps (spOf ⟨P, w, K, ca⟩ (ms ++ [.v]) phi) ∧ mg n = some (.ref f) ∧ PySem.W.keepIn K (.ref f) = true ∧ Binds K fd ps [dv] ∧ RelV v0 dv ∧ (∀ F, Rp ⟨P, w, K, ca⟩ F v0 (.kt [])) ∧
    KBn K fd ps ms.length [kw] (fun us ws => us ++ ws) (fun vs zs => vs ++ zs)
theorem FnDT.zero {P : Program} {w : World} {K : PySem.W.Frag} {mg : Str → Option Value} {base : Heap} {n kw : Str} {f : Addr} {fd : FuncData} {ps : List Str} {ms : List Md} {g : String} {tab : String → Option Def} {dv : Value} {v0 : V} (hf : mg n = some (.ref f)) (hk : PySem.W.keepIn K (.ref f) = true) (hb : Binds K fd ps [dv]) (hv : RelV v0 dv) (h0 : ∀ F, Rp ⟨P, w, K, ca⟩ F v0 (.kt [])) (hn : KBn K fd ps ms.length [kw] (fun us ws => us ++ ws) (fun vs zs => vs ++ zs)) :
    FnDT ca P w K mg base 0 n kw ms (sem tab 0 g) :=
  ⟨f, fd, ps, dv, v0, ⟨fun vs H Q E ⟨_, _, _, _, _, z⟩ => z.elim, fun A outer s H args us vs Q E _ _ _ _ ⟨_, _, _, _, _, z⟩ => z.elim⟩, hf, hk, hb, hv, h0, hn⟩
theorem FnDT.succ {P : Program} {w : World} {K : PySem.W.Frag} {mg : Str → Option Value} {base : Heap} {n kw : Str} {f : Addr} {fd : FuncData} {ps : List Str} {ms : List Md} {k : Nat} {g : String} {T : Def} {tab : String → Option Def} {dv : Value} {v0 : V} (h : FnOk P w K mg base (L2.CX P w) (2 * (k + 1)) f fd ps (spOf ⟨P, w, K, ca⟩ T.ms (T.run (sem tab k)))) (hf : mg n = some (.ref f)) (hk : PySem.W.keepIn K (.ref f) = true)
    (hb : Binds K fd ps [dv]) (hv : RelV v0 dv) (h0 : ∀ F, Rp ⟨P, w, K, ca⟩ F v0 (.kt [])) (hn : KBn K fd ps ms.length [kw] (fun us ws => us ++ ws) (fun vs zs => vs ++ zs)) (ht : tab g = some T) (hm : T.ms = ms ++ [.v] := by rfl) : FnDT ca P w K mg base (k + 1) n kw ms (sem tab (k + 1) g) := by
  refine ⟨f, fd, ps, dv, v0, ?_, hf, hk, hb, hv, h0, hn⟩
  rw [← hm]
  have e : sem tab (k + 1) g = T.run (sem tab k) := by funext ds; simp only [sem, ht]
  rw [e]
  exact h
end
end S3

/-! N4: != of dicts whose keys are tuples. -/
namespace S3T
open PySem PySem.Spec PyProof.Rows L2
section
variable {prog : Program} {w : World} {K : Type} [DecidableEq K] {knd : HeapKind prog w K} {A : Around} {E : Value → Shared → Prop} {s : Shared}
end
end S3T
namespace L2
open PySem PySem.Spec PyProof.Rows S3T
section
variable {X : Cx} {pins : List (Addr × Obj)} {σ : St} {H : Hp} {s : Shared}
end
section
variable {X : Cx}
end
end L2
namespace S3
open PySem PySem.Spec L2
section
variable {Z : Wd} {F H : Hp}
end
end S3

/-! Y1: deep trees: made of shallow ones, their parts found and changed; slots that hold them. -/
namespace S3
open PySem L2
section
variable {Z : Wd} {F F' H H' : Hp} {N : En} {σ : St} {e e' : Env} {v w : V}
theorem RpA.ow : ∀ {vs : List V} {ds : List D}, RpA Z F vs ds → OwA Z F H [] vs ds
  | _, _, .nil => .nil
  | _, _, .cons h r => .cons (R := []) (Q := []) (.fz h) r.ow (fun _ z => by cases z)
theorem RpP.ow : ∀ {κ : Type} {vs : List (κ × V)} {ds : List (κ × D)}, RpP Z F vs ds → OwP Z F H [] vs ds
  | _, _, _, .nil => .nil
  | _, _, _, .cons h r => .cons (R := []) (Q := []) (.fz h) r.ow (fun _ z => by cases z)
/-- what may be an owned part -/
def obk : D → Bool
  | .lst _ => true | .dk _ => true | .obj _ _ => true | _ => false
theorem Top.ow {a : Addr} {d : D} (k : obk d = true) (f : F a = none) (t : Top Z F H a d) : OwT Z F H [a] (.ref a) (.ob d) := by
  cases d <;> simp only [obk] at k <;> try (cases k; done)
  · obtain ⟨xs, h, r⟩ := t; exact .lst f h (by simp) r.ow
  · obtain ⟨q, xs, h, r⟩ := t; exact .dk f h q (by simp) r.ow
  · obtain ⟨C, dx, xs, c, h, r⟩ := t; exact .obj f c h (by simp) r.ow
theorem OwT.rpOf {R : List Addr} {d : D} (h : OwT Z F H R v d) (n : ∀ t, d ≠ .ob t) : R = [] ∧ Rp Z F v d := by
  cases h with
  | fz r => exact ⟨rfl, r⟩
  | _ => exact (n _ rfl).elim
theorem OwT.refOf {R : List Addr} {d : D} (h : OwT Z F H R v (.ob d)) : ∃ a, v = .ref a := by
  cases h with
  | fz r => exact (no_ob r).elim
  | _ => exact ⟨_, rfl⟩
theorem Kp.refl {R : List Addr} : Kp R H H := fun _ _ h _ => h
/-- kept, but for a part -/
def KpB (R Q : List Addr) (H H' : Hp) : Prop := ∀ b o, H b = some o → ((b ∈ R ∧ b ∉ Q) ∨ ¬ NT o) → H' b = some o
theorem KpB.kp {R Q S : List Addr} (k : KpB R Q H H') (s : ∀ b ∈ S, b ∈ R ∧ b ∉ Q) : Kp S H H' := fun b o h m => k b o h (m.imp (s b) id)
theorem KpB.sub {R Q S : List Addr} (k : KpB R Q H H') (s : ∀ b ∈ S, b ∈ R) : KpB S Q H H' := fun b o h m => k b o h (m.imp (fun z => ⟨s b z.1, z.2⟩) id)
theorem OwT.kept {R : List Addr} {d : D} (h : OwT Z F H R v d) (k : Kp R H H') : OwT Z F H' R v d := h.mono (Same.refl _) (fun b m => (h.there b m).1) k
theorem OwA.kept {R : List Addr} {vs : List V} {ds : List D} (h : OwA Z F H R vs ds) (k : Kp R H H') : OwA Z F H' R vs ds := h.mono (Same.refl _) (fun b m => (h.there b m).1) k
theorem OwP.kept {κ : Type} {R : List Addr} {vs : List (κ × V)} {ds : List (κ × D)} (h : OwP Z F H R vs ds) (k : Kp R H H') : OwP Z F H' R vs ds := h.mono (Same.refl _) (fun b m => (h.there b m).1) k
/-! a field given -/
/-! a key's value found, changed -/
theorem OwP.app {κ : Type} {Q : List Addr} {ys : List (κ × V)} {es : List (κ × D)} (c : OwP Z F H Q ys es) : ∀ {R : List Addr} {xs : List (κ × V)} {ds : List (κ × D)}, OwP Z F H R xs ds → (∀ b ∈ Q, b ∉ R) → OwP Z F H (R ++ Q) (xs ++ ys) (ds ++ es)
  | _, _, _, .nil, _ => c
  | _, _, _, .cons (R := R1) (Q := Q1) h r n, dj => by
    rw [List.append_assoc]
    exact .cons h (OwP.app c r fun b m z => dj b m (List.mem_append_right _ z)) fun b m z => by
      rcases List.mem_append.mp z with z | z
      · exact n b m z
      · exact dj b z (List.mem_append_left _ m)
theorem OwA.app {Q : List Addr} {ys : List V} {es : List D} (c : OwA Z F H Q ys es) : ∀ {R : List Addr} {xs : List V} {ds : List D}, OwA Z F H R xs ds → (∀ b ∈ Q, b ∉ R) → OwA Z F H (R ++ Q) (xs ++ ys) (ds ++ es)
  | _, _, _, .nil, _ => c
  | _, _, _, .cons (R := R1) (Q := Q1) h r n, dj => by
    rw [List.append_assoc]
    exact .cons h (OwA.app c r fun b m z => dj b m (List.mem_append_right _ z)) fun b m z => by
      rcases List.mem_append.mp z with z | z
      · exact n b m z
      · exact dj b z (List.mem_append_left _ m)
theorem OwP.any {k : Key} : ∀ {R : List Addr} {xs : List (Key × V)} {ds : List (Key × D)}, OwP Z F H R xs ds → (xs.any fun kv => decide (kv.1 = k)) = (ds.any fun kv => decide (kv.1 = k))
  | _, _, _, .nil => rfl
  | _, _, _, .cons h r n => by rw [List.any_cons, List.any_cons, OwP.any r]
theorem OwP.length {κ : Type} : ∀ {R : List Addr} {xs : List (κ × V)} {ds : List (κ × D)}, OwP Z F H R xs ds → xs.length = ds.length
  | _, _, _, .nil => rfl
  | _, _, _, .cons h r n => congrArg Nat.succ r.length
theorem OwA.length : ∀ {R : List Addr} {xs : List V} {ds : List D}, OwA Z F H R xs ds → xs.length = ds.length
  | _, _, _, .nil => rfl
  | _, _, _, .cons h r n => congrArg Nat.succ r.length
/-! ### a part in focus -/
/-- the part at b says t, and may be put anew -/
structure Foc (Z : Wd) (F H : Hp) (R : List Addr) (w : V) (b : Addr) (t : D) (Rt : List Addr) (put : D → D) : Prop where
  here : OwT Z F H Rt (.ref b) (.ob t)
  sub : ∀ x ∈ Rt, x ∈ R
  back : ∀ H' t' Rt', OwT Z F H' Rt' (.ref b) (.ob t') → KpB R Rt H H' → (∀ x ∈ Rt', x ∈ Rt ∨ x ∉ R) → ∃ R', OwT Z F H' R' w (.ob (put t')) ∧ ∀ x ∈ R', x ∈ R ∨ x ∈ Rt'
theorem Foc.top {R : List Addr} {d : D} (h : OwT Z F H R w (.ob d)) : ∃ b, w = .ref b ∧ Foc Z F H R w b d R id := by
  obtain ⟨b, rfl⟩ := h.refOf
  exact ⟨b, rfl, h, fun x m => m, fun H' t' Rt' h' _ _ => ⟨Rt', h', fun x m => .inr m⟩⟩
/-- the object in focus is changed: a new whole -/
theorem Foc.write {R Rt Q : List Addr} {b : Addr} {t t' : D} {o : HO} {put : D → D} (h : Foc Z F H R w b t Rt put) (bm : b ∈ Rt) (nb : ∀ u, H b = some u → NT u) (t1 : OwT Z F (upd H b o) Q (.ref b) (.ob t')) (s : ∀ x ∈ Q, x ∈ Rt ∨ x ∉ R) :
    ∃ R', OwT Z F (upd H b o) R' w (.ob (put t')) ∧ ∀ x ∈ R', x ∈ R ∨ x ∈ Q := h.back _ _ _ t1 (fun x u hx m => by
  have z : x ≠ b := by
    rintro rfl
    rcases m with m | m
    · exact m.2 bm
    · exact m (nb u hx)
  rw [upd_ne z]; exact hx) s
/-! ### slots -/
/-- a deep slot's object is changed -/
theorem SOk.writeDp (S : SOk Z N F H σ e) {i : Nat} {g : Bool} {d d' : D} {w : V} {R R' : List Addr} {b : Addr} {o : HO} (h : e[i]? = some (.dp g d)) (h1 : σ[i]? = some (some w)) (t : OwT Z F H R w (.ob d)) (bm : b ∈ R) (no : NT o)
    (t' : OwT Z F (upd H b o) R' w (.ob d')) (s : ∀ x ∈ R', x ∈ R ∨ (N.H x = none ∧ ∀ (j : Nat) (s : Sl), e[j]? = some s → ¬ Live Z F H ((σ[j]?).join) s x)) : SOk Z N F (upd H b o) σ (e.set i (.dp g d')) := by
  obtain ⟨ov, q1, w', R0, e1, t0, n0⟩ := S.slot i _ h
  rw [h1] at q1; cases q1
  cases e1
  have er := t0.uniq t
  subst er
  have lv : Live Z F H ((σ[i]?).join) (.dp g d) b := by rw [h1]; exact ⟨w, R0, rfl, t0, bm⟩
  obtain ⟨fb, u, hu, nu⟩ := S.liveN h lv
  have oth : ∀ x ∈ R0, ∀ (j : Nat) (s' : Sl), i ≠ j → e[j]? = some s' → ¬ Live Z F H ((σ[j]?).join) s' x := fun x m j s' q hj l => S.sep i j _ s' x h hj q rfl (by rw [h1]; exact ⟨w, R0, rfl, t0, m⟩) l
  have kpw : ∀ Q : List Addr, b ∉ Q → Kp Q H (upd H b o) := fun Q nr c x hc m => by
    rw [upd_ne ?_]; exact hc
    rintro rfl
    rw [hu] at hc; cases hc
    exact m.elim nr fun z => z nu
  have ul : ∀ (j : Nat) (s' : Sl) (c : Addr), i ≠ j → e[j]? = some s' → Live Z F (upd H b o) ((σ[j]?).join) s' c → Live Z F H ((σ[j]?).join) s' c := fun j s' c q hj l =>
    S.unlive hj l (Same.refl _) (fun _ _ z => z) fun Q d v f es ev t => kpw Q fun m => oth b bm j s' q hj (by rw [es]; exact ⟨v, Q, ev, t, m⟩)
  have ap : ∀ x ∈ R', ∀ (j : Nat) (s' : Sl), i ≠ j → e[j]? = some s' → ¬ Live Z F H ((σ[j]?).join) s' x := fun x m j s' q hj l => by
    rcases s x m with y | y
    · exact oth x y j s' q hj l
    · exact y.2 j s' hj l
  refine ⟨fun c x hc => by rw [upd_ne (ne_of_none hc fb)]; exact S.le _ _ hc, S.f0, fun c x hc m => ?_, S.nf, by rw [List.length_set]; exact S.len, fun j s' hj => ?_, fun j k s1 s2 c g1 g2 ne o1 l1 l2 => ?_, fun c m => ?_, fun j d2 hj => ?_, fun j d2 x r hj k => ?_, fun k j d2 x hj m l => ?_, S.lkh⟩
  · have nb : c ≠ b := by
      rintro rfl
      rcases n0 c bm with y | y
      · rw [y] at hc; cases hc
      · exact m y.2
    rw [upd_ne nb]
    exact S.h0 c x hc m
  · rcases get_set hj with ⟨q, rfl, _⟩ | ⟨q, hj'⟩
    · subst q
      refine ⟨_, h1, w, R', rfl, t', fun c m => ?_⟩
      rcases s c m with y | y
      · exact n0 c y
      · exact .inl y.1
    · obtain ⟨ov, g1, g2⟩ := S.slot j s' hj'
      refine ⟨ov, g1, ?_⟩
      have nl := oth b bm j s' q hj'
      rw [g1] at nl
      have kp : ∀ c, c ≠ b → ∀ o', H c = some o' → upd H b o c = some o' := fun c nb o' hb => by rw [upd_ne nb]; exact hb
      cases s' with
      | no => trivial
      | fz x => exact g2
      | ow x => obtain ⟨c, rfl, f, n, t'⟩ := g2; exact ⟨c, rfl, f, n, t'.keep (Same.refl _) (kp c fun z => nl (by rw [← z]; rfl))⟩
      | mu x => obtain ⟨c, rfl, f, n, t'⟩ := g2; exact ⟨c, rfl, f, n, t'.keep (Same.refl _) (kp c fun z => nl (by rw [← z]; rfl))⟩
      | bo x =>
        obtain ⟨v, rfl, r⟩ := g2
        by_cases rr : Rp Z F v x
        · exact ⟨v, rfl, .inl rr⟩
        · rcases r with r | ⟨c, rfl, f, n, m, t'⟩
          · exact (rr r).elim
          · exact ⟨_, rfl, .inr ⟨c, rfl, f, n, m, t'.keep (Same.refl _) (kp c fun z => nl (by rw [← z]; exact ⟨rfl, rr⟩))⟩⟩
      | dp g x =>
        obtain ⟨v, Q, e1, t', y⟩ := g2
        exact ⟨v, Q, e1, t'.kept (kpw Q fun m => nl ⟨v, Q, e1, t', m⟩), y⟩
  · have ld : ∀ {c : Addr}, Live Z F (upd H b o) ((σ[i]?).join) (.dp g d') c → c ∈ R' := fun {c} l => by
      rw [h1] at l
      obtain ⟨v, Q, e1, t2, m⟩ := l
      cases e1
      rw [← t2.uniq t']; exact m
    rcases get_set g1 with ⟨q, rfl, _⟩ | ⟨q, g1'⟩
    · subst q
      rcases get_set g2 with ⟨q2, rfl, _⟩ | ⟨q2, g2'⟩
      · exact ne q2
      · exact ap c (ld l1) k s2 q2 g2' (ul k s2 c q2 g2' l2)
    · rcases get_set g2 with ⟨q2, rfl, _⟩ | ⟨q2, g2'⟩
      · subst q2
        exact ap c (ld l2) j s1 q g1' (ul j s1 c q g1' l1)
      · exact S.sep j k s1 s2 c g1' g2' ne o1 (ul j s1 c q g1' l1) (ul k s2 c q2 g2' l2)
  · obtain ⟨x, ⟨u', y, ny⟩, z⟩ := S.mh c m
    refine ⟨x, ?_, z⟩
    by_cases q : c = b
    · subst q; exact ⟨o, upd_same, no⟩
    · exact ⟨u', by rw [upd_ne q]; exact y, ny⟩
  · rcases get_set hj with ⟨q, e1, _⟩ | ⟨q, hj'⟩
    · cases e1
    · exact S.mus j d2 hj'
  · rcases get_set hj with ⟨q, e1, _⟩ | ⟨q, hj'⟩
    · cases e1
    · exact S.bos j d2 x r hj' k
  · rcases get_set hj with ⟨q, e1, _⟩ | ⟨q, hj'⟩
    · cases e1
    · exact S.lks k j d2 x hj' m (ul k _ x q hj' l)
end
end S3

/-! Y2: deep trees: the terms (leaves, places in a tree, changes there) and their readings. -/
namespace S3
open PySem PySem.Spec L2
/-! ### terms -/
/-- all that is owned is lent to be read; deep trees are seen as frozen ones -/
def Sl.view : Sl → Sl
  | .ow d => .bo d
  | .mu d => .bo d
  | .dp _ d => .fz d.sbT
  | s => s
def view (e : Env) : Env := e.map Sl.view
def leafD : D → Bool
  | .non => true | .bl _ => true | .int _ => true | .str _ => true | _ => false
/-- only read; what comes out is no object -/
def eLeaf (f : EV) : EV := fun e => match f (view e) with
  | .ok r e1 => (match rd r e1 with
    | some d => if leafD d then .ok (.fz d) e else .no
    | none => .no)
  | _ => .no
def tLeaf (c : TV) : TV := fun e => match c (view e) with
  | .ok b _ => .ok b e
  | _ => .no
/-- a place in a deep tree: the slot, what stands there, how it is put anew -/
inductive RP where
  | ok (i : Nat) (t : D) (put : D → D) | no
abbrev PV := Env → RP
def pSlot (i : Nat) : PV := fun e => match slot e i with
  | .dp _ d => .ok i d id
  | _ => .no
def notOb : D → Bool
  | .ob _ => false | _ => true
/-- a value as a child -/
def chd : RV → Env → Option (D × Env)
  | .fz d, e => some (d, e)
  | .nw d, e => if obk d then some (.ob d, e) else none
  | .dn d, e => some (.ob d, e)
  | .at i, e => stl (.at i) e
def setDpE (e : Env) (i : Nat) (d : D) : Env := match slot e i with
  | .dp g _ => e.set i (.dp g d)
  | _ => e
/-- p.append(a), a leaf -/
def eAppP (p : PV) (a : EV) : EV := fun e => match p e with
  | .ok i (.lst xs) put => (match eLeaf a e with
    | .ok (.fz y) _ => if xs.length < BIG then .ok (.fz .non) (setDpE e i (put (.lst (xs ++ [y])))) else .no
    | _ => .no)
  | _ => .no
section
variable {Z : Wd} {F F' H H' : Hp} {N : En} {σ : L2.St} {e e' : Env} {v w x y : V} {W : WX} {E : Ends}
/-! ### seen as frozen -/
theorem get_view {e : Env} {i : Nat} {s : Sl} (h : (view e)[i]? = some s) : ∃ t, e[i]? = some t ∧ s = t.view := by
  unfold view at h
  rw [List.getElem?_map, Option.map_eq_some_iff] at h
  obtain ⟨t, h1, h2⟩ := h
  exact ⟨t, h1, h2.symm⟩
/-- the frozen part with places of the heap, and all tuples -/
noncomputable def pubP (F H : Hp) (P : Addr → Prop) : Hp := fun b => match F b with
  | some o => some o
  | none => open Classical in if P b then H b else (match H b with
    | some (.tup xs) => some (.tup xs)
    | _ => none)
theorem pubP_f {P : Addr → Prop} : Same F (pubP F H P) := fun b o h => by unfold pubP; rw [h]
theorem pubP_le {P : Addr → Prop} (l : Same F H) : Same (pubP F H P) H := fun b o h => by
  unfold pubP at h
  cases q : F b with
  | some u => rw [q] at h; cases h; exact l _ _ q
  | none =>
    rw [q] at h
    dsimp only at h
    split at h
    · exact h
    · split at h
      · rename_i xs q2; rw [q2, ← h]
      · cases h
theorem pubP_in {P : Addr → Prop} (l : Same F H) {b : Addr} {o : HO} (m : P b) (h : H b = some o) : pubP F H P b = some o := by
  unfold pubP
  cases q : F b with
  | some u => rw [← h]; exact (l _ _ q).symm
  | none => dsimp only; rw [if_pos m]; exact h
theorem pubP_tup {P : Addr → Prop} (l : Same F H) {b : Addr} {xs : List V} (h : H b = some (.tup xs)) : pubP F H P b = some (.tup xs) := by
  unfold pubP
  cases q : F b with
  | some u => rw [← h]; exact (l _ _ q).symm
  | none =>
    dsimp only
    by_cases m : P b
    · rw [if_pos m]; exact h
    · rw [if_neg m, h]
theorem pubP_out {P : Addr → Prop} {b : Addr} (m : ¬ P b) (f : F b = none) (nt : ∀ o, H b = some o → NT o) : pubP F H P b = none := by
  unfold pubP
  rw [f]
  dsimp only
  rw [if_neg m]
  split
  · rename_i xs h; exact (nt _ h xs rfl).elim
  · rfl
theorem SOk.view (S : SOk Z N F H σ e) : ∃ F', Same F F' ∧ SOk Z ⟨F', H, [], fun _ => none, fun _ => []⟩ F' H σ (view e) := by
  refine ⟨pubP F H fun b => ∃ (i : Nat) (g : Bool) (d : D), e[i]? = some (Sl.dp g d) ∧ Live Z F H ((σ[i]?).join) (Sl.dp g d) b, pubP_f, ?_⟩
  generalize hP : (fun b => ∃ (i : Nat) (g : Bool) (d : D), e[i]? = some (Sl.dp g d) ∧ Live Z F H ((σ[i]?).join) (Sl.dp g d) b) = P
  have hPi : ∀ (b : Addr) (i : Nat) (g : Bool) (d : D), e[i]? = some (Sl.dp g d) → Live Z F H ((σ[i]?).join) (Sl.dp g d) b → P b := fun b i g d h1 h2 => by rw [← hP]; exact ⟨i, g, d, h1, h2⟩
  have out : ∀ (i : Nat) (s : Sl) (b : Addr), e[i]? = some s → (∀ g d, s ≠ .dp g d) → Live Z F H ((σ[i]?).join) s b → pubP F H P b = none := fun i s b hi ns l => by
    obtain ⟨f, u, hu, nt⟩ := S.liveN hi l
    refine pubP_out (fun z => ?_) f fun o ho => by rw [hu] at ho; cases ho; exact nt
    rw [← hP] at z
    obtain ⟨j, g, d, h1, h2⟩ := z
    have ne : j ≠ i := by rintro rfl; rw [h1] at hi; cases hi; exact ns g d rfl
    exact S.sep j i _ s b h1 hi ne rfl h2 l
  refine ⟨pubP_le S.le, Same.refl _, fun _ _ h _ => h, fun _ _ _ _ h => h, by unfold S3.view; rw [List.length_map]; exact S.len, fun i s h => ?_, fun i j s t a h1 h2 ne o l1 l2 => ?_, fun a m => absurd m (by simp), fun i d h => ?_, fun i d a r h k => (by cases k), fun i j d a h m l => (by cases m), fun j a m => (by cases m)⟩
  · obtain ⟨t, h1, rfl⟩ := get_view h
    obtain ⟨o, g1, g2⟩ := S.slot i t h1
    refine ⟨o, g1, ?_⟩
    have out := out i t
    rw [g1] at out
    cases t with
    | no => trivial
    | fz d => obtain ⟨v, e, r⟩ := g2; exact ⟨v, e, r.mono pubP_f⟩
    | ow d => obtain ⟨a, rfl, f, n, t⟩ := g2; exact ⟨_, rfl, .inr ⟨a, rfl, out a h1 (fun _ _ z => by cases z) rfl, t.there, by simp, t.keep pubP_f fun _ q => q⟩⟩
    | mu d => obtain ⟨a, rfl, f, n, t⟩ := g2; exact ⟨_, rfl, .inr ⟨a, rfl, out a h1 (fun _ _ z => by cases z) rfl, t.there, by simp, t.keep pubP_f fun _ q => q⟩⟩
    | bo d =>
      obtain ⟨v, rfl, r⟩ := g2
      by_cases rr : Rp Z F v d
      · exact ⟨v, rfl, .inl (rr.mono pubP_f)⟩
      · rcases r with r | ⟨a, rfl, f, n, m, t⟩
        · exact (rr r).elim
        · exact ⟨_, rfl, .inr ⟨a, rfl, out a h1 (fun _ _ z => by cases z) ⟨rfl, rr⟩, t.there, by simp, t.keep pubP_f fun _ q => q⟩⟩
    | dp g d =>
      obtain ⟨v, R, rfl, t, y⟩ := g2
      exact ⟨v, rfl, t.rp pubP_f (fun _ _ => pubP_tup S.le) fun b m _ => pubP_in S.le (hPi b i g d h1 (by rw [g1]; exact ⟨v, R, rfl, t, m⟩))⟩
  · obtain ⟨s', _, rfl⟩ := get_view h1
    cases s' <;> cases o
  · obtain ⟨t, _, q⟩ := get_view h
    cases t <;> cases q
/-- what is only read leaves the state as it was -/
theorem SOk.unview {σ' : L2.St} (S : SOk Z N F H σ e) {Fv : Hp} (T : SOk Z ⟨Fv, H, [], fun _ => none, fun _ => []⟩ F' H' σ' e') : Same H H' ∧ SOk Z N F H' σ e := by
  have hh : Same H H' := fun b o h => T.h0 b o h (by simp)
  exact ⟨hh, S.grow (Same.refl _) hh (fun b o h => hh _ _ (S.le _ _ h)) fun _ _ _ _ h => h⟩
theorem leaf_rp {d : D} (k : leafD d = true) (h : RdV Z F H v d) : ∀ F', Rp Z F' v d := fun F' => by
  cases d <;> simp only [leafD] at k <;> try (cases k; done)
  · rw [h.non]; exact .non
  · rw [h.bl]; exact .bl _
  · rw [h.int]; exact .int _
  · rw [h.str.1]; exact .str _ h.str.2.2
/-- a leaf is reckoned -/
theorem leaf_ev (S : SOk Z N F H σ e) {f : EV} {d : D} {Q : VK} (h : eLeaf f e = .ok (.fz d) e) (K : ∀ v H', Same H H' → SOk Z N F H' σ e → (∀ F', Rp Z F' v d) → Q v H') : tEv Z W0 f σ H Q := by
  unfold eLeaf at h
  obtain ⟨Fv, fv, T⟩ := S.view
  refine ⟨_, Fv, S3.view e, T, ?_⟩
  cases q : f (S3.view e) with
  | no => rw [q] at h; cases h
  | ex x e1 => rw [q] at h; cases h
  | ok r e1 =>
    rw [q] at h
    intro v F' H' f' T' R
    dsimp only at h
    cases q1 : S3.rd r e1 with
    | none => rw [q1] at h; cases h
    | some d' =>
      rw [q1] at h
      dsimp only at h
      split at h
      · rename_i k
        cases h
        obtain ⟨hh, S'⟩ := S.unview T'
        exact K v H' hh S' (leaf_rp k (RvOk.rd T' R q1))
      · cases h
theorem eLeaf_form {f : EV} {e : Env} {r : RV} {e1 : Env} (h : eLeaf f e = .ok r e1) : ∃ d, r = .fz d ∧ e1 = e := by
  unfold eLeaf at h
  split at h
  · split at h
    · split at h
      · cases h; exact ⟨_, rfl, rfl⟩
      · cases h
    · cases h
  · cases h
theorem tleaf_rd {c : TV} {Q : Bool → Hp → Prop} (h : tTv Z W (tLeaf c) σ H Q) : tTv Z W0 c σ H Q := by
  obtain ⟨N, F, e, S, P⟩ := h
  unfold tLeaf at P
  obtain ⟨Fv, fv, T⟩ := S.view
  refine ⟨_, Fv, S3.view e, T, ?_⟩
  cases q : c (S3.view e) with
  | no => rw [q] at P; exact P.elim
  | ex x e1 => rw [q] at P; exact P.elim
  | ok b e1 =>
    rw [q] at P
    intro F' H' f' T'
    obtain ⟨hh, S'⟩ := S.unview T'
    exact P F H' (Same.refl _) S'
/-! ### places -/
/-- the slot i holds a deep tree, in which t stands at b -/
def FocS (Z : Wd) (F H : Hp) (σ : L2.St) (e : Env) (i : Nat) (b : Addr) (t : D) (put : D → D) : Prop :=
  ∃ g d w R Rt, e[i]? = some (.dp g d) ∧ σ[i]? = some (some w) ∧ OwT Z F H R w (.ob d) ∧ Foc Z F H R w b t Rt put
theorem Foc.grow {R Rt : List Addr} {b : Addr} {t : D} {put : D → D} (h : Foc Z F H R w b t Rt put) (k : Same H H') : Foc Z F H' R w b t Rt put :=
  ⟨h.here.kept (kp_same k), h.sub, fun H2 t' Rt' h' kp s => h.back H2 t' Rt' h' (fun b o hb m => kp b o (k _ _ hb) m) s⟩
theorem FocS.grow {i : Nat} {b : Addr} {t : D} {put : D → D} (h : FocS Z F H σ e i b t put) (k : Same H H') : FocS Z F H' σ e i b t put := by
  obtain ⟨g, d, w, R, Rt, h1, h2, h3, h4⟩ := h
  exact ⟨g, d, w, R, Rt, h1, h2, h3.kept (kp_same k), h4.grow k⟩
def PostP (Z : Wd) (N : En) (F H : Hp) (σ : L2.St) (e : Env) (Q : VK) : RP → Prop
  | .no => False
  | .ok i t put => ∀ b H', Same H H' → SOk Z N F H' σ e → FocS Z F H' σ e i b t put → Q (.ref b) H'
def tPv (Z : Wd) (p : PV) : TE := fun σ H Q => ∃ N F e, SOk Z N F H σ e ∧ PostP Z N F H σ e Q (p e)
theorem pslot_rd {i : Nat} {Q : VK} (h : tPv Z (pSlot i) σ H Q) : tVar i σ H Q := by
  obtain ⟨N, F, e, S, P⟩ := h
  unfold pSlot at P
  cases q : S3.slot e i <;> rw [q] at P <;> try exact P.elim
  rename_i g d
  have hs := slot_get q (by intro z; cases z)
  obtain ⟨o, h1, v, R, rfl, t, y⟩ := S.slot i _ hs
  obtain ⟨b, rfl, fc⟩ := Foc.top t
  exact ⟨_, h1, P b H (Same.refl _) S ⟨g, d, _, R, R, hs, h1, t, fc⟩⟩
/-! ### children -/
/-- what becomes a child: new, nobody's -/
def ChOk (Z : Wd) (N : En) (F H : Hp) (σ : L2.St) (e : Env) (v : V) (c : D) (Q : List Addr) : Prop :=
  OwT Z F H Q v c ∧ ∀ b ∈ Q, N.H b = none ∧ ∀ (j : Nat) (s : Sl), e[j]? = some s → ¬ Live Z F H ((σ[j]?).join) s b
theorem ChOk.grow {c : D} {Q : List Addr} (S : SOk Z N F H σ e) (h : ChOk Z N F H σ e v c Q) (k : Same H H') : ChOk Z N F H' σ e v c Q :=
  ⟨h.1.kept (kp_same k), fun b m => ⟨(h.2 b m).1, fun j s hj l => (h.2 b m).2 j s hj (S.unlive hj l (Same.refl _) (fun _ _ z => z) fun _ _ _ _ _ _ _ => kp_same k)⟩⟩
theorem RvOk.chd (S : SOk Z N F H σ e) {r : RV} {c : D} (R : RvOk Z N F H σ e v r) (h : S3.chd r e = some (c, e')) : ∃ F', Same F F' ∧ SOk Z N F' H σ e' ∧ ∃ Q, ChOk Z N F' H σ e' v c Q := by
  cases r with
  | fz d => cases h; exact ⟨F, Same.refl _, S, [], .fz R, fun b m => by cases m⟩
  | nw d =>
    simp only [S3.chd] at h
    split at h
    · rename_i k
      cases h
      obtain ⟨a, rfl, fa, na, t, ap⟩ := R
      exact ⟨F, Same.refl _, S, [a], t.ow k fa, fun b m => by rw [List.mem_singleton.mp m]; exact ⟨na, ap⟩⟩
    · cases h
  | dn d =>
    cases h
    obtain ⟨Q, t, na, ap⟩ := R
    exact ⟨F, Same.refl _, S, Q, t, fun b m => ⟨na b m, ap b m⟩⟩
  | «at» i =>
    obtain ⟨F', f, S', r⟩ := RvOk.stl S R h
    exact ⟨F', f, S', [], .fz r, fun b m => by cases m⟩
/-! ### changes -/
theorem ty_lstH {K : PySem.W.Frag} {p : Addr} {xs : List V} (h : H p = some (.lst xs)) : tyV K "list" (.ref p) H := by
  exact .inl ⟨rfl, xs, SqL.of h⟩
/-- the part in focus is changed, the slot with it -/
theorem SOk.foc (S : SOk Z N F H σ e) {i : Nat} {b : Addr} {t t' : D} {put : D → D} {o : HO} (h : FocS Z F H σ e i b t put) (no : NT o)
    (ch : ∀ Rt, OwT Z F H Rt (.ref b) (.ob t) → (∀ x ∈ Rt, ∀ (j : Nat) (s : Sl), j ≠ i → e[j]? = some s → ¬ Live Z F H ((σ[j]?).join) s x) → (∃ g d, e[i]? = some (.dp g d) ∧ ∀ x ∈ Rt, Live Z F H ((σ[i]?).join) (.dp g d) x) → b ∈ Rt ∧ (∀ u, H b = some u → NT u) ∧
      ∃ Q, OwT Z F (upd H b o) Q (.ref b) (.ob t') ∧ ∀ x ∈ Q, x ∈ Rt ∨ (N.H x = none ∧ ∀ (j : Nat) (s : Sl), e[j]? = some s → ¬ Live Z F H ((σ[j]?).join) s x)) :
    SOk Z N F (upd H b o) σ (setDpE e i (put t')) := by
  obtain ⟨g, d, w, R, Rt, h1, h2, h3, h4⟩ := h
  have lv : ∀ x ∈ R, Live Z F H ((σ[i]?).join) (.dp g d) x := fun x m => by rw [h2]; exact ⟨w, R, rfl, h3, m⟩
  obtain ⟨bm, nb, Q, tq, sq⟩ := ch Rt h4.here (fun x m j s ne hj l => S.sep i j _ s x h1 hj (Ne.symm ne) rfl (lv x (h4.sub x m)) l) ⟨g, d, h1, fun x m => lv x (h4.sub x m)⟩
  obtain ⟨R', p, s'⟩ := h4.write bm nb tq fun x m => (sq x m).imp id fun z y => z.2 i _ h1 (lv x y)
  have : setDpE e i (put t') = e.set i (.dp g (put t')) := by unfold setDpE; rw [slot_of h1]
  rw [this]
  refine S.writeDp h1 h2 h3 (h4.sub b bm) no p fun x m => ?_
  rcases s' x m with z | z
  · exact .inl z
  · exact (sq x z).imp (h4.sub x) id
theorem appP_rd {p : PV} {a : EV} {Q : VK} (h : tEv Z W (eAppP p a) σ H Q) : tPv Z p σ H fun x H1 => tyV Z.K "list" x H1 ∧ (fun σ H R => tEv Z W0 a σ H fun y H2 => R [y] H2) σ H1 fun vs H2 => rAppend x vs H2 Q := by
  obtain ⟨N, F, e, S, P⟩ := h
  unfold eAppP at P
  refine ⟨N, F, e, S, ?_⟩
  cases q : p e with
  | no => rw [q] at P; exact P
  | ok i t put =>
    rw [q] at P
    cases t <;> try exact P.elim
    rename_i ds
    dsimp only at P
    cases q0 : eLeaf a e with
    | no => rw [q0] at P; exact P.elim
    | ex _ _ => rw [q0] at P; exact P.elim
    | ok r e1 =>
      obtain ⟨y, rfl, rfl⟩ := eLeaf_form q0
      rw [q0] at P
      dsimp only at P
      split at P
      · rename_i hc
        intro b H3 h3 S3' fs3
        have hx : ∀ {H4}, FocS Z F H4 σ e1 i b (.lst ds) put → ∃ xs, H4 b = some (.lst xs) ∧ xs.length = ds.length := fun {H4} fs4 => by
          obtain ⟨g, d, w, R, Rt, g1, g2, g3, g4⟩ := fs4
          have hr := g4.here
          cases hr with
          | fz r => exact (no_ob r).elim
          | lst fb hb nb r => exact ⟨_, hb, r.length⟩
        refine ⟨?_, leaf_ev S3' q0 fun v H4 h4 S4 rv => ?_⟩
        · obtain ⟨xs, hxs, _⟩ := hx fs3
          exact ty_lstH hxs
        · have fs4 := fs3.grow h4
          obtain ⟨xs, hxs, hlen⟩ := hx fs4
          refine ⟨b, xs, v, rfl, rfl, hxs, by rw [sizeLine_eq, hlen]; exact hc, P .non F _ (Same.refl _) (S4.foc fs4 (fun _ z => by cases z) fun Rt tr nl li => ?_) .non⟩
          cases tr with
          | fz r => exact (no_ob r).elim
          | @lst _ Rk xs' _ fb hb nb r =>
            rw [hxs] at hb
            cases hb
            have r2 := OwA.app (.cons (R := []) (Q := []) (.fz (rv F)) .nil (fun _ z => by cases z)) r (fun b m => by cases m)
            have r2' : OwA Z F H4 Rk (xs ++ [v]) (ds ++ [y]) := by simpa using r2
            refine ⟨List.mem_cons_self, fun u hu => (by rw [hxs] at hu; cases hu; exact fun _ z => by cases z), b :: Rk, .lst fb upd_same nb (r2'.kept fun x o hx0 m => ?_), fun x m => .inl m⟩
            rw [upd_ne ?_]; exact hx0
            rintro rfl
            rcases m with m | m
            · exact nb m
            · rw [hxs] at hx0; cases hx0; exact m fun _ z => by cases z
      · exact P.elim
end
end S3

/-! Y3: deep trees: dict comprehensions of new objects; the rules. -/
namespace S3
open PySem PySem.Spec L2 STK
/-- a new object as a part -/
def chN : RV → Option D
  | .nw d => if obk d then some (.ob d) else none
  | .dn d => some (.ob d)
  | _ => none
section
variable {Z : Wd} {F F' H H' : Hp} {N : En} {σ : L2.St} {e e' : Env} {v x y : V} {W : WX} {E : Ends}
/-- one clause: the core, what is made may be owned -/
theorem cpH_sound {β : Type} {Acc : Hp → Hp → β → HO → Prop} {Bd : L2.St → Hp → (Hp → Prop) → Prop} {bd : Env → β → Option β} {A : Addr} {acc0 ys : β} {o0 : HO} {g : TG} {t : Tg} {own : List Nat} {c : TV} {J : It} {ds : List D} {Q : VK}
    (mono : ∀ F F' Hm Hm' acc o, Same F F' → Same Hm Hm' → (∀ b u, Hm b = some u → NT u → F b = none → F' b = none) → Acc F Hm acc o → Acc F' Hm' acc o)
    (hNT : ∀ F Hm acc o, Acc F Hm acc o → NT o)
    (hB : ∀ N3 F3 H3 σ3 e3 acc acc' o Nx, SOk Z N3 F3 H3 σ3 e3 → N3.H A = some o → N3.F A = none → N3.M = [] → (∀ b o, H b = some o → N3.H b = some o) → Acc N3.F (cutA N3.H A) acc o → bd e3 acc = some acc' → (∀ F6 H6 e6 o', Same F3 F6 → SOk Z N3 F6 H6 σ3 e6 → Acc F6 (cutA H6 A) acc' o' → Nx (upd H6 A o')) → Bd σ3 H3 Nx)
    (tk : TgOk Z g t) (sub : ∀ i ∈ tgIx t, i ∈ own) (S : SOk Z N F H σ e) (wk : WalkOk Z N F J ds)
    (hl : cpG t c bd ds (wipeE (lock e) own) acc0 = some ys) (h0 : Acc F H acc0 o0) (hA : H A = none) (P : ∀ F' Hm o, Same F F' → Same H Hm → (∀ b u, H b = some u → NT u → F b = none → F' b = none) → SOk Z N F' Hm σ e → Hm A = none → Acc F' Hm ys o → Q (.ref A) (upd Hm A o)) :
    ∃ Wm : Nat → Nat → Hp → Prop, (∃ m, Wm 0 m (upd H A o0)) ∧ ∀ i m H, Wm i m H → (J.stop i H ∧ Q (.ref A) H) ∨ (J.go i H ∧ ∃ Nx : Hp → Prop, (∀ H', Nx H' → ∃ m', m' < m ∧ Wm (i + 1) m' H') ∧
      ∀ x H', J.yld i H x H' → g x (wipe σ own) H' fun σ2 H2 => wipe σ2 own = wipe σ own ∧ tTv Z W0 c σ2 H2 fun b H3 => if b = true then Bd σ2 H3 Nx else Nx H3) := by
  refine ⟨fun i m Hx => m = ds.length - i ∧ i ≤ ds.length ∧ ∃ F' Hm acc o, Same F F' ∧ Same H Hm ∧ (∀ b u, H b = some u → NT u → F b = none → F' b = none) ∧ SOk Z N F' Hm σ e ∧ Hm A = none ∧ Hx = upd Hm A o ∧ Acc F' Hm acc o ∧ cpG t c bd (ds.drop i) (wipeE (lock e) own) acc = some ys,
    ⟨ds.length, rfl, Nat.zero_le _, F, H, acc0, o0, Same.refl _, Same.refl _, fun _ _ _ _ h => h, S, hA, rfl, h0, hl⟩, ?_⟩
  rintro i m _ ⟨rfl, hi, F1, Hm, acc, o, f1', h1', n1', S1, nA, rfl, ra, hl1⟩
  have SH : SOk Z N F1 (upd Hm A o) σ e := S1.gr (Gr.lay S1.le nA)
  obtain ⟨w1, w2⟩ := wk F1 _ σ e SH f1' i
  by_cases hlt : i < ds.length
  · have ed : ds.drop i = ds[i] :: ds.drop (i + 1) := List.drop_eq_getElem_cons hlt
    have ei : ds[i]? = some ds[i] := List.getElem?_eq_getElem hlt
    rw [ed] at hl1
    generalize ds[i] = d at hl1 ei
    obtain ⟨go, yl⟩ := w1 d ei
    refine .inr ⟨go, fun Hx => ∃ F' Hm acc o, Same F F' ∧ Same H Hm ∧ (∀ b u, H b = some u → NT u → F b = none → F' b = none) ∧ SOk Z N F' Hm σ e ∧ Hm A = none ∧ Hx = upd Hm A o ∧ Acc F' Hm acc o ∧ cpG t c bd (ds.drop (i + 1)) (wipeE (lock e) own) acc = some ys,
      fun H' h => ⟨ds.length - (i + 1), by omega, rfl, hlt, h⟩, fun x H2 hy => ?_⟩
    obtain ⟨F2, g2, r2⟩ := yl x H2 hy
    have S2 := SH.gr g2
    have S3' := S2.lockd.wipe2 own
    unfold cpG at hl1
    cases q : tgt t d (wipeE (lock e) own) with
    | none => rw [q] at hl1; cases hl1
    | some e2 =>
      rw [q] at hl1
      dsimp only at hl1
      refine tk ⟨F2, H2, [], fun _ => none, fun _ => []⟩ F2 H2 (wipe σ own) (wipeE (lock e) own) x d e2 _ S3' r2 q fun σ2 S4 off => ⟨by rw [wipe_off off sub, wipe_wipe], ⟨F2, H2, [], fun _ => none, fun _ => []⟩, F2, e2, S4, ?_⟩
      have A2 : H2 A = some o := g2.h _ _ upd_same
      have FA : F2 A = none := g2.nf A _ upd_same (hNT _ _ _ _ ra) (none_le S1.le nA)
      have cut : ∀ {F3 H3 : Hp} {σ3 : L2.St} {e3 : Env}, SOk Z ⟨F2, H2, [], fun _ => none, fun _ => []⟩ F3 H3 σ3 e3 → Same Hm (cutA H3 A) ∧ (∀ b u, Hm b = some u → NT u → F1 b = none → F3 b = none) := fun {F3 H3 σ3 e3} T => by
        refine ⟨fun b o' hb => ?_, fun b u hb nt n => ?_⟩
        · have nb : b ≠ A := ne_of_none hb nA
          show (if b = A then none else H3 b) = some o'
          rw [if_neg nb]
          exact T.h0 b o' (g2.h _ _ (by rw [upd_ne nb]; exact hb)) (by simp)
        · have nb : b ≠ A := ne_of_none hb nA
          have hb' : upd Hm A o b = some u := by rw [upd_ne nb]; exact hb
          exact T.nf b u (g2.h _ _ hb') nt (g2.nf b u hb' nt n)
      have acc2 : ∀ {F3 H3 : Hp} {σ3 : L2.St} {e3 : Env}, SOk Z ⟨F2, H2, [], fun _ => none, fun _ => []⟩ F3 H3 σ3 e3 → Acc F3 (cutA H3 A) acc o := fun {F3 H3 σ3 e3} T => mono F1 F3 Hm _ acc o (g2.f.trans T.f0) (cut T).1 (cut T).2 ra
      have nf2 : ∀ {F3 H3 : Hp} {σ3 : L2.St} {e3 : Env}, SOk Z ⟨F2, H2, [], fun _ => none, fun _ => []⟩ F3 H3 σ3 e3 → ∀ b u, H b = some u → NT u → F b = none → F3 b = none := fun {F3 H3 σ3 e3} T b u hb nt n => (cut T).2 b u (h1' _ _ hb) nt (n1' b u hb nt n)
      have accN : Acc F2 (cutA H2 A) acc o := mono F1 F2 Hm _ acc o g2.f (cut S4).1 (fun b u hb nt n => g2.nf b u (by rw [upd_ne (ne_of_none hb nA)]; exact hb) nt n) ra
      cases q2 : c e2 with
      | no => rw [q2] at hl1; cases hl1
      | ex z e3 => rw [q2] at hl1; cases hl1
      | ok b e3 =>
        rw [q2] at hl1
        intro F3 H3 f3 T3
        cases b with
        | false =>
          refine iteF ?_
          obtain ⟨k1, k2, k3, bk⟩ := back_all (hNT _ _ _ _ ra) nA S1.le g2 T3
          exact ⟨F3, cutA H3 A, acc, o, f1'.trans k3, h1'.trans (cut T3).1, nf2 T3, bk S1, cutA_self, cutA_in k1, acc2 T3, hl1⟩
        | true =>
          dsimp only at hl1
          refine iteT ?_
          cases q3 : bd e3 acc with
          | none => rw [q3] at hl1; cases hl1
          | some acc' =>
            rw [q3] at hl1
            dsimp only at hl1
            refine hB ⟨F2, H2, [], fun _ => none, fun _ => []⟩ F3 H3 σ2 e3 acc acc' o _ T3 A2 FA rfl (fun b o' hb => g2.h _ _ (by rw [upd_ne (ne_of_none (h1' _ _ hb) nA)]; exact h1' _ _ hb)) accN q3 fun F6 H6 e6 o' f6 T6 ra' => ?_
            obtain ⟨k1, k2, k3, bk⟩ := back_all (hNT _ _ _ _ ra) nA S1.le g2 T6
            exact ⟨F6, cutA H6 A, acc', o', f1'.trans k3, h1'.trans (cut T6).1, nf2 T6, bk S1, cutA_self, cutA_upd o', ra', hl1⟩
  · have e0 : ds.drop i = [] := List.drop_eq_nil_of_le (Nat.le_of_not_lt hlt)
    rw [e0] at hl1
    unfold cpG at hl1
    cases hl1
    exact .inl ⟨w2 (Nat.le_of_not_lt hlt), P F1 Hm o f1' h1' n1' S1 nA ra⟩
theorem RvOk.chN (S : SOk Z N F H σ e) {r : RV} {c : D} (R : RvOk Z N F H σ e v r) (h : S3.chN r = some c) : ∃ Q, OwT Z F H Q v c ∧ ∀ b ∈ Q, N.H b = none := by
  cases r <;> simp only [S3.chN] at h <;> try (cases h; done)
  · split at h
    · rename_i k
      cases h
      obtain ⟨a, rfl, fa, na, t, _⟩ := R
      exact ⟨[a], t.ow k fa, fun b m => by rw [List.mem_singleton.mp m]; exact na⟩
    · cases h
  · cases h
    obtain ⟨Q, t, na, _⟩ := R
    exact ⟨Q, t, na⟩
end
/-- the text says the place p -/
abbrev Pv (ca : Str → Option Addr) (X : Cx) (e : Expr) (p : PV) : Prop := PE X e (tPv (zw ca X) p)
section
variable {ca : Str → Option Addr} {W : WX} {X : Cx} {fe fv fa fk : EV} {ft : TV} {pv : PV} {w : WV} {c : TV} {a b o k elt vx tg iter : Expr} {ifs : List Expr} {scope : Scope} {own : List (Str × Nat)} {pos p p2 apos : Pos} {g : TG} {t : Tg} {cs : List Str} {f : Str}
theorem tv_leaf (h : Tv ca W0 X a ft) : Tv ca W X a (tLeaf ft) := PT_imp h fun _ _ _ => tleaf_rd
theorem pv_slot (i : Nat) {x : Str} (hN : X.N[i]? = some x := by rfl) (hv : Vis X.env.scope x := by first | exact Or.inl rfl | exact Or.inr (Or.inl rfl) | exact Or.inr (Or.inr rfl)) (hd : (x == ("__debug__" : Str)) = false := by decide)
    (hcd : (x == ("__classdict__" : Str)) = false := by decide) : Pv ca X (.Name x pos) (pSlot i) := PE_imp (pe_var hN hv hd hcd) fun _ _ _ => pslot_rd
theorem ev_appP (ho : Pv ca X o pv) (ha : Ev ca W0 X a fa) (hbase : attributeBase o "append" X.env (eval o X.env) = eval o X.env := by rfl)
    (hline : (apos.endLine == pos.line) = true := by rfl) (hs : starEach [a] X.env = (false, eval a X.env) :: starEach [] X.env := by rfl) : Ev ca W X (.Call (.Attribute o "append" apos) [a] [] pos) (eAppP pv fa) :=
  PE_imp (pe_bm PySem.F.plainAttrs_list PySem.F.slot_list_append PySem.F.type_list_append mt_append ho (pa_cons ha pa_nil hs) hbase (by rw [hs]; rfl) hline hs (by rfl)) fun _ _ _ h => appP_rd h
end
end S3

/-! Y4: own instances called; made with a default; {k: v, ..}; xs.pop(0); what no law reaches. -/
namespace L2
open PySem PySem.Spec PyProof.Rows
section
variable {X : Cx} {CX : CXT} {k : Nat} {f C : Addr} {fd : FuncData} {ps : List Str} {sp : Sp} {E : St → XK} {x : Str} {p pos : Pos} {e o : Expr} {es : List Expr} {ta : TE} {t : TA} {ds : List Value} {dvs : List V}
open PySem.W PySem.Calls in
end
end L2

namespace S3
open PySem PySem.Spec L2
section
variable {Z : Wd} {F F' H H' : Hp} {N : En} {σ : L2.St} {e e' : Env} {v x y : V} {W : WX} {E : Ends}
end
section
variable {ca : Str → Option Addr} {W : WX} {X : Cx} {a : Expr} {es : List Expr} {fo : EV} {ga : AV} {pos p apos : Pos} {c n x : Str} {k : Nat} {ms : List Md} {phi : List D → RC} {d0 : D}
end
end S3

/-! Y5: d.get(k). -/
namespace S3
open PySem PySem.Spec L2
section
variable {Z : Wd} {F F' H H' : Hp} {N : En} {σ : L2.St} {e e' : Env} {v x y : V} {W : WX} {E : Ends}
end
section
variable {ca : Str → Option Addr} {W : WX} {X : Cx} {a b : Expr} {fa fb : EV} {pos apos : Pos}
end
end S3

/-! Y6: a local set to a dict comprehension -/
namespace L2
open PySem PySem.Spec
section
variable {X : Cx}
end
end L2
namespace S3
open PySem PySem.Spec L2
section
variable {ca : Str → Option Addr} {W : WX} {X : Cx} {fe fv : EV} {w : WV} {c : TV} {elt vx tg iter : Expr} {ifs : List Expr} {scope : Scope} {own : List (Str × Nat)} {pos : Pos} {g : TG} {t : Tg}
end
/-! list(a dict) -/
section
open PyProof.Rows
variable {X : Cx}
variable {Z : Wd}
end
/-! x, y = ([], []) -/
section
variable {Z : Wd} {N : En} {W : WX} {E : Ends} {F H : Hp} {σ : L2.St} {e : Env}
end
section
variable {ca : Str → Option Addr} {W : WX} {X : Cx} {pos px py pt pt2 q1 q2 : Pos} {x y : Str} {kt k2 : _}
end
end S3

/-! Y7: xs.remove(x), x a text; C(kw=e). -/
namespace L2
open PySem PySem.Spec PyProof.Rows
section
variable {X : Cx}
end
end L2

namespace S3
open PySem PySem.Spec L2
section
variable {Z : Wd} {F F' H H' : Hp}
end
section
variable {ca : Str → Option Addr} {W : WX} {X : Cx} {a : Expr} {es : List Expr} {fc : EV} {ga : AV} {pos p apos : Pos} {c n x kw : Str} {k : Nat} {phi : List D → RC}
end
section
variable {Z : Wd} {F H : Hp} {N : En} {σ : L2.St} {e : Env} {W : WX}
end
section
variable {ca : Str → Option Addr} {W : WX} {X : Cx} {fe : EV} {w : WV} {c : TV} {a elt tg iter : Expr} {ifs : List Expr} {scope : Scope} {own : List (Str × Nat)} {pos p : Pos} {g : TG} {t : Tg}
end
end S3

/-! Y8: list(o), o of a class of one's own whose __iter__ hands out an iterator over a list. -/
namespace L2
open PySem PySem.Spec PyProof.Rows PySem.Calls
/-! ### one turn of an iterator over a list -/
section
variable {prog : Program} {w : World} {A : Around} {E : Value → Shared → Prop} {s : Shared} {it l : Addr} {i : Nat} {items : Array Value}
end
end L2
namespace L2
open PySem PySem.Spec PyProof.Rows PySem.Calls
theorem SqL.lay {K : PySem.W.Frag} {H : Hp} {l a : Addr} {o : HO} {xs : List V} (h : SqL K H l xs) (n : H a = none) : SqL K (upd H a o) l xs := by
  rcases h with (h | ⟨u, h⟩) | h
  · exact .inl (.inl (by rw [upd_ne (ne_of_none h n)]; exact h))
  · exact .inl (.inr ⟨u, by rw [upd_ne (ne_of_none h n)]; exact h⟩)
  · exact .inr h
section
variable {X : Cx} {pins : List (Addr × Obj)} {σ : St} {H : Hp} {s s' : Shared} {l it q : Addr} {ys : List V} {A1 : Around}
variable {C C2 fi a : Addr} {f g : Str} {fdI : FuncData} {psI : List Str} {n : Nat} {xs : List V}
end
end L2
namespace S3
open PySem PySem.Spec L2
section
variable {Z : Wd} {c c2 f g : Str} {C C2 : Addr}
end
section
variable {ca : Str → Option Addr} {W : WX} {X : Cx} {a : Expr} {fa : EV} {pos p : Pos} {c c2 f g : Str} {k : Nat} {phi : List D → RC}
end
end S3
/-! o[x], o of a class of one's own -/
namespace L2
open PySem PySem.Spec PyProof.Rows PySem.Calls
section
variable {X : Cx} {C f : Addr} {fd : FuncData} {ps : List Str} {sp : Sp} {n : Nat} {a b : Expr} {ta tb : TE} {pos : Pos}
end
end L2
namespace S3
open PySem PySem.Spec L2
section
variable {Z : Wd} {c : Str} {C : Addr} {phi : List D → RC} {md : Md}
end
section
variable {ca : Str → Option Addr} {W : WX} {X : Cx} {a b : Expr} {fa fb : EV} {pos : Pos} {c : Str} {k : Nat} {phi : List D → RC} {md : Md}
end
end S3
/-! x in o, o of a class of one's own -/
namespace L2
open PySem PySem.Spec PyProof.Rows PySem.Calls
section
variable {X : Cx} {C f : Addr} {fd : FuncData} {ps : List Str} {sp : Sp} {n : Nat}
end
end L2
namespace S3
open PySem PySem.Spec L2
section
variable {Z : Wd} {c : Str} {C : Addr} {phi : List D → RC}
end
section
variable {ca : Str → Option Addr} {W : WX} {X : Cx} {a b : Expr} {fa fb : EV} {pos : Pos} {c : Str} {k : Nat} {phi : List D → RC}
end
end S3

/-! Y9: == of dicts of ints whose keys are tuples. -/
namespace S3T
open PySem PySem.Spec PyProof.Rows L2
section
variable {prog : Program} {w : World} {K : Type} [DecidableEq K] {knd : HeapKind prog w K} {A : Around} {E : Value → Shared → Prop} {s : Shared}
end
end S3T
namespace L2
open PySem PySem.Spec PyProof.Rows S3T
section
variable {X : Cx}
end
end L2
namespace S3
open PySem PySem.Spec L2
section
variable {Z : Wd} {F H : Hp}
end
end S3

/-! Y10: try with several clauses, each with a name or without one, and else. -/
namespace S3
open PySem PySem.Spec PyProof.Rows L2
abbrev ClT := Value × Option Nat × (Addr → Value → Option Addr → TS)
abbrev SuT (X : Cx) (ss : List Stmt) (ts : Addr → Value → Option Addr → TS) : Prop := ∀ (a : Addr) (oe : Obj) (cls : Value) (d : Option Addr) (pn : List (Addr × Obj)), Zc cls d oe → (∃ vs, oe.data = .fields vs) → PSs (X.suite a ((a, oe) :: pn)) ss (ts a cls d)
inductive MixOk (X : Cx) : List ExceptHandler → List ClT → Prop
  | nil : MixOk X [] []
  | bare {x : Str} {c : Value} {ts : Addr → Value → Option Addr → TS} {b0 : Stmt} {ss : List Stmt} {np pq : Pos} {hds : List ExceptHandler} {l : List ClT} : Names X x c → SuT X (b0 :: ss) ts → MixOk X hds l → MixOk X (.ExceptHandler (some (.Name x np)) none (b0 :: ss) pq :: hds) ((c, none, ts) :: l)
  | named {x n : Str} {i : Nat} {c : Value} {ts : Addr → Value → Option Addr → TS} {b0 : Stmt} {ss : List Stmt} {np pq : Pos} {hds : List ExceptHandler} {l : List ClT} : X.N[i]? = some n → X.env.kindOf n = some .local → Names X x c → SuT X (b0 :: ss) ts → MixOk X hds l →
      MixOk X (.ExceptHandler (some (.Name x np)) (some n) (b0 :: ss) pq :: hds) ((c, some i, ts) :: l)
section
variable {X : Cx} {body : List Stmt} {h0 : ExceptHandler} {hds : List ExceptHandler} {l : List ClT} {pos : Pos} {tb : WX → TS} {U : WX}
end
/-! ### the words -/
/-- a clause: its class, its name's slot, its suite -/
abbrev ClS := (Str → Bool) × Option Nat × SV
section
variable {ca : Str → Option Addr} {W : WX} {X : Cx} {body : List Stmt} {b o : SV} {pos : Pos}
abbrev SuB (ca : Str → Option Addr) (X : Cx) (ss : List Stmt) (h : SV) : Prop := ∀ (a : Addr) (oe : Obj) (cls : Value) (d : Option Addr) (pn : List (Addr × Obj)), Zc cls d oe → (∃ vs, oe.data = .fields vs) → Bv ca (fun _ _ _ _ => False) (X.suite a ((a, oe) :: pn)) ss h
abbrev SuN (ca : Str → Option Addr) (X : Cx) (ss : List Stmt) (h : SV) : Prop := ∀ (a : Addr) (oe : Obj) (cls : Value) (d : Option Addr) (pn : List (Addr × Obj)), Zc cls d oe → (∃ vs, oe.data = .fields vs) → Bv (caX ca a cls d) (fun _ _ _ _ => False) (X.suite a ((a, oe) :: pn)) ss h
inductive MixV (ca : Str → Option Addr) (X : Cx) : List ExceptHandler → List ClS → List ClT → Prop
  | nil : MixV ca X [] [] []
  | bare {x : Str} {c : Value} {sub : Str → Bool} {h : SV} {b0 : Stmt} {ss : List Stmt} {np pq : Pos} {hds : List ExceptHandler} {hs : List ClS} {l : List ClT} : Names X x c → (∀ m C, ca m = some C → xnm m = true → PySem.W.exmOne X.K (.ref C) c = some (sub m)) → SuB ca X (b0 :: ss) h → MixV ca X hds hs l →
      MixV ca X (.ExceptHandler (some (.Name x np)) none (b0 :: ss) pq :: hds) ((sub, none, h) :: hs) ((c, none, fun _ _ _ => tSv (zw ca X) (fun _ _ _ _ => False) h) :: l)
  | named {x n : Str} {i : Nat} {c : Value} {sub : Str → Bool} {h : SV} {b0 : Stmt} {ss : List Stmt} {np pq : Pos} {hds : List ExceptHandler} {hs : List ClS} {l : List ClT} : X.N[i]? = some n → X.env.kindOf n = some .local → Names X x c → (∀ m C, ca m = some C → xnm m = true → PySem.W.exmOne X.K (.ref C) c = some (sub m)) → SuN ca X (b0 :: ss) h → MixV ca X hds hs l →
      MixV ca X (.ExceptHandler (some (.Name x np)) (some n) (b0 :: ss) pq :: hds) ((sub, some i, h) :: hs) ((c, some i, fun a cls d => tSv (zw (caX ca a cls d) X) (fun _ _ _ _ => False) h) :: l)
theorem MixV.ok {hds : List ExceptHandler} {hs : List ClS} {l : List ClT} (h : MixV ca X hds hs l) : MixOk X hds l := by
  induction h with
  | nil => exact .nil
  | bare h1 h2 h3 _ ih => exact .bare h1 h3 ih
  | named h0 h00 h1 h2 h3 _ ih => exact .named h0 h00 h1 h3 ih
/-! clauses by what is known of their classes -/
end
end S3

/-! Y11: a class as a value: cls(..); C.m(..), m a classmethod. -/
namespace L2
open PySem PySem.Spec PyProof.Rows
section
variable {X : Cx} {CX : CXT} {k : Nat} {f C q : Addr} {fd : FuncData} {ps : List Str} {sp : Sp} {E : St → XK} {x n m : Str} {p pos apos np : Pos} {e : Expr} {es : List Expr} {ta : TE} {t : TA} {mc : Value} {pr : Addr}
end
end L2
namespace S3
open PySem PySem.Spec L2
section
variable {Z : Wd} {F H : Hp} {ms : List Md} {vs : List V} {ds : List D} {Q : VK} {E : XK}
end
section
variable {ca : Str → Option Addr} {W : WX} {X : Cx} {a : Expr} {es : List Expr} {fo : EV} {ga : AV} {pos p apos np : Pos} {c n m x : Str} {k : Nat} {ms : List Md} {phi : List D → RC}
end
end S3

/-! Y12: a list of one's own is lent to be read while a statement runs (a walk over it), and is one's own again behind it. -/
namespace S3
open PySem PySem.Spec L2
section
variable {Z : Wd} {F F' H H' : Hp} {N : En} {σ : L2.St} {e : Env} {i : Nat} {b : Addr} {c : HO}
end
section
variable {ca : Str → Option Addr} {W : WX} {X : Cx}
end
/-! a list of one's own handed on to another name (the old name is read no more) -/
section
variable {Z : Wd} {W : WX} {i : Nat} {σ : L2.St} {H : Hp}
end
section
variable {ca : Str → Option Addr} {W : WX} {X : Cx}
end
end S3

/-! Y13: C.m(), m a staticmethod without parameters. -/
namespace L2
open PySem PySem.Spec PyProof.Rows
end L2
namespace S3
open PySem PySem.Spec L2
section
variable {ca : Str → Option Addr} {W : WX} {X : Cx} {pos apos np : Pos} {n m : Str} {k : Nat} {phi : List D → RC}
open PySem.Spec PyProof.Rows in
end
end S3

/-! Y14: deep trees further: a region held while other things are reckoned; displays of new objects; places by an index; x.append on a new list. -/
namespace S3
open PySem PySem.Spec L2
section
variable {Z : Wd} {F F' H H' : Hp} {N : En} {σ : L2.St} {e e' : Env} {v w x y : V} {W : WX} {E : Ends}
/-! ### a region held -/
/-- the entry's heap with a region and all tuples of a heap -/
def reH (N : En) (H : Hp) (R : List Addr) : Hp := fun b => if b ∈ R then H b else (match H b with
  | some (.tup xs) => some (.tup xs)
  | _ => N.H b)
def reN (N : En) (H : Hp) (R : List Addr) (j : Nat) : En := ⟨N.F, reH N H R, N.M, N.mi, fun i => if i = j then R ++ N.bi i else N.bi i⟩
theorem reH_in {R : List Addr} {b : Addr} (m : b ∈ R) : reH N H R b = H b := if_pos m
theorem reH_tup {R : List Addr} {b : Addr} {xs : List V} (h : H b = some (.tup xs)) : reH N H R b = some (.tup xs) := by
  unfold reH
  by_cases m : b ∈ R
  · rw [if_pos m]; exact h
  · rw [if_neg m, h]
theorem reH_of {R : List Addr} {b : Addr} {o : HO} (h : reH N H R b = some o) : (H b = some o ∧ (b ∈ R ∨ ¬ NT o)) ∨ (b ∉ R ∧ N.H b = some o) := by
  unfold reH at h
  by_cases m : b ∈ R
  · rw [if_pos m] at h; exact .inl ⟨h, .inl m⟩
  · rw [if_neg m] at h
    split at h
    · rename_i xs q; cases h; exact .inl ⟨q, .inr nt_tup⟩
    · exact .inr ⟨m, h⟩
theorem reH_no {R : List Addr} {b : Addr} (nw : ∀ b ∈ R, N.H b = none) (h : reH N H R b = none) : N.H b = none := by
  unfold reH at h
  by_cases m : b ∈ R
  · exact nw b m
  · rw [if_neg m] at h
    split at h
    · cases h
    · exact h
/-- what stood at the entry and is no tuple now -/
theorem reH_old {R : List Addr} {b : Addr} (m : b ∉ R) (nt : ∀ xs, H b ≠ some (.tup xs)) : reH N H R b = N.H b := by
  unfold reH
  rw [if_neg m]
  split
  · rename_i xs q; exact (nt xs q).elim
  · rfl
theorem reH_some {R : List Addr} {b : Addr} {u : HO} (m : b ∉ R) (h : N.H b = some u) : ∃ o, reH N H R b = some o := by
  unfold reH
  rw [if_neg m]
  split
  · exact ⟨_, rfl⟩
  · exact ⟨u, h⟩
theorem SOk.keepR {R : List Addr} (S : SOk Z N F H σ e) (th : ∀ b ∈ R, F b = none ∧ ∃ o, H b = some o ∧ NT o) (nw : ∀ b ∈ R, N.H b = none) (ap : ∀ b ∈ R, ∀ (j : Nat) (s : Sl), e[j]? = some s → ¬ Live Z F H ((σ[j]?).join) s b) : SOk Z (reN N H R σ.length) F H σ e := by
  have notup : ∀ {i : Nat} {s : Sl} {a : Addr}, e[i]? = some s → Live Z F H ((σ[i]?).join) s a → ∀ xs, H a ≠ some (.tup xs) := fun {i s a} hi l xs z => by
    obtain ⟨_, u, hu, nt⟩ := S.liveN hi l
    rw [hu] at z; cases z; exact nt xs rfl
  have old : ∀ {a : Addr} {j : Nat}, a ∈ N.bi j → ∃ u, reH N H R a = some u := fun {a j} m => by
    obtain ⟨u, hu⟩ := S.lkh j a m
    by_cases q : a ∈ R
    · rw [nw a q] at hu; cases hu
    · exact reH_some q hu
  refine ⟨S.le, S.f0, fun b o h m => ?_, fun b o h nt n => ?_, S.len, fun i s hs => ?_, S.sep, fun a m => ?_, S.mus, fun i d a r h k => ?_, fun i j d a h m l => ?_, fun j a m => ?_⟩
  · rcases reH_of h with ⟨h, _⟩ | ⟨_, h⟩
    · exact h
    · exact S.h0 b o h m
  · rcases reH_of h with ⟨_, h | h⟩ | ⟨_, h⟩
    · exact (th b h).1
    · exact (h nt).elim
    · exact S.nf b o h nt n
  · obtain ⟨o, h1, h2⟩ := S.slot i s hs
    refine ⟨o, h1, ?_⟩
    have ap := fun b m => ap b m i s hs
    have notup := fun a => notup (i := i) (s := s) (a := a) hs
    rw [h1] at ap notup
    cases s with
    | no => trivial
    | fz d => exact h2
    | ow d =>
      obtain ⟨a, rfl, fa, na, t⟩ := h2
      exact ⟨a, rfl, fa, (reH_old (fun m => ap a m rfl) (notup a rfl)).trans na, t⟩
    | mu d => exact h2
    | bo d =>
      obtain ⟨v, rfl, r⟩ := h2
      by_cases rr : Rp Z F v d
      · exact ⟨v, rfl, .inl rr⟩
      · rcases r with r | ⟨a, rfl, fa, ⟨u, na⟩, ma, t⟩
        · exact (rr r).elim
        · exact ⟨_, rfl, .inr ⟨a, rfl, fa, ⟨u, (reH_old (fun m => ap a m ⟨rfl, rr⟩) (notup a ⟨rfl, rr⟩)).trans na⟩, ma, t⟩⟩
    | dp g d =>
      obtain ⟨v, Q, rfl, t, y⟩ := h2
      exact ⟨v, Q, rfl, t, fun x hx => (y x hx).imp (fun n => (reH_old (fun m => ap x m ⟨v, Q, rfl, t, hx⟩) (notup x ⟨v, Q, rfl, t, hx⟩)).trans n) id⟩
  · obtain ⟨x, y, o, z⟩ := S.mh a m
    exact ⟨x, y, reH_some (fun q => by rw [nw a q] at z; cases z) z⟩
  · have il : i < e.length := (List.getElem?_eq_some_iff.mp h).1
    have k : (if i = σ.length then R ++ N.bi i else N.bi i) = a :: r := k
    rw [if_neg (by rw [S.len]; omega)] at k
    exact S.bos i d a r h k
  · have m : a ∈ (if j = σ.length then R ++ N.bi j else N.bi j) := m
    split at m
    · rcases List.mem_append.mp m with m | m
      · exact (ap a m i _ h l).elim
      · exact S.lks i j d a h m l
    · exact S.lks i j d a h m l
  · have m : a ∈ (if j = σ.length then R ++ N.bi j else N.bi j) := m
    split at m
    · rcases List.mem_append.mp m with m | m
      · obtain ⟨_, o, h, _⟩ := th a m
        exact ⟨o, (reH_in m).trans h⟩
      · exact old m
    · exact old m
/-- .. and let go; S0: as it stood when it was held -/
theorem SOk.unkeepR {R : List Addr} {F0 H0 : Hp} {e0 : Env} (S0 : SOk Z N F0 H0 σ e0) (th : ∀ b ∈ R, F0 b = none ∧ ∃ o, H0 b = some o ∧ NT o) (nw : ∀ b ∈ R, N.H b = none) (S : SOk Z (reN N H0 R σ.length) F H σ e) :
    SOk Z N F H σ e ∧ (∀ b ∈ R, F b = none) ∧ Kp R H0 H ∧ ∀ b ∈ R, ∀ (j : Nat) (s : Sl), e[j]? = some s → ¬ Live Z F H ((σ[j]?).join) s b := by
  have nM : ∀ b ∈ R, b ∉ N.M := fun b m z => by
    obtain ⟨_, _, o, h⟩ := S0.mh b z
    rw [nw b m] at h; cases h
  have nF : ∀ b ∈ R, N.F b = none := fun b m => by
    cases q : N.F b with
    | none => rfl
    | some o => have := (th b m).1; rw [S0.f0 _ _ q] at this; cases this
  have ap : ∀ b ∈ R, ∀ (j : Nat) (s : Sl), e[j]? = some s → ¬ Live Z F H ((σ[j]?).join) s b := fun b m j s hj l => by
    obtain ⟨o, h1, h2⟩ := S.slot j s hj
    have l0 := l
    rw [h1] at l
    obtain ⟨_, ob, hb, _⟩ := th b m
    cases s with
    | no => exact l
    | fz d => exact l
    | ow d =>
      obtain ⟨a, rfl, fa, na, t⟩ := h2
      have : a = b := by have l : some (V.ref a) = some (V.ref b) := l; simpa using l
      subst this
      have na : reH N H0 R a = none := na
      rw [reH_in m, hb] at na; cases na
    | mu d =>
      obtain ⟨a, rfl, fa, ma, t⟩ := h2
      have : a = b := by have l : some (V.ref a) = some (V.ref b) := l; simpa using l
      subst this
      exact nM a m ma
    | bo d =>
      have il : j < e.length := (List.getElem?_eq_some_iff.mp hj).1
      have := S.lks j σ.length d b hj (by show b ∈ (if σ.length = σ.length then R ++ N.bi σ.length else N.bi σ.length); rw [if_pos rfl]; exact List.mem_append_left _ m) l0
      rw [← S.len] at il
      omega
    | dp g d =>
      obtain ⟨v, Q, rfl, t, y⟩ := h2
      obtain ⟨v', Q', e1, t', m'⟩ := l
      cases e1
      rw [t'.uniq t] at m'
      rcases y b m' with y | y
      · have y : reH N H0 R b = none := y
        rw [reH_in m, hb] at y; cases y
      · exact nM b m y.2
  have up : ∀ {b : Addr} {o : HO}, N.H b = some o → b ∉ N.M → reH N H0 R b = some o := fun {b o} h m => by
    by_cases q : b ∈ R
    · rw [nw b q] at h; cases h
    · have h2 := S0.h0 b o h m
      unfold reH
      rw [if_neg q, h2]
      split
      · rename_i xs z; cases z; rfl
      · exact h
  refine ⟨⟨S.le, S.f0, fun b o h m => S.h0 b o (up h m) m, fun b o h nt n => ?_, S.len, fun i s hs => ?_, S.sep, fun a m => ?_, S.mus, fun i d a r h k => ?_, fun i j d a h m l => ?_, S0.lkh⟩, fun b m => ?_, fun b o h m => ?_, ap⟩
  · by_cases m : b ∈ N.M
    · exact (S.mh b m).1
    · exact S.nf b o (up h m) nt n
  · obtain ⟨o, h1, h2⟩ := S.slot i s hs
    refine ⟨o, h1, ?_⟩
    have ap := fun b m => ap b m i s hs
    rw [h1] at ap
    cases s with
    | no => trivial
    | fz d => exact h2
    | ow d => obtain ⟨a, rfl, fa, na, t⟩ := h2; exact ⟨a, rfl, fa, reH_no nw na, t⟩
    | mu d => exact h2
    | bo d =>
      obtain ⟨v, rfl, r⟩ := h2
      by_cases rr : Rp Z F v d
      · exact ⟨v, rfl, .inl rr⟩
      · rcases r with r | ⟨a, rfl, fa, ⟨u, na⟩, ma, t⟩
        · exact (rr r).elim
        · have mR : a ∉ R := fun m => ap a m ⟨rfl, rr⟩
          refine ⟨_, rfl, .inr ⟨a, rfl, fa, ?_, ma, t⟩⟩
          rcases reH_of na with ⟨q, z | z⟩ | ⟨_, q⟩
          · exact (mR z).elim
          · obtain ⟨u', hu', nt'⟩ := t.thereN
            have : H a = some u := S.h0 a u na ma
            rw [hu'] at this; cases this
            exact (z nt').elim
          · exact ⟨u, q⟩
    | dp g d => obtain ⟨v, Q, rfl, t, y⟩ := h2; exact ⟨v, Q, rfl, t, fun x hx => (y x hx).imp (reH_no nw) id⟩
  · obtain ⟨x, y, _⟩ := S.mh a m
    exact ⟨x, y, (S0.mh a m).2.2⟩
  · refine S.bos i d a r h ?_
    have il : i < e.length := (List.getElem?_eq_some_iff.mp h).1
    show (if i = σ.length then R ++ N.bi i else N.bi i) = a :: r
    rw [if_neg (by rw [S.len]; omega)]
    exact k
  · refine S.lks i j d a h ?_ l
    show a ∈ (if j = σ.length then R ++ N.bi j else N.bi j)
    split
    · exact List.mem_append_right _ m
    · exact m
  · obtain ⟨_, o, h, nt⟩ := th b m
    exact S.nf b o ((reH_in m).trans h) nt (nF b m)
  · rcases m with m | m
    · exact S.h0 b o ((reH_in m).trans h) (nM b m)
    · have q : reH N H0 R b = some o := by
        cases o <;> first | exact reH_tup h | exact (m fun _ z => by cases z).elim
      refine S.h0 b o q fun z => ?_
      obtain ⟨_, ⟨u, hu, nt⟩, _⟩ := S0.mh b z
      rw [h] at hu; cases hu; exact m nt
/-! ### displays of new objects -/
def aOwn : List EV → Env → Option (List D × Env)
  | [], e => some ([], e)
  | f :: fs, e => match f e with
    | .ok r e1 => (match chd r e1 with
      | some (c, e2) => (match aOwn fs e2 with
        | some (cs, e3) => some (c :: cs, e3)
        | none => none)
      | none => none)
    | _ => none
/-- [f, ..], (f, ..): the new objects are parts -/
def eDispO (mk : List D → D) (fs : List EV) : EV := fun e => match aOwn fs e with
  | some (cs, e1) => if cs.length ≤ 1000 then .ok (.dn (mk cs)) e1 else .no
  | none => .no
/-- nobody's region -/
def NoR (Z : Wd) (N : En) (F H : Hp) (σ : L2.St) (e : Env) (R : List Addr) : Prop := ∀ b ∈ R, N.H b = none ∧ ∀ (j : Nat) (s : Sl), e[j]? = some s → ¬ Live Z F H ((σ[j]?).join) s b
def PostO (Z : Wd) (N : En) (F : Hp) (σ : L2.St) (Q : List V → Hp → Prop) : Option (List D × Env) → Prop
  | none => False
  | some (cs, e1) => ∀ vs F' H' R, Same F F' → SOk Z N F' H' σ e1 → OwA Z F' H' R vs cs → NoR Z N F' H' σ e1 R → Q vs H'
def tOv (Z : Wd) (fs : List EV) : TA := fun σ H Q => ∃ N F e, SOk Z N F H σ e ∧ PostO Z N F σ Q (aOwn fs e)
theorem tOv_nil {Q : List V → Hp → Prop} (h : tOv Z [] σ H Q) : tNil σ H Q := by
  obtain ⟨N, F, e, S, P⟩ := h
  exact P [] F H [] (Same.refl _) S .nil (fun b m => by cases m)
theorem tOv_cons {f : EV} {fs : List EV} {Q : List V → Hp → Prop} (h : tOv Z (f :: fs) σ H Q) : tCons (tEv Z W f) (tOv Z fs) σ H Q := by
  obtain ⟨N, F, e, S, P⟩ := h
  unfold aOwn at P
  refine ⟨N, F, e, S, ?_⟩
  cases q : f e with
  | no => rw [q] at P; exact P.elim
  | ex z e1 => rw [q] at P; exact P.elim
  | ok r e1 =>
    rw [q] at P
    dsimp only at P
    intro x F1 H1 f1 S1 R1
    cases q1 : S3.chd r e1 with
    | none => rw [q1] at P; exact P.elim
    | some p =>
      obtain ⟨c, e2⟩ := p
      rw [q1] at P
      dsimp only at P
      obtain ⟨F2, f2, S2, Q1, ch⟩ := RvOk.chd S1 R1 q1
      have th := ch.1.there
      have SK := S2.keepR th (fun b m => (ch.2 b m).1) (fun b m => (ch.2 b m).2)
      refine ⟨_, F2, e2, SK, ?_⟩
      cases q2 : aOwn fs e2 with
      | none => rw [q2] at P; exact P.elim
      | some p2 =>
        obtain ⟨cs, e3⟩ := p2
        rw [q2] at P
        dsimp only at P
        intro vs F3 H3 R3 f3 S3' ow3 fr3
        obtain ⟨S4, fn, kp, ap4⟩ := S2.unkeepR th (fun b m => (ch.2 b m).1) S3'
        refine P (x :: vs) F3 H3 (Q1 ++ R3) ((f1.trans f2).trans f3) S4 (.cons (ch.1.mono f3 fn kp) ow3 fun b m z => ?_) fun b m => ?_
        · have := (fr3 b z).1
          obtain ⟨_, o, ho, _⟩ := th b m
          have this : reH N H1 Q1 b = none := this
          rw [reH_in m, ho] at this; cases this
        · rcases List.mem_append.mp m with m | m
          · exact ⟨(ch.2 b m).1, ap4 b m⟩
          · exact ⟨reH_no (fun b m => (ch.2 b m).1) (fr3 b m).1, (fr3 b m).2⟩
theorem dispO_tup {fs : List EV} {Q : VK} (h : tEv Z W (eDispO D.tup fs) σ H Q) : tTup (tOv Z fs) σ H Q := by
  obtain ⟨N, F, e, S, P⟩ := h
  unfold eDispO at P
  refine ⟨N, F, e, S, ?_⟩
  cases q : aOwn fs e with
  | none => rw [q] at P; exact P.elim
  | some p =>
    obtain ⟨cs, e1⟩ := p
    rw [q] at P
    dsimp only at P
    split at P
    · rename_i hz
      intro vs F1 H1 R f1 S1 ow fr
      refine ⟨by rw [sizeLine_eq, ow.length]; omega, fun p hp => ?_⟩
      have g := Gr.lay (o := .tup vs) S1.le hp
      have S2 := S1.gr g
      have nl : ∀ (b : Addr) (j : Nat) (s : Sl), e1[j]? = some s → Live Z F1 (upd H1 p (.tup vs)) ((σ[j]?).join) s b → Live Z F1 H1 ((σ[j]?).join) s b := fun b j s hj l => S1.unlive hj l (Same.refl _) (fun _ _ z => z) fun _ _ _ _ _ _ _ => kp_same g.h
      exact P (.ref p) F1 _ f1 S2 ⟨R, .tup upd_same (ow.kept fun b o hb _ => g.h _ _ hb), fun b m => (fr b m).1, fun b m j s hj l => (fr b m).2 j s hj (nl _ _ _ hj l)⟩
    · exact P.elim
/-! ### places by an index -/
theorem OwA.modI : ∀ {R : List Addr} {xs : List V} {ds : List D} {j : Nat} {t : D}, OwA Z F H R xs ds → ds[j]? = some (.ob t) → ∃ b2 R2, xs[j]? = some (.ref b2) ∧ OwT Z F H R2 (.ref b2) (.ob t) ∧ (∀ b ∈ R2, b ∈ R) ∧
    ∀ H' t' R2', OwT Z F H' R2' (.ref b2) (.ob t') → KpB R R2 H H' → (∀ x ∈ R2', x ∈ R2 ∨ x ∉ R) → ∃ R', OwA Z F H' R' xs (ds.set j (.ob t')) ∧ ∀ x ∈ R', x ∈ R ∨ x ∈ R2'
  | _, _, _, j, _, .nil, q => by simp at q
  | _, _, _, 0, _, .cons (R := R1) (Q := Q1) h r n, q => by
    simp only [List.getElem?_cons_zero, Option.some.injEq] at q
    subst q
    obtain ⟨b2, rfl⟩ := h.refOf
    refine ⟨b2, R1, rfl, h, fun b m => List.mem_append_left _ m, fun H' t' R2' h' kp s => ?_⟩
    refine ⟨R2' ++ Q1, .cons h' (r.kept (kp.kp fun b m => ⟨List.mem_append_right _ m, fun z => n b z m⟩)) fun b m z => ?_, fun x m => ?_⟩
    · rcases s b m with y | y
      · exact n b y z
      · exact y (List.mem_append_right _ z)
    · rcases List.mem_append.mp m with m | m
      · exact .inr m
      · exact .inl (List.mem_append_right _ m)
  | _, _, _, j + 1, _, .cons (R := R1) (Q := Q1) h r n, q => by
    rw [List.getElem?_cons_succ] at q
    obtain ⟨b2, R2, h1, h2, h3, h4⟩ := OwA.modI r q
    refine ⟨b2, R2, by rw [List.getElem?_cons_succ]; exact h1, h2, fun b m => List.mem_append_right _ (h3 b m), fun H' t' R2' h' kp s => ?_⟩
    obtain ⟨R', p, s'⟩ := h4 H' t' R2' h' (kp.sub fun b m => List.mem_append_right _ m) fun x m => (s x m).imp id fun y z => y (List.mem_append_right _ z)
    rw [List.set_cons_succ]
    refine ⟨R1 ++ R', .cons (h.kept (kp.kp fun b m => ⟨List.mem_append_left _ m, fun z => n b m (h3 b z)⟩)) p fun b m z => ?_, fun x m => ?_⟩
    · rcases s' b z with y | y
      · exact n b m y
      · rcases s b y with y | y
        · exact n b m (h3 b y)
        · exact y (List.mem_append_left _ m)
    · rcases List.mem_append.mp m with m | m
      · exact .inl (List.mem_append_left _ m)
      · exact (s' x m).imp (List.mem_append_right _) id
theorem Foc.ixL {R Rt : List Addr} {b : Addr} {j : Nat} {ds : List D} {t : D} {put : D → D} (h : Foc Z F H R w b (.lst ds) Rt put) (q : ds[j]? = some (.ob t)) :
    ∃ xs b2 R2, H b = some (.lst xs) ∧ xs[j]? = some (.ref b2) ∧ Foc Z F H R w b2 t R2 fun x => put (.lst (ds.set j (.ob x))) := by
  obtain ⟨h1, h2, h3⟩ := h
  cases h1 with
  | fz r => exact (no_ob r).elim
  | @lst _ Rk xs _ fb hb nb r =>
    obtain ⟨b2, R2, g1, g2, g3, g4⟩ := r.modI q
    refine ⟨xs, b2, R2, hb, g1, g2, fun x m => h2 x (List.mem_cons_of_mem _ (g3 x m)), fun H' t' Rt' h' kp s => ?_⟩
    obtain ⟨R', p, s'⟩ := g4 H' t' Rt' h' (kp.sub fun b m => h2 b (List.mem_cons_of_mem _ m)) fun x m => (s x m).imp id fun y z => y (h2 x (List.mem_cons_of_mem _ z))
    have nb2 : b ∉ R2 := fun z => nb (g3 b z)
    have bR : b ∈ R := h2 b List.mem_cons_self
    have ws : ∀ x ∈ R', x ∈ b :: Rk ∨ x ∉ R := fun x m => by
      rcases s' x m with y | y
      · exact .inl (List.mem_cons_of_mem _ y)
      · rcases s x y with y | y
        · exact .inl (List.mem_cons_of_mem _ (g3 x y))
        · exact .inr y
    obtain ⟨R4, p4, s4⟩ := h3 H' (.lst (ds.set j (.ob t'))) (b :: R') (.lst fb (kp b _ hb (.inl ⟨bR, nb2⟩)) (fun z => by
        rcases s' b z with y | y
        · exact nb y
        · rcases s b y with y | y
          · exact nb2 y
          · exact y bR) p) (fun x o hx m => kp x o hx (m.imp (fun z => ⟨z.1, fun y => z.2 (List.mem_cons_of_mem _ (g3 x y))⟩) id)) (fun x m => by
        rcases List.mem_cons.mp m with rfl | m
        · exact .inl List.mem_cons_self
        · exact ws x m)
    refine ⟨R4, p4, fun x m => ?_⟩
    rcases s4 x m with y | y
    · exact .inl y
    · rcases List.mem_cons.mp y with rfl | y
      · exact .inl bR
      · exact (s' x y).imp (fun z => h2 x (List.mem_cons_of_mem _ z)) id
theorem Foc.ixT {R Rt : List Addr} {b : Addr} {j : Nat} {ds : List D} {t : D} {put : D → D} (h : Foc Z F H R w b (.tup ds) Rt put) (q : ds[j]? = some (.ob t)) :
    ∃ xs b2 R2, H b = some (.tup xs) ∧ xs[j]? = some (.ref b2) ∧ Foc Z F H R w b2 t R2 fun x => put (.tup (ds.set j (.ob x))) := by
  obtain ⟨h1, h2, h3⟩ := h
  cases h1 with
  | fz r => exact (no_ob r).elim
  | @tup _ _ xs _ hb r =>
    obtain ⟨b2, R2, g1, g2, g3, g4⟩ := r.modI q
    refine ⟨xs, b2, R2, hb, g1, g2, fun x m => h2 x (g3 x m), fun H' t' Rt' h' kp s => ?_⟩
    obtain ⟨R', p, s'⟩ := g4 H' t' Rt' h' (kp.sub fun b m => h2 b m) fun x m => (s x m).imp id fun y z => y (h2 x z)
    have ws : ∀ x ∈ R', x ∈ Rt ∨ x ∉ R := fun x m => by
      rcases s' x m with y | y
      · exact .inl y
      · rcases s x y with y | y
        · exact .inl (g3 x y)
        · exact .inr y
    obtain ⟨R4, p4, s4⟩ := h3 H' (.tup (ds.set j (.ob t'))) R' (.tup (kp b _ hb (.inr nt_tup)) p) (fun x o hx m => kp x o hx (m.imp (fun z => ⟨z.1, fun y => z.2 (g3 x y)⟩) id)) ws
    refine ⟨R4, p4, fun x m => ?_⟩
    rcases s4 x m with y | y
    · exact .inl y
    · exact (s' x y).imp (fun z => h2 x z) id
/-- p[k] -/
def pIx (p : PV) (k : EV) : PV := fun e => match p e with
  | .ok i (.lst xs) put => (match eLeaf k e with
    | .ok (.fz (.int j)) _ => if 0 ≤ j then (match xs[j.toNat]? with
      | some (.ob t) => .ok i t fun x => put (.lst (xs.set j.toNat (.ob x)))
      | _ => .no) else .no
    | _ => .no)
  | .ok i (.tup xs) put => (match eLeaf k e with
    | .ok (.fz (.int j)) _ => if 0 ≤ j then (match xs[j.toNat]? with
      | some (.ob t) => .ok i t fun x => put (.tup (xs.set j.toNat (.ob x)))
      | _ => .no) else .no
    | _ => .no)
  | _ => .no
theorem atI_nn {α : Type} {xs : List α} {j : Int} {a : α} (h0 : 0 ≤ j) (h : xs[j.toNat]? = some a) : atI xs j = some a := by
  obtain ⟨n, rfl⟩ := Int.eq_ofNat_of_zero_le h0
  rw [Int.toNat_natCast] at h
  have hl := (List.getElem?_eq_some_iff.mp h).1
  unfold atI
  have : ixN xs.length (n : Int) = some n := by
    unfold ixN
    rw [if_pos (by omega), if_pos (by omega), Int.toNat_natCast]
  rw [this]
  exact h
theorem pix_rd {p : PV} {k : EV} {Q : VK} (h : tPv Z (pIx p k) σ H Q) : tPv Z p σ H fun x H1 => tEv Z W0 k σ H1 fun y H2 => rIxA Z.K x y H2 Q := by
  obtain ⟨N, F, e, S, P⟩ := h
  refine ⟨N, F, e, S, ?_⟩
  unfold pIx at P
  cases q : p e with
  | no => rw [q] at P; exact P
  | ok i t put =>
    rw [q] at P
    have leaf : ∀ {r e1}, eLeaf k e = .ok r e1 → ∃ d, r = .fz d ∧ e1 = e := fun h => eLeaf_form h
    cases t <;> try exact P.elim
    all_goals
      rename_i ds
      dsimp only at P
      cases q0 : eLeaf k e with
      | no => rw [q0] at P; exact P.elim
      | ex _ _ => rw [q0] at P; exact P.elim
      | ok r e1 =>
        obtain ⟨y, rfl, rfl⟩ := leaf q0
        rw [q0] at P
        cases y <;> try exact P.elim
        rename_i j
        dsimp only at P
        split at P
        · rename_i hj
          cases q1 : ds[j.toNat]? with
          | none => rw [q1] at P; exact P.elim
          | some d0 =>
            rw [q1] at P
            cases d0 <;> try exact P.elim
            rename_i t2
            intro b H' hh S' fs'
            refine leaf_ev S' q0 fun v H2 h2 S2 rv => ?_
            obtain ⟨g, d, w, R, Rt, g1, g2, g3, g4⟩ := fs'.grow h2
            have ev : v = .int j := by have := rv F; cases this; rfl
            first
              | (obtain ⟨xs, b2, R2, hb, hl, fc⟩ := g4.ixL q1
                 exact .inl (.inl ⟨b, xs, j, _, rfl, ev, SqL.of hb, atI_nn hj hl, P b2 H2 (hh.trans h2) S2 ⟨g, d, w, R, R2, g1, g2, g3, fc⟩⟩))
              | (obtain ⟨xs, b2, R2, hb, hl, fc⟩ := g4.ixT q1
                 exact .inl (.inr (.inl ⟨b, xs, j, _, rfl, ev, SqT.of hb, atI_nn hj hl, P b2 H2 (hh.trans h2) S2 ⟨g, d, w, R, R2, g1, g2, g3, fc⟩⟩)))
        · exact P.elim
end
section
variable {ca : Str → Option Addr} {W : WX} {X : Cx} {fa fk : EV} {pv : PV} {a o k : Expr} {es : List Expr} {pos p apos : Pos} {fs : List EV}
/-- the items of a display of new objects -/
structure Ov (ca : Str → Option Addr) (X : Cx) (es : List Expr) (fs : List EV) : Prop where
  ok : PA X es (tOv (zw ca X) fs)
theorem ov_nil : Ov ca X [] [] := ⟨PA_imp pa_nil fun _ _ _ => tOv_nil⟩
theorem ov_cons (ha : Ev ca W0 X a fa) (hr : Ov ca X es fs) (hs : starEach (a :: es) X.env = (false, eval a X.env) :: starEach es X.env := by rfl) : Ov ca X (a :: es) (fa :: fs) := ⟨PA_imp (pa_cons ha hr.ok hs) fun _ _ _ => tOv_cons (W := W0)⟩
theorem ev_tupO {k : Nat} (h : Ov ca X es fs) : Ev ca W X (.Tuple es k pos) (eDispO D.tup fs) := PE_imp (pe_tup h.ok) fun _ _ _ => dispO_tup
theorem pv_ix (ha : Pv ca X a pv) (hb : Ev ca W0 X k fk) (hu : X.A.units + 1 < cLine) (hs : PlainIx k := by intro _ _; rfl) : Pv ca X (.Subscript a k pos) (pIx pv fk) := PE_imp (pe_ix (ix_all hu) ha hb hs) fun _ _ _ h => pix_rd (Z := zw ca X) h
end
end S3

/-! Y15: deep trees: flat tuples read out of them; a part handed to a def that changes it, a part called. -/
namespace L2
open PySem PySem.Spec PyProof.Rows
section
variable {X : Cx} {CX : CXT} {k : Nat} {f C : Addr} {fd : FuncData} {ps : List Str} {sp : Sp} {E : St → XK} {pos p : Pos} {e fe : Expr} {es : List Expr} {ta : TE} {t : TA}
end
end L2
namespace S3
open PySem PySem.Spec L2
/-- no objects but tuples -/
def leafT : Nat → D → Bool
  | n + 1, .tup xs => xs.all (leafT n)
  | _, d => leafD d
/-- only read; what comes out is flat -/
def eLeafT (f : EV) : EV := fun e => match f (view e) with
  | .ok r e1 => (match rd r e1 with
    | some d => if leafT 4 d then .ok (.fz d) e else .no
    | none => .no)
  | _ => .no
def notObs (ds : List D) : Bool := ds.all notOb
/-- a part whose own parts are frozen -/
def noOb : D → Bool
  | .lst ds => notObs ds
  | .dk ds => ds.all fun p => notOb p.2
  | .obj _ ds => ds.all fun p => notOb p.2
  | _ => false
section
variable {Z : Wd} {F F' H H' : Hp} {N : En} {σ : L2.St} {e e' : Env} {v w x y : V} {W : WX} {E : Ends}
mutual
theorem leafT_rp (t : ∀ b xs, F b = some (.tup xs) → F' b = some (.tup xs)) : ∀ {n : Nat} {v : V} {d : D}, leafT n d = true → Rp Z F v d → Rp Z F' v d
  | _, _, _, _, .non => .non
  | _, _, _, _, .bl _ => .bl _
  | _, _, _, _, .int _ => .int _
  | _, _, _, _, .str _ h => .str _ h
  | n + 1, _, _, h, .tup a r => .tup (t _ _ a) (leafT_rpA t (n := n) h r)
  | 0, _, _, h, .tup a r => by cases h
  | n, _, _, h, .lst a r => by cases n <;> cases h
  | n, _, _, h, .scr a r => by cases n <;> cases h
  | n, _, _, h, .kt a r => by cases n <;> cases h
  | n, _, _, h, .dk a q r => by cases n <;> cases h
  | n, _, _, h, .dt a q r => by cases n <;> cases h
  | n, _, _, h, .st a q => by cases n <;> cases h
  | n, _, _, h, .obj c a r => by cases n <;> cases h
  | n, _, _, h, .xn a b c k i r => by cases n <;> cases h
  | n, _, _, h, .xv c k i r => by cases n <;> cases h
  | n, _, _, h, .cl c => by cases n <;> cases h
  | n, _, _, h, .any => by cases n <;> cases h
theorem leafT_rpA (t : ∀ b xs, F b = some (.tup xs) → F' b = some (.tup xs)) : ∀ {n : Nat} {vs : List V} {ds : List D}, ds.all (leafT n) = true → RpA Z F vs ds → RpA Z F' vs ds
  | _, _, _, _, .nil => .nil
  | _, _, _, h, .cons a r => by
    rw [List.all_cons, Bool.and_eq_true] at h
    exact .cons (leafT_rp t h.1 a) (leafT_rpA t h.2 r)
end
theorem leafT_top {n : Nat} {a : Addr} {d : D} (h : leafT n d = true) (t : Top Z F H a d) : False := by
  cases n <;> cases d <;> first | exact t | cases h
theorem leafT_ev (S : SOk Z N F H σ e) {f : EV} {d : D} {Q : VK} (h : eLeafT f e = .ok (.fz d) e) (K : ∀ v F' H', Same F F' → Same H H' → SOk Z N F' H' σ e → Rp Z F' v d → (∀ b u, H' b = some u → NT u → F b = none → F' b = none) → Q v H') : tEv Z W0 f σ H Q := by
  unfold eLeafT at h
  obtain ⟨Fv, fv, T⟩ := S.view
  refine ⟨_, Fv, S3.view e, T, ?_⟩
  cases q : f (S3.view e) with
  | no => rw [q] at h; cases h
  | ex x e1 => rw [q] at h; cases h
  | ok r e1 =>
    rw [q] at h
    intro v F2 H' f' T' R
    dsimp only at h
    cases q1 : S3.rd r e1 with
    | none => rw [q1] at h; cases h
    | some d' =>
      rw [q1] at h
      dsimp only at h
      split at h
      · rename_i k
        cases h
        obtain ⟨hh, S'⟩ := S.unview T'
        have nf : ∀ b u, H' b = some u → NT u → F b = none → pubP F H' (fun _ => False) b = none := fun b u hb nt n => pubP_out id n fun o ho => by rw [hb] at ho; cases ho; exact nt
        refine K v (pubP F H' fun _ => False) H' pubP_f hh (S'.grow pubP_f (Same.refl _) (pubP_le S'.le) nf) ?_ nf
        rcases RvOk.rd T' R q1 with r | ⟨a, _, _, t⟩
        · exact leafT_rp (F := F2) (fun b xs hb => pubP_tup S'.le (T'.le _ _ hb)) k r
        · exact (leafT_top k t).elim
      · cases h
theorem eLeafT_form {f : EV} {e : Env} {r : RV} {e1 : Env} (h : eLeafT f e = .ok r e1) : ∃ d, r = .fz d ∧ e1 = e := by
  unfold eLeafT at h
  split at h
  · split at h
    · split at h
      · cases h; exact ⟨_, rfl, rfl⟩
      · cases h
    · cases h
  · cases h
theorem leafT_rd {f : EV} {Q : VK} (h : tEv Z W (eLeafT f) σ H Q) : tEv Z W0 f σ H Q := by
  obtain ⟨N, F, e, S, P⟩ := h
  cases q : eLeafT f e with
  | no => rw [q] at P; exact P.elim
  | ex x e1 =>
    exfalso
    unfold eLeafT at q
    split at q
    · split at q
      · split at q <;> cases q
      · cases q
    · cases q
  | ok r e1 =>
    rw [q] at P
    obtain ⟨d, rfl, rfl⟩ := eLeafT_form q
    exact leafT_ev S q fun v F' H' ff hh S' r _ => P v F' H' ff S' r
/-! ### a part lent to be changed -/
theorem OwA.rpOf : ∀ {R : List Addr} {vs : List V} {ds : List D}, OwA Z F H R vs ds → ds.all notOb = true → R = [] ∧ RpA Z F vs ds
  | _, _, _, .nil, _ => ⟨rfl, .nil⟩
  | _, _, _, .cons (d := d) h r n, k => by
    rw [List.all_cons, Bool.and_eq_true] at k
    obtain ⟨h1, h2⟩ := h.rpOf fun t z => by rw [z] at k; cases k.1
    obtain ⟨h3, h4⟩ := OwA.rpOf r k.2
    subst h1 h3
    exact ⟨rfl, .cons h2 h4⟩
theorem OwP.rpOf : ∀ {κ : Type} {R : List Addr} {vs : List (κ × V)} {ds : List (κ × D)}, OwP Z F H R vs ds → (ds.all fun p => notOb p.2) = true → R = [] ∧ RpP Z F vs ds
  | _, _, _, _, .nil, _ => ⟨rfl, .nil⟩
  | _, _, _, _, .cons (d := d) h r n, k => by
    rw [List.all_cons, Bool.and_eq_true] at k
    obtain ⟨h1, h2⟩ := h.rpOf fun t z => by have := k.1; dsimp only at this; rw [z] at this; cases this
    obtain ⟨h3, h4⟩ := OwP.rpOf r k.2
    subst h1 h3
    exact ⟨rfl, .cons h2 h4⟩
theorem OwT.top {R : List Addr} {b : Addr} {t : D} (h : OwT Z F H R (.ref b) (.ob t)) (k : noOb t = true) : R = [b] ∧ F b = none ∧ Top Z F H b t := by
  cases h with
  | fz r => exact (no_ob r).elim
  | lst f h n r =>
    obtain ⟨rfl, r9⟩ := r.rpOf k
    exact ⟨rfl, f, _, h, r9⟩
  | tup h r => cases k
  | dk f h q n r =>
    obtain ⟨rfl, r9⟩ := r.rpOf k
    exact ⟨rfl, f, q, _, h, r9⟩
  | obj f c h n r =>
    obtain ⟨rfl, r9⟩ := r.rpOf k
    exact ⟨rfl, f, _, _, _, c, h, r9⟩
end
section
variable {ca : Str → Option Addr} {W : WX} {X : Cx} {fa fk : EV} {a o k : Expr} {es : List Expr} {pos p p2 pos' : Pos} {n c x : Str} {kk : Nat} {m : Md} {phi : List D → RC}
theorem ev_leafT (h : Ev ca W0 X a fa) : Ev ca W X a (eLeafT fa) := PE_imp h fun _ _ _ => leafT_rd
end
end S3

/-! Y16: C(x[0], x[1], ..) of parts; f().append(a) on a new list. -/
namespace S3
open PySem PySem.Spec L2
/-- the parts x[k], .. of the list at slot i -/
def parts (i : Nat) : List EV → Env → Option (List D)
  | [], _ => some []
  | k :: ks, e => match slot e i with
    | .dp _ (.lst xs) => (match eLeaf k e with
      | .ok (.fz (.int j)) _ => if 0 ≤ j then (match xs[j.toNat]? with
        | some (.ob t) => if noOb t then (parts i ks e).map (t :: ·) else none
        | _ => none) else none
      | _ => none)
    | _ => none
section
variable {Z : Wd} {F F' H H' : Hp} {N : En} {σ : L2.St} {e e' : Env} {v w x y : V} {W : WX} {E : Ends}
theorem RdV.grow {d : D} (h : RdV Z F H v d) (k : Same H H') : RdV Z F H' v d := h.imp id fun ⟨a, e1, f, t⟩ => ⟨a, e1, f, t.keep (Same.refl _) (k _)⟩
theorem ArgsOk.grow {ms : List Md} {vs : List V} {ds : List D} (h : ArgsOk Z F H ms vs ds) (k : Same H H') : ArgsOk Z F H' ms vs ds := by
  induction h with
  | nil => exact .nil
  | v r _ ih => exact .v r ih
  | r r _ ih => exact .r (r.grow k) ih
  | m f t _ ih => exact .m f (t.keep (Same.refl _) (k _)) ih
/-! ### C(parts) -/
abbrev tIxV (Z : Wd) (i : Nat) (k : EV) : TE := fun σ H Q => tVar i σ H fun x H1 => tEv Z W0 k σ H1 fun y H2 => rIxA Z.K x y H2 Q
def tPts (Z : Wd) (i : Nat) : List EV → TA
  | [] => tNil
  | k :: ks => tCons (tIxV Z i k) (tPts Z i ks)
/-! ### f().append(g) -/
end
section
variable {ca : Str → Option Addr} {W : WX} {X : Cx} {fa fk fo : EV} {a o k : Expr} {es : List Expr} {pos p p2 apos px : Pos} {n c x : Str} {kk : Nat} {phi : List D → RC} {i : Nat}
/-- the texts x[k], .. -/
structure Pts (ca : Str → Option Addr) (X : Cx) (i : Nat) (es : List Expr) (ks : List EV) : Prop where
  ok : PA X es (tPts (zw ca X) i ks)
theorem pts_nil : Pts ca X i [] [] := ⟨pa_nil⟩
end
end S3

/-! Y17: a part taken out of a deep list (nothing is known of what is left there); x.append(new object). -/
namespace S3
open PySem PySem.Spec L2
section
variable {Z : Wd} {F F' H H' : Hp} {N : En} {σ : L2.St} {e e' : Env} {v w x y : V} {W : WX} {E : Ends}
theorem OwA.takeI : ∀ {R : List Addr} {xs : List V} {ds : List D} {j : Nat} {t : D}, OwA Z F H R xs ds → ds[j]? = some (.ob t) → ∃ b R2 R', xs[j]? = some (.ref b) ∧ OwT Z F H R2 (.ref b) (.ob t) ∧ OwA Z F H R' xs (ds.set j .any) ∧
    (∀ x ∈ R2, x ∈ R ∧ x ∉ R') ∧ ∀ x ∈ R', x ∈ R
  | _, _, _, j, _, .nil, q => by simp at q
  | _, _, _, 0, _, .cons (R := R1) (Q := Q1) h r n, q => by
    simp only [List.getElem?_cons_zero, Option.some.injEq] at q
    subst q
    obtain ⟨b2, rfl⟩ := h.refOf
    exact ⟨b2, R1, [] ++ Q1, rfl, h, .cons (.fz .any) r (fun b m => by cases m), fun x m => ⟨List.mem_append_left _ m, fun z => n x m z⟩, fun x m => List.mem_append_right _ m⟩
  | _, _, _, j + 1, _, .cons (R := R1) (Q := Q1) h r n, q => by
    rw [List.getElem?_cons_succ] at q
    obtain ⟨b2, R2, R', h1, h2, h3, h4, h5⟩ := OwA.takeI r q
    refine ⟨b2, R2, R1 ++ R', by rw [List.getElem?_cons_succ]; exact h1, h2, ?_, fun x m => ⟨List.mem_append_right _ (h4 x m).1, fun z => ?_⟩, fun x m => ?_⟩
    · rw [List.set_cons_succ]
      exact .cons h h3 fun b m z => n b m (h5 b z)
    · rcases List.mem_append.mp z with z | z
      · exact n x z (h4 x m).1
      · exact (h4 x m).2 z
    · rcases List.mem_append.mp m with m | m
      · exact List.mem_append_left _ m
      · exact List.mem_append_right _ (h5 x m)
theorem setSt_same {σ : L2.St} {i : Nat} {o : Option V} (h : σ[i]? = some o) : σ.set i o = σ := by
  apply List.ext_getElem?
  intro j
  by_cases q : i = j
  · subst q
    rw [List.getElem?_set_self (List.getElem?_eq_some_iff.mp h).1, h]
  · rw [List.getElem?_set_ne q]
theorem SOk.take {i j : Nat} {xs : List D} {t : D} (S : SOk Z N F H σ e) (hi : e[i]? = some (.dp true (.lst xs))) (hj : xs[j]? = some (.ob t)) :
    ∃ a vs b, σ[i]? = some (some (.ref a)) ∧ H a = some (.lst vs) ∧ vs[j]? = some (.ref b) ∧ SOk Z N F H σ (e.set i (.dp true (.lst (xs.set j .any)))) ∧
      RvOk Z N F H σ (e.set i (.dp true (.lst (xs.set j .any)))) (.ref b) (.dn t) := by
  obtain ⟨o, h1, v0, R, rfl, t0, n0⟩ := S.slot i _ hi
  have t00 := t0
  cases t0 with
  | fz r => exact (no_ob r).elim
  | @lst a0 Rk vs _ fa ha nb r =>
    obtain ⟨b, R2, R', m1, m2, m3, m4, m5⟩ := r.takeI hj
    have nH : ∀ x ∈ a0 :: Rk, N.H x = none := fun x m => by
      rcases n0 x m with z | ⟨z, _⟩
      · exact z
      · cases z
    have tn : OwT Z F H (a0 :: R') (.ref a0) (.ob (.lst (xs.set j .any))) := .lst fa ha (fun z => nb (m5 a0 z)) m3
    have lv : ∀ x ∈ a0 :: Rk, Live Z F H ((σ[i]?).join) (.dp true (.lst xs)) x := fun x m => by rw [h1]; exact ⟨_, _, rfl, t00, m⟩
    have sub : ∀ x ∈ a0 :: R', x ∈ a0 :: Rk := fun x m => by
      rcases List.mem_cons.mp m with rfl | m
      · exact List.mem_cons_self
      · exact List.mem_cons_of_mem _ (m5 x m)
    have oth : ∀ x ∈ a0 :: Rk, ∀ (j : Nat) (s : Sl), i ≠ j → e[j]? = some s → ¬ Live Z F H ((σ[j]?).join) s x := fun x m j s ne hj l => S.sep i j _ s x hi hj ne rfl (lv x m) l
    have S1 := (S.forget i).setDp (i := i) (g := true) tn (fun x m => .inl (nH x (sub x m))) fun x m j s hj l => by
      rcases get_set hj with ⟨q, rfl, _⟩ | ⟨q, hj'⟩
      · exact l
      · exact oth x (sub x m) j s q hj' l
    rw [setSt_same h1, List.set_set] at S1
    refine ⟨a0, vs, b, h1, ha, m1, S1, R2, m2, fun x m => nH x (List.mem_cons_of_mem _ (m4 x m).1), fun x m j s hj l => ?_⟩
    rcases get_set hj with ⟨q, rfl, _⟩ | ⟨q, hj'⟩
    · subst q
      rw [h1] at l
      obtain ⟨v', Q, e1, t2, m'⟩ := l
      cases e1
      rw [t2.uniq tn] at m'
      rcases List.mem_cons.mp m' with rfl | m'
      · exact nb (m4 _ m).1
      · exact (m4 x m).2 m'
    · exact oth x (List.mem_cons_of_mem _ (m4 x m).1) j s q hj' l
end
section
variable {ca : Str → Option Addr} {W : WX} {X : Cx} {fa fk fo : EV} {a o k : Expr} {es : List Expr} {pos p p2 apos px : Pos} {n c x : Str} {kk : Nat} {phi : List D → RC} {i : Nat}
end
end S3

/-! Y18: for x in o, o of a class of one's own whose __iter__ hands out an iterator over a list; o[x] that raises. -/
namespace L2
open PySem PySem.Spec PyProof.Rows PySem.Calls
/-! ### what is gone stays gone -/
/-! ### an object is no longer looked after -/
section
variable {X : Cx} {pins : List (Addr × Obj)} {σ : St} {H : Hp} {s : Shared} {it l : Addr} {u : HO}
/-! ### for x in o -/
variable {C C2 fi : Addr} {f g : Str} {fdI : FuncData} {psI : List Str} {n : Nat} {tg iter : Expr} {te : TE}
end
end L2
/-! o[x] that may raise -/
namespace L2
open PySem PySem.Spec PyProof.Rows PySem.Calls
section
variable {X : Cx} {C f : Addr} {fd : FuncData} {ps : List Str} {sp : Sp} {n : Nat} {a b : Expr} {ta tb : TE} {pos : Pos} {E : St → XK}
end
end L2
namespace S3
open PySem PySem.Spec L2
section
variable {Z : Wd} {W : WX} {σ : L2.St} {H : Hp} {c c2 f g : Str} {C C2 : Addr}
end
section
variable {ca : Str → Option Addr} {W : WX} {X : Cx} {a b tg : Expr} {fa fb : EV} {pos : Pos} {c c2 f g : Str} {k : Nat} {phi : List D → RC} {md : Md}
end
end S3

/-! Y19: list comprehensions of new objects. -/
namespace S3
open PySem PySem.Spec L2 STK
def bdLO (f : EV) : Env → List D → Option (List D) := fun e acc => match f e with
  | .ok q e4 => (match chN q with
    | some x => if decide (acc.length < BIG) then some (acc ++ [x]) else none
    | none => none)
  | _ => none
/-- [f for t in w if c], f's new objects owned by the list -/
def eLcO (own : List Nat) (t : Tg) (w : WV) (c : TV) (f : EV) : EV := fun e => match w e with
  | .ok xs e1 => (match cpG t c (bdLO f) xs (wipeE (lock e1) own) [] with
    | some ys => .ok (.dn (.lst ys)) e1
    | none => .no)
  | .ex x e1 => .ex x e1
  | .no => .no
section
variable {Z : Wd} {F F' H H' : Hp} {N : En} {σ : L2.St} {e e' : Env} {v x y : V} {W : WX} {E : Ends}
theorem lco_post {g : TG} {t : Tg} {own : List Nat} {w : WV} {c : TV} {f : EV} {Q : VK} (tk : TgOk Z g t) (sub : ∀ i ∈ tgIx t, i ∈ own) (S : SOk Z N F H σ e) (P : PostE Z N F σ W Q (eLcO own t w c f e)) : tLc (fun _ _ R => PostW Z N F σ W R (w e)) g (tTv Z W0 c) (tEv Z W0 f) own σ H Q := by
  unfold eLcO at P
  show PostW Z N F σ W _ (w e)
  cases q : w e with
  | no => rw [q] at P; exact P
  | ex z e1 => rw [q] at P; exact P
  | ok xs e1 =>
    rw [q] at P
    dsimp only at P
    cases q1 : cpG t c (bdLO f) xs (wipeE (lock e1) own) [] with
    | none => rw [q1] at P; exact P.elim
    | some ys =>
      rw [q1] at P
      dsimp only at P
      intro J F1 H1 fs S1 wk A hA
      refine cpH_sound (Acc := fun F Hm (ks : List D) o => ∃ vs R, o = .lst vs ∧ OwA Z F Hm R vs ks ∧ ∀ b ∈ R, H1 b = none) (Bd := fun σ H Nx => tEv Z W0 f σ H fun y H4 => ∃ acc, H4 A = some (.lst acc) ∧ acc.length < sizeLine ∧ Nx (upd H4 A (.lst (acc ++ [y])))) (acc0 := []) (o0 := .lst []) ?_ ?_ ?_ tk sub S1 wk q1 ⟨[], [], rfl, .nil, fun b m => by cases m⟩ hA ?_
      · rintro F F' Hm Hm' acc o f hh nf ⟨vs, R, rfl, r, n⟩
        exact ⟨vs, R, rfl, r.mono f (fun b m => by obtain ⟨x, u, y, z⟩ := r.there b m; exact nf b u y z x) (kp_same hh), n⟩
      · rintro F Hm acc o ⟨vs, R, rfl, _⟩ _ z; cases z
      · rintro N3 F3 H3 σ3 e3 ks ks' o Nx T3 hN hF hM hH ⟨vs, R, rfl, ra, nR⟩ hb hn
        refine ⟨N3, F3, e3, T3, ?_⟩
        unfold bdLO at hb
        have h0 : ∀ {F6 H6 e6}, SOk Z N3 F6 H6 σ3 e6 → ∀ b o, N3.H b = some o → H6 b = some o := fun {F6 H6 e6} T b o h => T.h0 b o h (by rw [hM]; simp)
        cases q5 : f e3 with
        | no => rw [q5] at hb; cases hb
        | ex z e5 => rw [q5] at hb; cases hb
        | ok qq e5 =>
          rw [q5] at hb
          dsimp only at hb
          intro z F5 H5 f5 T5 R5
          cases q6 : S3.chN qq with
          | none => rw [q6] at hb; cases hb
          | some x' =>
            rw [q6] at hb
            dsimp only at hb
            split at hb
            · rename_i hz
              cases hb
              obtain ⟨Q5, t5, n5⟩ := RvOk.chN T5 R5 q6
              have A5 : H5 A = some (.lst vs) := h0 T5 A _ hN
              have nt5 : NT (HO.lst vs) := fun _ z => by cases z
              have cutk : ∀ b o, cutA N3.H A b = some o → cutA H5 A b = some o ∧ b ≠ A := fun b o hb => by
                have nb : b ≠ A := fun z => by rw [z, cutA_self] at hb; cases hb
                refine ⟨?_, nb⟩
                have hb : (if b = A then none else N3.H b) = some o := hb
                rw [if_neg nb] at hb
                show (if b = A then none else H5 b) = some o
                rw [if_neg nb]
                exact h0 T5 b o hb
              have ra5 : OwA Z F5 (cutA H5 A) R vs ks := ra.mono T5.f0 (fun b m => by
                obtain ⟨x, u, y, z⟩ := ra.there b m
                have nb := (cutk b u y).2
                have y' : N3.H b = some u := by have y : (if b = A then none else N3.H b) = some u := y; rwa [if_neg nb] at y
                exact T5.nf b u y' z x) (fun b o hb _ => (cutk b o hb).1)
              have tq : OwT Z F5 (cutA H5 A) Q5 z x' := t5.kept fun b o hb m => by
                have nb : b ≠ A := by
                  rintro rfl
                  rcases m with m | m
                  · rw [n5 b m] at hN; cases hN
                  · rw [A5] at hb; cases hb; exact m nt5
                show (if b = A then none else H5 b) = some o
                rw [if_neg nb]; exact hb
              have dj : ∀ b ∈ Q5, b ∉ R := fun b m z => by
                obtain ⟨_, u, y, _⟩ := ra.there b z
                have nb := (cutk b u y).2
                have y : (if b = A then none else N3.H b) = some u := y
                rw [if_neg nb, n5 b m] at y; cases y
              have cc : OwA Z F5 (cutA H5 A) (Q5 ++ []) [z] [x'] := .cons tq .nil fun b m z => by cases z
              have p' := OwA.app cc ra5 fun b m => by
                rw [List.append_nil] at m
                exact dj b m
              rw [List.append_nil] at p'
              refine ⟨vs, A5, by rw [ra.length, sizeLine_eq]; exact of_decide_eq_true hz, hn F5 H5 e5 _ f5 T5 ⟨_, _, rfl, p', fun b m => ?_⟩⟩
              rcases List.mem_append.mp m with z | z
              · exact nR b z
              · cases q9 : H1 b with
                | none => rfl
                | some o => have := hH _ _ q9; rw [n5 b z] at this; cases this
            · cases hb
      · rintro F' Hm o f' hh' nf' S' nA ⟨vs, R, rfl, r, nR⟩
        have fA : F' A = none := none_le S'.le nA
        have nAR : A ∉ R := fun z => by obtain ⟨_, u, hu, _⟩ := r.there A z; rw [nA] at hu; cases hu
        have g1 := Gr.lay (o := .lst vs) S'.le nA
        have hu : Same H1 (upd Hm A (.lst vs)) := fun b o hb => by rw [upd_ne (ne_of_none hb hA)]; exact hh' _ _ hb
        have all : ∀ b ∈ A :: R, H1 b = none := fun b m => by
          rcases List.mem_cons.mp m with rfl | m
          · exact hA
          · exact nR b m
        refine P (.ref A) F' _ (fs.trans f') (S'.gr g1) ⟨A :: R, .lst fA upd_same nAR (r.kept fun b o hb m => ?_), fun b m => S1.nohave (all b m), fun b m j s hj l => ?_⟩
        · rw [upd_ne (ne_of_none hb nA)]; exact hb
        · obtain ⟨_, u, hx⟩ := S1.live hj (S1.unlive hj l f' (fun b ⟨u, h1, h2⟩ h3 => nf' b u h1 h2 h3) fun _ _ _ _ _ _ _ => kp_same hu)
          rw [all b m] at hx; cases hx
theorem lco_rd {g : TG} {t : Tg} {own : List Nat} {w : WV} {c : TV} {f : EV} {Q : VK} (tk : TgOk Z g t) (sub : ∀ i ∈ tgIx t, i ∈ own) (h : tEv Z W (eLcO own t w c f) σ H Q) : tLc (tWv Z W w) g (tTv Z W0 c) (tEv Z W0 f) own σ H Q :=
  let ⟨N, F, e, S, P⟩ := h
  ⟨N, F, e, S, lco_post tk sub S P⟩
end
section
variable {ca : Str → Option Addr} {W : WX} {X : Cx} {fe : EV} {w : WV} {c : TV} {elt tg iter : Expr} {ifs : List Expr} {scope : Scope} {own : List (Str × Nat)} {pos : Pos} {g : TG} {t : Tg}
theorem ev_lcO (hc : X.calm = true) (hN : X.N.Nodup) (hi : Wv ca W X tg iter w) (ok : BlkOk X.N X.env.scope scope own) (tk : TgOk (zw ca X) g t) (sub : ∀ i ∈ tgIx t, i ∈ own.map (·.2))
    (hg : ∀ (s : Shared) (H : Hp) (C : Addr) (cl : List (Str × Addr)) (fp : List Addr), PG (X.blk s H scope (compEnvC scope cl C X.env) fp) tg g)
    (ht : ∀ (s : Shared) (H : Hp) (C : Addr) (cl : List (Str × Addr)) (fp : List Addr), PTs (X.blk s H scope (compEnvC scope cl C X.env) fp) ifs (tTv (zw ca X) W0 c))
    (he : ∀ (s : Shared) (H : Hp) (C : Addr) (cl : List (Str × Addr)) (fp : List Addr), Ev ca W0 (X.blk s H scope (compEnvC scope cl C X.env) fp) elt fe) (hs : ∀ x, foldedSetIterable iter X.env x = pure x := by intro _; rfl) :
    Ev ca W X (.ListComp elt [⟨tg, iter, ifs, 0⟩] scope pos) (eLcO (own.map (·.2)) t w c fe) :=
  PE_imp (pe_lc hc hN hi ok hg ht he hs) fun _ _ _ => lco_rd tk sub
end
end S3

/-! ### a part taken out of a place -/
namespace S3
open PySem PySem.Spec L2
section
variable {Z : Wd} {F F' H H' : Hp} {N : En} {σ : L2.St} {e e' : Env} {v w x y : V} {W : WX} {E : Ends}
theorem era_kp {R2 R : List Addr} (th : ∀ b ∈ R2, ∃ o, H b = some o ∧ NT o) (dj : ∀ b ∈ R, b ∉ R2) : Kp R H (fun a => if a ∈ R2 then none else H a) := fun b o hb m => by
  have nb : b ∉ R2 := fun z => by
    rcases m with m | m
    · exact dj b m z
    · obtain ⟨o', h1, h2⟩ := th b z
      rw [hb] at h1; cases h1; exact m h2
  show (if b ∈ R2 then none else H b) = some o
  rw [if_neg nb]; exact hb
/-- the list or the tuple in focus loses a part -/
theorem Foc.take {R Rt : List Addr} {l : Addr} {ps : List D} {j : Nat} {t : D} {put : D → D} {mk : List D → D} (hm : mk = D.lst ∨ mk = D.tup) (h : Foc Z F H R w l (mk ps) Rt put) (q : ps[j]? = some (.ob t)) :
    ∃ vs b R2 R', ((mk = D.lst ∧ H l = some (.lst vs)) ∨ (mk = D.tup ∧ H l = some (.tup vs))) ∧ vs[j]? = some (.ref b) ∧ OwT Z F H R2 (.ref b) (.ob t) ∧ OwT Z F H R' w (.ob (put (mk (ps.set j .any)))) ∧ (∀ x ∈ R2, x ∈ R ∧ x ∉ R') ∧ ∀ x ∈ R', x ∈ R := by
  obtain ⟨h1, h2, h3⟩ := h
  have fin : ∀ {R2 R0 : List Addr}, (∀ b ∈ R2, ∃ o, H b = some o ∧ NT o) → (∀ b ∈ R2, b ∈ Rt) → (∀ b ∈ R0, b ∈ Rt) → OwT Z F (fun a => if a ∈ R2 then none else H a) R0 (.ref l) (.ob (mk (ps.set j .any))) →
      ∃ R', OwT Z F H R' w (.ob (put (mk (ps.set j .any)))) ∧ (∀ x ∈ R2, x ∈ R ∧ x ∉ R') ∧ ∀ x ∈ R', x ∈ R := fun {R2 R0} th s2 s0 t1 => by
    obtain ⟨R', p, s'⟩ := h3 _ _ R0 t1 (fun b o hb m => by
      have nb : b ∉ R2 := fun z => by
        rcases m with m | m
        · exact m.2 (s2 b z)
        · obtain ⟨o', g1, g2⟩ := th b z
          rw [hb] at g1; cases g1; exact m g2
      show (if b ∈ R2 then none else H b) = some o
      rw [if_neg nb]; exact hb) fun x m => .inl (s0 x m)
    have out : ∀ x ∈ R', x ∉ R2 := fun x m z => by
      obtain ⟨_, o, ho, _⟩ := p.there x m
      have ho : (if x ∈ R2 then none else H x) = some o := ho
      rw [if_pos z] at ho; cases ho
    refine ⟨R', p.mono (Same.refl _) (fun b m => (p.there b m).1) fun b o hb _ => ?_, fun x m => ⟨h2 x (s2 x m), fun z => out x z m⟩, fun x m => (s' x m).elim id fun z => h2 x (s0 x z)⟩
    have hb : (if b ∈ R2 then none else H b) = some o := hb
    split at hb
    · cases hb
    · exact hb
  rcases hm with rfl | rfl
  · cases h1 with
    | fz r => exact (no_ob r).elim
    | @lst _ Rk vs _ fl hl nl r =>
      obtain ⟨b, R2, R0, m1, m2, m3, m4, m5⟩ := r.takeI q
      have th : ∀ b ∈ R2, ∃ o, H b = some o ∧ NT o := fun b m => (m2.there b m).2
      have nl2 : l ∉ R2 := fun z => nl (m4 l z).1
      obtain ⟨R', p, s1, s2⟩ := fin th (fun b m => List.mem_cons_of_mem _ (m4 b m).1) (fun b m => by
        rcases List.mem_cons.mp m with rfl | m
        · exact List.mem_cons_self
        · exact List.mem_cons_of_mem _ (m5 b m)) (R0 := l :: R0) (.lst fl (by show (if l ∈ R2 then none else H l) = _; rw [if_neg nl2]; exact hl) (fun z => nl (m5 l z)) (m3.kept (era_kp th fun b m z => (m4 b z).2 m)))
      exact ⟨vs, b, R2, R', .inl ⟨rfl, hl⟩, m1, m2, p, s1, s2⟩
  · cases h1 with
    | fz r => exact (no_ob r).elim
    | @tup _ _ vs _ hl r =>
      obtain ⟨b, R2, R0, m1, m2, m3, m4, m5⟩ := r.takeI q
      have th : ∀ b ∈ R2, ∃ o, H b = some o ∧ NT o := fun b m => (m2.there b m).2
      have nl2 : l ∉ R2 := fun z => by
        obtain ⟨o, g1, g2⟩ := th l z
        rw [hl] at g1; cases g1; exact nt_tup g2
      obtain ⟨R', p, s1, s2⟩ := fin th (fun b m => (m4 b m).1) m5 (R0 := R0) (.tup (by show (if l ∈ R2 then none else H l) = _; rw [if_neg nl2]; exact hl) (m3.kept (era_kp th fun b m z => (m4 b z).2 m)))
      exact ⟨vs, b, R2, R', .inr ⟨rfl, hl⟩, m1, m2, p, s1, s2⟩
/-- a value that is given away: nobody's -/
def GvOk (Z : Wd) (N : En) (F H : Hp) (σ : L2.St) (e : Env) (v : V) (d : D) : Prop :=
  ∃ R, OwT Z F H R v (.ob d) ∧ (∀ b ∈ R, N.H b = none ∨ b ∈ N.M) ∧ ∀ b ∈ R, ∀ (i : Nat) (s : Sl), e[i]? = some s → ¬ Live Z F H ((σ[i]?).join) s b
theorem SOk.takeP {i l : Nat} {ps : List D} {j : Nat} {t : D} {put : D → D} {mk : List D → D} (S : SOk Z N F H σ e) (hm : mk = D.lst ∨ mk = D.tup) (h : FocS Z F H σ e i l (mk ps) put) (q : ps[j]? = some (.ob t)) :
    ∃ vs b, ((mk = D.lst ∧ H l = some (.lst vs)) ∨ (mk = D.tup ∧ H l = some (.tup vs))) ∧ vs[j]? = some (.ref b) ∧ SOk Z N F H σ (setDpE e i (put (mk (ps.set j .any)))) ∧ GvOk Z N F H σ (setDpE e i (put (mk (ps.set j .any)))) (.ref b) t := by
  obtain ⟨g, d, w, R, Rt, hi, h1, t0, fc⟩ := h
  obtain ⟨vs, b, R2, R', a1, a2, a3, a4, a5, a6⟩ := fc.take hm q
  obtain ⟨o, k1, v0, R0, e0, t00, n0⟩ := S.slot i _ hi
  rw [h1] at k1; cases k1
  cases e0
  have er := t00.uniq t0
  subst er
  have lv : ∀ x ∈ R0, Live Z F H ((σ[i]?).join) (.dp g d) x := fun x m => by rw [h1]; exact ⟨_, _, rfl, t00, m⟩
  have oth : ∀ x ∈ R0, ∀ (j : Nat) (s : Sl), i ≠ j → e[j]? = some s → ¬ Live Z F H ((σ[j]?).join) s x := fun x m j s ne hj l => S.sep i j _ s x hi hj ne rfl (lv x m) l
  have S1 := (S.forget i).setDp (i := i) (g := g) a4 (fun x m => n0 x (a6 x m)) fun x m j s hj l => by
    rcases get_set hj with ⟨q, rfl, _⟩ | ⟨q, hj'⟩
    · exact l
    · exact oth x (a6 x m) j s q hj' l
  rw [setSt_same h1, List.set_set] at S1
  have es : setDpE e i (put (mk (ps.set j .any))) = e.set i (.dp g (put (mk (ps.set j .any)))) := by unfold setDpE; rw [slot_of hi]
  rw [es]
  refine ⟨vs, b, a1, a2, S1, R2, a3, fun x m => (n0 x (a5 x m).1).imp id fun z => z.2, fun x m j s hj l => ?_⟩
  rcases get_set hj with ⟨q, rfl, _⟩ | ⟨q, hj'⟩
  · subst q
    rw [h1] at l
    obtain ⟨v', Q, e1, t2, m'⟩ := l
    cases e1
    rw [t2.uniq a4] at m'
    exact (a5 x m).2 m'
  · exact oth x (a5 x m).1 j s q hj' l
/-- y = p[k]: the part is taken -/
def sTakeP (y : Nat) (p : PV) (k : EV) : SV := fun e => match p e with
  | .ok i (.lst ps) put => (match eLeaf k e with
    | .ok (.fz (.int j)) _ => if 0 ≤ j then (match ps[j.toNat]? with
      | some (.ob t) => .nx ((setDpE e i (put (.lst (ps.set j.toNat .any)))).set y (.dp false t))
      | _ => .no) else .no
    | _ => .no)
  | _ => .no
theorem takeP_rd {i : Nat} {p : PV} {k : EV} (h : tSv Z W (sTakeP i p k) E σ H) : tAsg (fun σ H Q => tPv Z p σ H fun x H1 => tEv Z W0 k σ H1 fun y H2 => rIxA Z.K x y H2 Q) (gName i) E σ H := by
  obtain ⟨N, F, e, S, P⟩ := h
  unfold sTakeP at P
  refine ⟨N, F, e, S, ?_⟩
  cases q : p e with
  | no => rw [q] at P; exact P.elim
  | ok i2 t put =>
    rw [q] at P
    cases t <;> try exact P.elim
    rename_i ps
    dsimp only at P
    cases q0 : eLeaf k e with
    | no => rw [q0] at P; exact P.elim
    | ex _ _ => rw [q0] at P; exact P.elim
    | ok r e1 =>
      obtain ⟨y, rfl, rfl⟩ := eLeaf_form q0
      rw [q0] at P
      cases y <;> try exact P.elim
      rename_i j
      dsimp only at P
      split at P
      · rename_i hj
        cases q1 : ps[j.toNat]? with
        | none => rw [q1] at P; exact P.elim
        | some dt =>
          rw [q1] at P
          cases dt <;> try exact P.elim
          rename_i t
          dsimp only at P
          intro b H' hh S' fs'
          refine leaf_ev S' q0 fun v H2 h2 S2 rv => ?_
          have ev : v = .int j := by have := rv F; cases this; rfl
          obtain ⟨vs, b2, a1, a2, S3', R, t3, n3, ap3⟩ := S2.takeP (.inl rfl) (fs'.grow h2) q1
          have hl : H2 b = some (.lst vs) := by
            rcases a1 with ⟨_, z⟩ | ⟨z, _⟩
            · exact z
            · exact absurd (congrFun z []) (by intro z; cases z)
          refine .inl (.inl ⟨b, vs, j, _, rfl, ev, SqL.of hl, atI_nn hj a2, ?_⟩)
          exact P F H2 _ (Same.refl _) (S3'.setDp (g := false) t3 (fun x m => (n3 x m).imp id fun z => ⟨rfl, z⟩) ap3)
      · exact P.elim
end
section
variable {ca : Str → Option Addr} {W : WX} {X : Cx} {fk : EV} {pv : PV} {o k : Expr} {pos p p2 : Pos}
theorem sv_takeP (i : Nat) {x : Str} (hN : X.N.Nodup) (ho : Pv ca X o pv) (hk : Ev ca W0 X k fk) (hu : X.A.units + 1 < cLine) (hsl : PlainIx k := by intro _ _; rfl) (hi : X.N[i]? = some x := by rfl) (hx : Loc X.env.scope x := by first | exact Or.inl rfl | exact Or.inr rfl)
    (hs : swapsWith (.Subscript o k p2) (some (.Name x p)) pos.line X.env = pure false := by rfl) (hf : X.fn x = true ∨ X.env.scope.names.lookup x = some .local := by first | exact .inl rfl | exact .inr rfl | assumption) :
    Sv ca W X (.Assign [.Name x p] (.Subscript o k p2) pos) (sTakeP i pv fk) := PS_imp (ps_set hN hi hx (pe_ix (ix_all hu) ho hk hsl) hs hf) fun _ _ _ h => takeP_rd (Z := zw ca X) h
end
end S3

/-! Y20: a def whose first parameter is a deep tree that is given away. -/
namespace S3
open PySem PySem.Spec L2
/-- the other arguments: a slot, a value reckoned while all is lent -/
inductive AL where
  | sl (j : Nat) | ev (f : EV)
def argsX : List AL → Env → Option (List D)
  | [], _ => some []
  | .sl j :: r, e => (match (slot e j).val with
    | some d => (argsX r e).map (d :: ·)
    | none => none)
  | .ev f :: r, e => (match f (lock e) with
    | .ok (.fz d) _ => (argsX r e).map (d :: ·)
    | .ok (.nw d) _ => (argsX r e).map (d :: ·)
    | _ => none)
def rsM (al : List AL) : List Md := al.map fun _ => Md.r
abbrev GV := Env → Option (D × Env)
/-- the first argument -/
def gSl (i : Nat) : GV := fun e => match slot e i with
  | .dp _ d => some (d, e.set i .no)
  | _ => none
def gPt (p : PV) (k : EV) : GV := fun e => match p e with
  | .ok i (.tup ps) put => (match eLeaf k e with
    | .ok (.fz (.int j)) _ => if 0 ≤ j then (match ps[j.toNat]? with
      | some (.ob t) => some (t, setDpE e i (put (.tup (ps.set j.toNat .any))))
      | _ => none) else none
    | _ => none)
  | _ => none
def gEx (f : EV) : GV := fun e => match f e with
  | .ok (.dn d) e1 => some (d, e1)
  | _ => none
/-- g(x, ..) -/
def eCallD (phi : List D → RC) (g : GV) (al : List AL) : EV := fun e => match g e with
  | some (d, e1) => (match argsX al e1 with
    | some ds => (match phi (.ob d :: ds) with
      | .ok false r _ => .ok (.fz r) e1
      | .ex x _ => .ex x e1
      | _ => .no)
    | none => .no)
  | none => .no
/-- the parameter at the entry -/
def sGive (f : SV) : SV := fun e => match slot e 0 with
  | .fz (.ob d) => f (e.set 0 (.dp false d))
  | _ => .no
section
variable {Z : Wd} {F F' H H' : Hp} {N : En} {σ : L2.St} {e e' : Env} {v w x y : V} {W : WX} {E : Ends}
def PostCD (Z : Wd) (F H : Hp) (R : List Addr) (Q : VK) (E : XK) : RC → Prop
  | .ok n d _ => ∀ v F' H', CGr F H R F' H' → (∀ b ∈ R, F' b = none ∧ ∃ u, H' b = some u ∧ NT u) → ResOk Z H F' H' n v d → Q v H'
  | .ex x _ => ∀ cls dd F' H', CGr F H R F' H' → (∀ b ∈ R, F' b = none ∧ ∃ u, H' b = some u ∧ NT u) → ExOk Z F' H' x cls dd → E cls dd H'
  | _ => False
/-- the promise of a def whose first parameter is given away -/
def spD (Z : Wd) (ms : List Md) (phi : List D → RC) : Sp := fun vs H Q E => ∃ F x vs' d ds R, vs = x :: vs' ∧ noMut ms = true ∧ Same F H ∧ OwT Z F H R x (.ob d) ∧ ArgsOk Z F H ms vs' ds ∧
  (∀ b ∈ R, ∀ (j : Nat) (m : Md) (d' : D), ms[j]? = some m → ds[j]? = some d' → ¬ Live Z F H (vs'[j]?) (pSl m d') b) ∧ PostCD Z F H R Q E (phi (.ob d :: ds))
/-! ### the body -/
theorem SOk.setM {R : List Addr} {mi : Nat → Option Addr} {bi : Nat → List Addr} (S : SOk Z ⟨N.F, N.H, [], mi, bi⟩ F H σ e) (th : ∀ b ∈ R, F b = none ∧ (∃ u, H b = some u ∧ NT u) ∧ ∃ o, N.H b = some o) (ap : ∀ b ∈ R, ∀ (j : Nat) (s : Sl), e[j]? = some s → ¬ Live Z F H ((σ[j]?).join) s b) : SOk Z ⟨N.F, N.H, R, mi, bi⟩ F H σ e := by
  refine ⟨S.le, S.f0, fun b o h _ => S.h0 b o h (by simp), S.nf, S.len, fun i s hs => ?_, S.sep, th, S.mus, S.bos, S.lks, S.lkh⟩
  obtain ⟨o, h1, h2⟩ := S.slot i s hs
  refine ⟨o, h1, ?_⟩
  have ap := fun b m => ap b m i s hs
  rw [h1] at ap
  cases s with
  | no => trivial
  | fz d => exact h2
  | ow d => exact h2
  | mu d =>
    obtain ⟨a, _, _, z, _⟩ := h2
    cases z
  | bo d =>
    obtain ⟨v, rfl, r⟩ := h2
    by_cases rr : Rp Z F v d
    · exact ⟨v, rfl, .inl rr⟩
    · rcases r with r | ⟨a, rfl, fa, na, _, t⟩
      · exact (rr r).elim
      · exact ⟨_, rfl, .inr ⟨a, rfl, fa, na, fun z => ap a z ⟨rfl, rr⟩, t⟩⟩
  | dp g d =>
    obtain ⟨v, Q, rfl, t, y⟩ := h2
    exact ⟨v, Q, rfl, t, fun b m => (y b m).imp id fun z => (by cases z.2)⟩
theorem startD_ok {ms : List Md} {x : V} {vs : List V} {d : D} {ds : List D} {R : List Addr} {Nm : List Str} {n : Nat} (nm : noMut ms = true) (l : Same F H) (t : OwT Z F H R x (.ob d)) (a : ArgsOk Z F H ms vs ds)
    (ap : ∀ b ∈ R, ∀ (j : Nat) (m : Md) (d' : D), ms[j]? = some m → ds[j]? = some d' → ¬ Live Z F H (vs[j]?) (pSl m d') b) (hn : Nm.length = n) (hm : ms.length + 1 ≤ n) :
    SOk Z ⟨F, H, R, fun _ => none, fun _ => []⟩ F H (L2.start Nm (x :: vs)) ((startE (.v :: ms) (.ob d :: ds) n).set 0 (.dp false d)) := by
  obtain ⟨b, rfl⟩ := t.refOf
  have aa : ArgsOk Z F H (.v :: ms) (.ref b :: vs) (.any :: ds) := .v .any a
  have nm' : noMut (.v :: ms) = true := nm
  have S0 := start_ok (Nm := Nm) (n := n) l aa (fun i j a m d _ hi => (noMut_at nm' hi).elim) hn (by rw [List.length_cons]; exact hm)
  have eM : mSet (.v :: ms) (.ref b :: vs) = [] := noMut_set nm'
  have eA : mAt (.v :: ms) (.ref b :: vs) = fun _ => none := by
    funext i
    cases q : mAt (.v :: ms) (.ref b :: vs) i with
    | none => rfl
    | some a => exact (noMut_at nm' q).elim
  rw [eM, eA] at S0
  have al := aa.lens
  have nl : ∀ c ∈ R, ∀ (j : Nat) (s : Sl), (startE (.v :: ms) (.any :: ds) n)[j]? = some s → ¬ Live Z F H (((L2.start Nm (.ref b :: vs))[j]?).join) s c := fun c m j s hj l => by
    rcases startE_get al.2 hj with ⟨m', d', k1, k2, rfl⟩ | ⟨_, rfl⟩
    · cases j with
      | zero =>
        simp at k1 k2
        subst k1 k2
        exact l
      | succ j =>
        have k1' : ms[j]? = some m' := by simpa using k1
        have k2' : ds[j]? = some d' := by simpa using k2
        obtain ⟨v, g1, _⟩ := a.at k1' k2'
        rw [start_get (i := j + 1) (by simpa using g1)] at l
        refine ap c m j m' d' k1' k2' ?_
        rw [g1]
        exact l
    · exact l
  have S1 := S0.setM (N := ⟨F, H, [], fun _ => none, fun _ => []⟩) (R := R) (fun c m => ⟨(t.there c m).1, (t.there c m).2, by obtain ⟨_, o, h, _⟩ := t.there c m; exact ⟨o, h⟩⟩) nl
  have S2 := S1.setDp (i := 0) (g := false) t (fun c m => .inr ⟨rfl, m⟩) nl
  have e1 : (L2.start Nm (.ref b :: vs)).set 0 (some (.ref b)) = L2.start Nm (.ref b :: vs) := setSt_same (start_get (i := 0) rfl)
  rw [e1] at S2
  have e2 : (startE (.v :: ms) (.any :: ds) n).set 0 (.dp false d) = (startE (.v :: ms) (.ob d :: ds) n).set 0 (.dp false d) := rfl
  rw [e2] at S2
  exact S2
theorem body_endD {ms : List Md} {R : List Addr} {r : RS} {Q : VK} {E : XK} (P : PostCD Z F H R Q E (finish ms r)) :
    PostS Z ⟨F, H, R, fun _ => none, fun _ => []⟩ F (fun cls d _ H => E cls d H) { nx := fun _ H' => Q .non H', rt := Q } r := by
  have cg : ∀ {F' H' : Hp} {σ : L2.St} {e : Env}, SOk Z ⟨F, H, R, fun _ => none, fun _ => []⟩ F' H' σ e → CGr F H R F' H' ∧ ∀ b ∈ R, F' b = none ∧ ∃ u, H' b = some u ∧ NT u := fun S => ⟨⟨S.f0, S.le, S.h0, S.nf⟩, fun b m => ⟨(S.mh b m).1, (S.mh b m).2.1⟩⟩
  cases r with
  | no => exact P
  | bk e => exact P.elim
  | ct e => exact P.elim
  | nx e =>
    unfold finish at P
    dsimp only at P
    cases q : outsE ms e with
    | none => rw [q] at P; exact P.elim
    | some o => rw [q] at P; exact fun F' H' σ' f S => P .non F' H' (cg S).1 (cg S).2 (by unfold ResOk; rw [if_neg Bool.false_ne_true]; exact .non)
  | ex x e =>
    unfold finish at P
    dsimp only at P
    cases q : outsE ms e with
    | none => rw [q] at P; exact P.elim
    | some o => rw [q] at P; exact fun cls d F' H' σ' f S k => P cls d F' H' (cg S).1 (cg S).2 k
  | rt r e =>
    unfold finish at P
    cases r with
    | «at» i => exact P.elim
    | fz d =>
      dsimp only at P
      cases q : outsE ms e with
      | none => rw [q] at P; exact P.elim
      | some o => rw [q] at P; exact fun v F' H' σ' f S k => P v F' H' (cg S).1 (cg S).2 (by unfold ResOk; rw [if_neg Bool.false_ne_true]; exact k)
    | nw d =>
      dsimp only at P
      cases q : outsE ms e with
      | none => rw [q] at P; exact P.elim
      | some o =>
        rw [q] at P
        intro v F' H' σ' f S k
        obtain ⟨a, rfl, fa, na, t, _⟩ := k
        exact P _ F' H' (cg S).1 (cg S).2 (by unfold ResOk; rw [if_pos rfl]; exact ⟨a, rfl, na, fa, t⟩)
    | dn d =>
      dsimp only at P
      cases q : outsE ms e with
      | none => rw [q] at P; exact P.elim
      | some o => rw [q] at P; exact P.elim
end
end S3
/-! ### what is given away is changed -/
namespace S3
open PySem PySem.Spec L2
section
variable {Z : Wd} {F F' H H' : Hp} {N : En} {σ : L2.St} {e e' : Env} {v w x y : V} {W : WX} {E : Ends}
theorem SOk.chgR {R : List Addr} (S : SOk Z N F H σ e) (eq : ∀ b, b ∉ R → H' b = H b) (nw : ∀ b ∈ R, N.H b = none ∨ b ∈ N.M) (fr : ∀ b ∈ R, F b = none ∧ (∃ u, H b = some u ∧ NT u) ∧ ∃ u, H' b = some u ∧ NT u) (ap : ∀ b ∈ R, ∀ (j : Nat) (s : Sl), e[j]? = some s → ¬ Live Z F H ((σ[j]?).join) s b) : SOk Z N F H' σ e := by
  have kp : ∀ b, b ∉ R → ∀ o', H b = some o' → H' b = some o' := fun b nb o' hb => by rw [eq b nb]; exact hb
  have kpw : ∀ Q : List Addr, (∀ a ∈ R, a ∉ Q) → Kp Q H H' := fun Q nr b x hb m => by
    refine kp b (fun z => ?_) x hb
    obtain ⟨_, ⟨u, hu, nt⟩, _⟩ := fr b z
    rw [hu] at hb; cases hb
    exact m.elim (nr b z) fun z => z nt
  have ul : ∀ (j : Nat) (s : Sl) (b : Addr), e[j]? = some s → Live Z F H' ((σ[j]?).join) s b → Live Z F H ((σ[j]?).join) s b := fun j s b hj l =>
    S.unlive hj l (Same.refl _) (fun _ _ z => z) fun Q d v f es ev t => kpw Q fun a m z => ap a m j s hj (by rw [es]; exact ⟨v, Q, ev, t, z⟩)
  have nF : ∀ b o, F b = some o → b ∉ R := fun b o h z => by rw [(fr b z).1] at h; cases h
  refine ⟨fun b x hb => kp b (nF b x hb) x (S.le _ _ hb), S.f0, fun b x hb m => kp b (fun z => ?_) x (S.h0 b x hb m), S.nf, S.len, fun j s hj => ?_, fun i j s t b h1 h2 ne o1 l1 l2 => S.sep i j s t b h1 h2 ne o1 (ul i s b h1 l1) (ul j t b h2 l2), fun b m => ?_, S.mus, S.bos, fun i j d b h m l => S.lks i j d b h m (ul i _ b h l), S.lkh⟩
  · rcases nw b z with q | q
    · rw [hb] at q; cases q
    · exact m q
  · obtain ⟨ov, h1, h2⟩ := S.slot j s hj
    refine ⟨ov, h1, ?_⟩
    have nl := fun a m => ap a m j s hj
    rw [h1] at nl
    cases s with
    | no => trivial
    | fz x => exact h2
    | ow x => obtain ⟨c, rfl, f, n, t'⟩ := h2; exact ⟨c, rfl, f, n, t'.keep (Same.refl _) (kp c fun z => nl c z rfl)⟩
    | mu x => obtain ⟨c, rfl, f, n, t'⟩ := h2; exact ⟨c, rfl, f, n, t'.keep (Same.refl _) (kp c fun z => nl c z rfl)⟩
    | bo x =>
      obtain ⟨v, rfl, r⟩ := h2
      by_cases rr : Rp Z F v x
      · exact ⟨v, rfl, .inl rr⟩
      · rcases r with r | ⟨c, rfl, f, n, m, t'⟩
        · exact (rr r).elim
        · exact ⟨_, rfl, .inr ⟨c, rfl, f, n, m, t'.keep (Same.refl _) (kp c fun z => nl c z ⟨rfl, rr⟩)⟩⟩
    | dp g x =>
      obtain ⟨v, Q, e1, t', y⟩ := h2
      exact ⟨v, Q, e1, t'.kept (kpw Q fun a m z => nl a m ⟨v, Q, e1, t', z⟩), y⟩
  · obtain ⟨x, ⟨u', y, ny⟩, z⟩ := S.mh b m
    refine ⟨x, ?_, z⟩
    by_cases q : b ∈ R
    · exact (fr b q).2.2
    · exact ⟨u', by rw [eq b q]; exact y, ny⟩
/-- behind the call -/
theorem SOk.givenBack {R : List Addr} {d : D} (S : SOk Z N F H σ e) (t : OwT Z F H R v (.ob d)) (nw : ∀ b ∈ R, N.H b = none ∨ b ∈ N.M) (ap : ∀ b ∈ R, ∀ (j : Nat) (s : Sl), e[j]? = some s → ¬ Live Z F H ((σ[j]?).join) s b)
    (cg : CGr F H R F' H') (al : ∀ b ∈ R, F' b = none ∧ ∃ u, H' b = some u ∧ NT u) : SOk Z N F' H' σ e := by
  have hm : Same H (fun b => if b ∈ R then H b else H' b) := fun b o hb => by
    show (if b ∈ R then H b else H' b) = some o
    split
    · exact hb
    · rename_i q; exact cg.h b o hb q
  have S1 := S.grow cg.f hm (fun b o hb => by
    have nb : b ∉ R := fun z => by rw [(al b z).1] at hb; cases hb
    show (if b ∈ R then H b else H' b) = some o
    rw [if_neg nb]
    exact cg.le _ _ hb) cg.nf
  have ul : ∀ b ∈ R, ∀ (j : Nat) (s : Sl), e[j]? = some s → ¬ Live Z F' (fun b => if b ∈ R then H b else H' b) ((σ[j]?).join) s b := fun b m j s hj l =>
    ap b m j s hj (S.unlive hj l cg.f (fun b ⟨u, hu, nt⟩ n => cg.nf b u hu nt n) fun _ _ _ _ _ _ _ => kp_same hm)
  refine S1.chgR (fun b nb => by rw [if_neg nb]) nw (fun b m => ⟨(al b m).1, ?_, (al b m).2⟩) ul
  obtain ⟨_, o, ho, nt⟩ := t.there b m
  exact ⟨o, by show (if b ∈ R then H b else H' b) = some o; rw [if_pos m]; exact ho, nt⟩
/-! ### the arguments -/
def tAL (Z : Wd) : List AL → TA
  | [] => tNil
  | .sl j :: r => tCons (tVar j) (tAL Z r)
  | .ev f :: r => tCons (tEv Z W0 f) (tAL Z r)
theorem argsX_rd : ∀ {al : List AL} {ds : List D} {F H : Hp} {Q : List V → Hp → Prop}, SOk Z N F H σ e → argsX al e = some ds →
    (∀ vs F' H', Same F F' → Same H H' → (∀ b u, H b = some u → NT u → F b = none → F' b = none) → SOk Z N F' H' σ e → ArgsOk Z F' H' (rsM al) vs ds →
      (∀ b, (∃ o, H b = some o) → (∀ (j : Nat) (s : Sl), e[j]? = some s → ¬ Live Z F H ((σ[j]?).join) s b) → ∀ (j : Nat) (d' : D), ds[j]? = some d' → ¬ Live Z F' H' (vs[j]?) (.bo d') b) → Q vs H') → tAL Z al σ H Q
  | [], ds, F, H, Q, S, q, K => by
    cases q
    exact K [] F H (Same.refl _) (Same.refl _) (fun _ _ _ _ h => h) S .nil fun b _ _ j d' h => by simp at h
  | .sl j :: al, ds, F, H, Q, S, q, K => by
    unfold argsX at q
    cases q1 : (S3.slot e j).val with
    | none => rw [q1] at q; cases q
    | some d =>
      rw [q1] at q
      dsimp only at q
      rw [Option.map_eq_some_iff] at q
      obtain ⟨ds', q2, rfl⟩ := q
      have hsl : ∃ s, e[j]? = some s ∧ s.val = some d ∧ s ≠ .no := by
        cases qs : S3.slot e j <;> rw [qs] at q1 <;> first | (cases q1; done) | exact ⟨_, slot_get qs (by intro z; cases z), q1, by intro z; cases z⟩
      obtain ⟨s, hs, hv, hn⟩ := hsl
      have val : ∀ {F' H'}, SOk Z N F' H' σ e → ∃ v, σ[j]? = some (some v) ∧ RdV Z F' H' v d := fun {F' H'} S' => by
        obtain ⟨o, h1, h2⟩ := S'.slot j s hs
        cases s with
        | no => cases hv
        | fz d0 => cases hv; obtain ⟨v, rfl, r⟩ := h2; exact ⟨v, h1, .inl r⟩
        | ow d0 => cases hv; obtain ⟨a, rfl, f, _, t⟩ := h2; exact ⟨_, h1, .inr ⟨a, rfl, f, t⟩⟩
        | bo d0 => cases hv; obtain ⟨v, rfl, r⟩ := h2; exact ⟨v, h1, r.imp id fun ⟨a, x1, x2, _, _, x3⟩ => ⟨a, x1, x2, x3⟩⟩
        | mu d0 => cases hv; obtain ⟨a, rfl, f, _, t⟩ := h2; exact ⟨_, h1, .inr ⟨a, rfl, f, t⟩⟩
        | dp g d0 => cases hv
      obtain ⟨v, h1, _⟩ := val S
      refine ⟨v, h1, argsX_rd S q2 fun vs F' H' f h nf S' A ap => K (v :: vs) F' H' f h nf S' (.r (by
        obtain ⟨v', k1, k2⟩ := val S'
        rw [h1] at k1; cases k1
        exact k2) A) fun b al nl i d' hd l => ?_⟩
      cases i with
      | succ i => exact ap b al nl i d' (by simpa using hd) (by simpa using l)
      | zero =>
        simp at hd
        subst hd
        obtain ⟨ev, nr⟩ := l
        have ev : v = .ref b := by simpa using ev
        subst ev
        refine nl j s hs ?_
        rw [h1]
        obtain ⟨o, g1, g2⟩ := S.slot j s hs
        rw [h1] at g1; cases g1
        cases s with
        | no => cases hv
        | fz d0 => cases hv; obtain ⟨v, e0, r⟩ := g2; cases e0; exact (nr (r.mono f)).elim
        | ow d0 => rfl
        | bo d0 => cases hv; exact ⟨rfl, fun z => nr (z.mono f)⟩
        | mu d0 => rfl
        | dp g d0 => cases hv
  | .ev f :: al, ds, F, H, Q, S, q, K => by
    unfold argsX at q
    refine ⟨_, F, lock e, S.lockd, ?_⟩
    have go : ∀ {r : RV} {d : D}, (r = .fz d ∨ r = .nw d) → ∀ {ds'}, argsX al e = some ds' → ds = d :: ds' → ∀ e1, PostE Z ⟨F, H, [], fun _ => none, fun _ => []⟩ F σ W0 (fun x H1 => tAL Z al σ H1 fun xs H2 => Q (x :: xs) H2) (.ok r e1) := fun {r d} hr {ds'} q2 ed e1 v F1 H1 f1 T1 hl => by
      subst ed
      have h1 : Same H H1 := fun b o hb => T1.h0 b o hb (by simp)
      have S1 : SOk Z N F1 H1 σ e := S.gr ⟨T1.f0, h1, T1.le, T1.nf⟩
      refine argsX_rd S1 q2 fun vs F' H' f h nf S' A ap => K (v :: vs) F' H' (f1.trans f) (h1.trans h) (fun b u hb nt n => nf b u (h1 _ _ hb) nt (T1.nf b u hb nt n)) S' (.r ?_ A) fun b al nl i d' hd l => ?_
      · rcases hr with rfl | rfl
        · exact .inl (hl.mono f)
        · obtain ⟨a, rfl, fa, _, t, _⟩ := hl
          obtain ⟨o, ho, nt⟩ := t.thereN
          exact .inr ⟨a, rfl, nf a o ho nt fa, t.keep f fun o ho => h _ _ ho⟩
      · cases i with
        | succ i =>
          refine ap b (by obtain ⟨o, ho⟩ := al; exact ⟨o, h1 _ _ ho⟩) (fun j s hj l2 => nl j s hj (S.unlive hj l2 T1.f0 (fun b ⟨u, hu, nt⟩ n => T1.nf b u hu nt n) fun _ _ _ _ _ _ _ => kp_same h1)) i d' (by simpa using hd) (by simpa using l)
        | zero =>
          simp at hd
          subst hd
          obtain ⟨ev, nr⟩ := l
          have ev : v = .ref b := by simpa using ev
          subst ev
          rcases hr with rfl | rfl
          · exact nr (hl.mono f)
          · obtain ⟨a, e0, _, na, _⟩ := hl
            cases e0
            obtain ⟨o, ho⟩ := al
            have na : H b = none := na
            rw [na] at ho; cases ho
    cases q1 : f (lock e) with
    | no => rw [q1] at q; cases q
    | ex z e1 => rw [q1] at q; cases q
    | ok r e1 =>
      rw [q1] at q
      cases r with
      | «at» i => cases q
      | dn d => cases q
      | fz d =>
        dsimp only at q
        rw [Option.map_eq_some_iff] at q
        obtain ⟨ds', q2, e2⟩ := q
        exact go (.inl rfl) q2 e2.symm e1
      | nw d =>
        dsimp only at q
        rw [Option.map_eq_some_iff] at q
        obtain ⟨ds', q2, e2⟩ := q
        exact go (.inr rfl) q2 e2.symm e1
end
end S3
/-! ### the call -/
namespace S3
open PySem PySem.Spec L2
def tGv (Z : Wd) (g : GV) : TE := fun σ H Q => ∃ N F e, SOk Z N F H σ e ∧ (match g e with
  | none => False
  | some (d, e1) => ∀ v F' H', Same F F' → SOk Z N F' H' σ e1 → GvOk Z N F' H' σ e1 v d → Q v H')
section
variable {Z : Wd} {F F' H H' : Hp} {N : En} {σ : L2.St} {e e' : Env} {v w x y : V} {W : WX} {E : Ends}
theorem gSl_rd {i : Nat} {Q : VK} (h : tGv Z (gSl i) σ H Q) : tVar i σ H Q := by
  obtain ⟨N, F, e, S, P⟩ := h
  unfold gSl at P
  cases qs : S3.slot e i <;> rw [qs] at P <;> try exact P.elim
  rename_i g d
  have hi := slot_get qs (by intro z; cases z)
  obtain ⟨o, h1, v, R, rfl, t, n⟩ := S.slot i _ hi
  refine ⟨v, h1, P v F H (Same.refl _) (S.forget i) ⟨R, t, fun b m => (n b m).imp id fun z => z.2, fun b m j s hj l => ?_⟩⟩
  rcases get_set hj with ⟨q, rfl, _⟩ | ⟨q, hj'⟩
  · exact l
  · exact S.sep i j _ s b hi hj' q rfl (by rw [h1]; exact ⟨v, R, rfl, t, m⟩) l
theorem gPt_rd {p : PV} {k : EV} {Q : VK} (h : tGv Z (gPt p k) σ H Q) : tPv Z p σ H fun x H1 => tEv Z W0 k σ H1 fun y H2 => rIxA Z.K x y H2 Q := by
  obtain ⟨N, F, e, S, P⟩ := h
  unfold gPt at P
  refine ⟨N, F, e, S, ?_⟩
  cases q : p e with
  | no => rw [q] at P; exact P.elim
  | ok i2 t put =>
    rw [q] at P
    cases t <;> try exact P.elim
    rename_i ps
    dsimp only at P
    cases q0 : eLeaf k e with
    | no => rw [q0] at P; exact P.elim
    | ex _ _ => rw [q0] at P; exact P.elim
    | ok r e1 =>
      obtain ⟨y, rfl, rfl⟩ := eLeaf_form q0
      rw [q0] at P
      cases y <;> try exact P.elim
      rename_i j
      dsimp only at P
      by_cases hj : 0 ≤ j
      · rw [if_pos hj] at P
        cases q1 : ps[j.toNat]? with
        | none => rw [q1] at P; exact P.elim
        | some dt =>
          rw [q1] at P
          cases dt <;> try exact P.elim
          rename_i t
          dsimp only at P
          intro b H' hh S' fs'
          refine leaf_ev S' q0 fun v H2 h2 S2 rv => ?_
          have ev : v = .int j := by have := rv F; cases this; rfl
          obtain ⟨vs, b2, a1, a2, S3', G⟩ := S2.takeP (.inr rfl) (fs'.grow h2) q1
          have hl : H2 b = some (.tup vs) := by
            rcases a1 with ⟨z, _⟩ | ⟨_, z⟩
            · exact absurd (congrFun z []) (by intro z; cases z)
            · exact z
          exact .inl (.inr (.inl ⟨b, vs, j, _, rfl, ev, SqT.of hl, atI_nn hj a2, P _ F H2 (Same.refl _) S3' G⟩))
      · rw [if_neg hj] at P; exact P.elim
theorem gEx_rd {f : EV} {Q : VK} (h : tGv Z (gEx f) σ H Q) : tEv Z W f σ H Q := by
  obtain ⟨N, F, e, S, P⟩ := h
  unfold gEx at P
  refine ⟨N, F, e, S, ?_⟩
  cases q : f e with
  | no => rw [q] at P; exact P.elim
  | ex _ _ => rw [q] at P; exact P.elim
  | ok r e1 =>
    rw [q] at P
    cases r <;> try exact P.elim
    rename_i d
    intro v F1 H1 f1 S1 ⟨R, t, n, ap⟩
    exact P v F1 H1 f1 S1 ⟨R, t, fun b m => .inl (n b m), ap⟩
theorem noMut_rs : ∀ al : List AL, noMut (rsM al) = true
  | [] => rfl
  | _ :: al => noMut_rs al
theorem rs_at : ∀ {al : List AL} {j : Nat} {m : Md}, (rsM al)[j]? = some m → m = .r
  | [], j, m, h => by simp [rsM] at h
  | _ :: al, 0, m, h => by simp [rsM] at h; exact h.symm
  | _ :: al, j + 1, m, h => rs_at (al := al) (by simpa [rsM] using h)
theorem callD_rd {phi : List D → RC} {g : GV} {al : List AL} {Q : VK} (h : tEv Z W (eCallD phi g al) σ H Q) : tGv Z g σ H fun x H1 => tAL Z al σ H1 fun vs H2 => spD Z (rsM al) phi ((x :: vs) ++ []) H2 Q (WE W σ) := by
  obtain ⟨N, F, e, S, P⟩ := h
  unfold eCallD at P
  refine ⟨N, F, e, S, ?_⟩
  cases q : g e with
  | none => rw [q] at P; exact P.elim
  | some pr =>
    obtain ⟨d, e1⟩ := pr
    rw [q] at P
    dsimp only at P
    intro x F1 H1 f1 S1 ⟨R, t, nw, ap⟩
    cases q1 : argsX al e1 with
    | none => rw [q1] at P; exact P.elim
    | some ds =>
      rw [q1] at P
      dsimp only at P
      refine argsX_rd S1 q1 fun vs F2 H2 f2 h2 nf2 S2 A ap2 => ?_
      have t2 : OwT Z F2 H2 R x (.ob d) := t.mono f2 (fun b m => by obtain ⟨a1, o, a2, a3⟩ := t.there b m; exact nf2 b o a2 a3 a1) (kp_same h2)
      have nl2 : ∀ b ∈ R, ∀ (j : Nat) (s : Sl), e1[j]? = some s → ¬ Live Z F2 H2 ((σ[j]?).join) s b := fun b m j s hj l =>
        ap b m j s hj (S1.unlive hj l f2 (fun b ⟨u, hu, nt⟩ n => nf2 b u hu nt n) fun _ _ _ _ _ _ _ => kp_same h2)
      refine ⟨F2, x, vs, d, ds, R, by rw [List.append_nil], noMut_rs al, S2.le, t2, A, fun b m j md d' hm hd l => ?_, ?_⟩
      · rw [rs_at hm] at l
        exact ap2 b (by obtain ⟨_, o, ho, _⟩ := t.there b m; exact ⟨o, ho⟩) (fun j s hj => ap b m j s hj) j d' hd l
      · cases q2 : phi (.ob d :: ds) with
        | no => rw [q2] at P; exact P
        | dp _ _ => rw [q2] at P; exact P.elim
        | ex z outs =>
          rw [q2] at P
          intro cls dd F' H' cg alv k
          exact P cls dd F' H' ((f1.trans f2).trans cg.f) (S2.givenBack t2 nw nl2 cg alv) k
        | ok n r outs =>
          rw [q2] at P
          cases n with
          | true => exact P.elim
          | false =>
            intro v F' H' cg alv k
            exact P v F' H' ((f1.trans f2).trans cg.f) (S2.givenBack t2 nw nl2 cg alv) k
end
section
variable {P : Program} {w : World} {K : PySem.W.Frag} {mg : Str → Option Value} {base : Heap}
open PySem.Spec PyProof.Rows in
theorem fn_okD {ca : Str → Option Addr} {x qual : Str} {st : Stmt} {f : Addr} {fd : FuncData} {Nm ps : List Str} {k : Nat} {T : Def} {ms : List Md} {bd : SV} {phi : String → List D → RC} (hT : T.ms = .v :: ms) (nm : noMut ms = true) (hb : T.body phi = sGive bd) (Fn : L2.Fun K x qual st f fd) (S : FnScope Nm ps (defScope st)) (hps : ps.length = T.ms.length) (hn : Nm.length = T.n) (hm : T.ms.length ≤ T.n)
    (body : ∀ (cdv : Value) (A : Around) (outer : List PySem.Env) (s : Shared) (H : Hp) (E : XK), Room k (A.deeper (envOfC qual (defScope st) s.heap.objs.size f cdv)) →
      Takes (cxOf (L2.CX P w) P w K mg base Nm qual (defScope st) f cdv A outer s H E) (fun cls d _ H => E cls d H) →
      PassesOwn (model P w) (cxOf (L2.CX P w) P w K mg base Nm qual (defScope st) f cdv A outer s H E).A (cxOf (L2.CX P w) P w K mg base Nm qual (defScope st) f cdv A outer s H E).env (cxOf (L2.CX P w) P w K mg base Nm qual (defScope st) f cdv A outer s H E).xe →
      PySem.W.kdsCode K cdv = true → Bv ca (fun cls d _ H => E cls d H) (cxOf (L2.CX P w) P w K mg base Nm qual (defScope st) f cdv A outer s H E) (defBody st) bd) :
    FnOk P w K mg base (L2.CX P w) (k + 1) f fd ps (spD ⟨P, w, K, ca⟩ ms (T.run phi)) := by
  obtain ⟨oc, od, kV, doc, pm, an, cdv, ct, osl, rfl, lk, hcd⟩ := Fn.ex
  refine fn_of lk hcd S (fun vs H Q E ⟨F, x, vs', d, ds, R, ev, _, _, _, a, _⟩ => by rw [ev, List.length_cons, a.lens.1, hps, hT, List.length_cons]) fun A outer s H vs Q E hr ⟨F, x, vs', d, ds, R, ev, _, l, t, a, ap, P⟩ => ?_
  subst ev
  refine ⟨_, body cdv A outer s H E hr (takes_of rfl rfl rfl rfl) (passes_of rfl) (kdsCode_of hcd), ⟨F, H, R, fun _ => none, fun _ => []⟩, F, (startE (.v :: ms) (.ob d :: ds) T.n).set 0 (.dp false d), startD_ok nm l t a ap hn (by rw [hT] at hm; exact hm), ?_⟩
  unfold Def.run at P
  rw [if_pos (by rw [hT, List.length_cons, List.length_cons, a.lens.2]), hb, hT] at P
  exact body_endD P
/-- such a def, at the levels -/
structure FnTD (ca : Str → Option Addr) (P : Program) (w : World) (K : PySem.W.Frag) (mg : Str → Option Value) (base : Heap) (k : Nat) (n : Str) (ms : List Md) (phi : List D → RC) : Prop where
  ex : ∃ (f : Addr) (fd : FuncData) (ps : List Str), FnOk P w K mg base (L2.CX P w) (2 * k) f fd ps (spD ⟨P, w, K, ca⟩ ms phi) ∧ mg n = some (.ref f) ∧ PySem.W.keepIn K (.ref f) = true ∧ Binds K fd ps []
theorem FnTD.zero {ca : Str → Option Addr} {n : Str} {f : Addr} {fd : FuncData} {ps : List Str} {ms : List Md} {g : String} {tab : String → Option Def} (hf : mg n = some (.ref f)) (hk : PySem.W.keepIn K (.ref f) = true) (hb : Binds K fd ps []) : FnTD ca P w K mg base 0 n ms (sem tab 0 g) :=
  ⟨f, fd, ps, ⟨fun vs H Q E ⟨_, _, _, _, _, _, _, _, _, _, _, _, z⟩ => z.elim, fun A outer s H args us vs Q E _ _ _ _ ⟨_, _, _, _, _, _, _, _, _, _, _, _, z⟩ => z.elim⟩, hf, hk, hb⟩
theorem FnTD.succ {ca : Str → Option Addr} {n : Str} {f : Addr} {fd : FuncData} {ps : List Str} {ms : List Md} {k : Nat} {g : String} {T : Def} {tab : String → Option Def} (h : FnOk P w K mg base (L2.CX P w) (2 * (k + 1)) f fd ps (spD ⟨P, w, K, ca⟩ ms (T.run (sem tab k)))) (hf : mg n = some (.ref f)) (hk : PySem.W.keepIn K (.ref f) = true)
    (hb : Binds K fd ps []) (ht : tab g = some T) : FnTD ca P w K mg base (k + 1) n ms (sem tab (k + 1) g) := by
  refine ⟨f, fd, ps, ?_, hf, hk, hb⟩
  have e : sem tab (k + 1) g = T.run (sem tab k) := by funext ds; simp only [sem, ht]
  rw [e]
  exact h
end
section
variable {ca : Str → Option Addr} {W : WX} {X : Cx} {a o k : Expr} {fa fk : EV} {pv : PV} {g : GV} {al : List AL} {es : List Expr} {n : Str} {kk : Nat} {pos p p2 : Pos} {phi : List D → RC}
/-- the first argument's text -/
structure Gv (ca : Str → Option Addr) (X : Cx) (a : Expr) (g : GV) : Prop where
  ok : PE X a (tGv (zw ca X) g)
theorem gv_sl {i : Nat} {x : Str} {px : Pos} (hx : PE X (.Name x px) (tVar i)) : Gv ca X (.Name x px) (gSl i) := ⟨PE_imp hx fun _ _ _ => gSl_rd⟩
theorem gv_pt (ho : Pv ca X o pv) (hk : Ev ca W0 X k fk) (hu : X.A.units + 1 < cLine) (hs : PlainIx k := by intro _ _; rfl) : Gv ca X (.Subscript o k p2) (gPt pv fk) := ⟨PE_imp (pe_ix (ix_all hu) ho hk hs) fun _ _ _ h => gPt_rd (Z := zw ca X) h⟩
theorem gv_ex (h : Ev ca W X a fa) : Gv ca X a (gEx fa) := ⟨PE_imp h fun _ _ _ => gEx_rd⟩
structure Als (ca : Str → Option Addr) (X : Cx) (es : List Expr) (al : List AL) : Prop where
  ok : PA X es (tAL (zw ca X) al)
theorem als_nil : Als ca X [] [] := ⟨pa_nil⟩
theorem als_sl {j : Nat} {x : Str} {px : Pos} (hx : PE X (.Name x px) (tVar j)) (r : Als ca X es al) (he : starEach (.Name x px :: es) X.env = (false, eval (.Name x px) X.env) :: starEach es X.env := by rfl) : Als ca X (.Name x px :: es) (.sl j :: al) := ⟨pa_cons hx r.ok he⟩
theorem als_ev (h : Ev ca W0 X a fa) (r : Als ca X es al) (he : starEach (a :: es) X.env = (false, eval a X.env) :: starEach es X.env := by rfl) : Als ca X (a :: es) (.ev fa :: al) := ⟨pa_cons h r.ok he⟩
theorem ev_callD (T : FnTD ca X.prog X.w X.K X.mg X.base kk n (rsM al) phi) (hr : Room (2 * kk + 1) X.A) (tk : Takes X W) (hg : Gv ca X a g) (ha : Als ca X es al) (hgl : Gl X n := by rfl) (hdb : (n == ("__debug__" : Str)) = false := by decide)
    (he : starEach (a :: es) X.env = (false, eval a X.env) :: starEach es X.env := by rfl) (hpl : (backTo pos (starEach es X.env)).any (·.1) = false := by rfl) : Ev ca W X (.Call (.Name n p) (a :: es) [] pos) (eCallD phi g al) := by
  obtain ⟨f, fd, ps, G, hm, hk, hb⟩ := T.ex
  exact PE_imp (pe_callSD G (hr.mono (Nat.le_succ _)) hgl hm hk hb .nil (fun σ => passAt tk σ) (pa_cons hg.ok ha.ok he) hdb he hpl) fun _ _ _ h => callD_rd (Z := zw ca X) h
end
end S3

/-! P1: reckoning with the terms: what simp may unfold; loops by an invariant. -/
namespace S3
open PySem
section
variable {e e' : Env} {f g h : EV} {s t : SV} {c d : TV}
@[simp] theorem slot0 (s : Sl) (e : Env) : slot (s :: e) 0 = s := rfl
@[simp] theorem slotS (s : Sl) (e : Env) (i : Nat) : slot (s :: e) (i + 1) = slot e i := rfl
@[simp] theorem eC_e (x : D) : eC x e = .ok (.fz x) e := rfl
@[simp] theorem eSlot_e (i : Nat) : eSlot i e = match slot e i with | .no => .no | .fz d => .ok (.fz d) e | _ => .ok (.at i) e := rfl
@[simp] theorem eBind_e {k : RV → EV} : eBind f k e = match f e with | .ok r e1 => k r e1 | .ex x e1 => .ex x e1 | .no => .no := rfl
@[simp] theorem eOp1_e (op : D → Option RV) : eOp1 op f e = match f e with | .ok r e1 => (match rd r e1 with | some x => ofOp (op x) e1 | none => .no) | .ex x e1 => .ex x e1 | .no => .no := rfl
@[simp] theorem eOp2_e (op : D → D → Option RV) : eOp2 op f g e = match f e with | .ok r e1 => (match g e1 with | .ok q e2 => (match rd r e2, rd q e2 with | some x, some y => ofOp (op x y) e2 | _, _ => .no) | .ex x e1 => .ex x e1 | .no => .no) | .ex x e1 => .ex x e1 | .no => .no := rfl
@[simp] theorem ofOp_s (r : RV) : ofOp (some r) e = .ok r e := rfl
@[simp] theorem ofOp_n : ofOp none e = .no := rfl
@[simp] theorem rd_fz (d : D) : rd (.fz d) e = some d := rfl
@[simp] theorem rd_nw (d : D) : rd (.nw d) e = some d := rfl
@[simp] theorem rd_at (i : Nat) : rd (.at i) e = (slot e i).val := rfl
@[simp] theorem val_fz (d : D) : (Sl.fz d).val = some d := rfl
@[simp] theorem val_ow (d : D) : (Sl.ow d).val = some d := rfl
@[simp] theorem val_bo (d : D) : (Sl.bo d).val = some d := rfl
@[simp] theorem val_mu (d : D) : (Sl.mu d).val = some d := rfl
@[simp] theorem val_no : (Sl.no).val = none := rfl
@[simp] theorem stl_fz (d : D) : stl (.fz d) e = some (d, e) := rfl
@[simp] theorem stl_nw (d : D) : stl (.nw d) e = some (d, e) := rfl
@[simp] theorem stl_at (i : Nat) : stl (.at i) e = match slot e i with | .fz d => some (d, e) | .ow d => some (d, e.set i (.fz d)) | .dp true d => some (d.sbT, e.set i (.fz d.sbT)) | _ => none := rfl
@[simp] theorem eI_e : eI f e = match f e with | .ok r e1 => (match r with | .fz (.int i) => .ok (.fz (.int i)) e1 | _ => .no) | .ex x e1 => .ex x e1 | .no => .no := rfl
@[simp] theorem aNil_e : aNil e = .ok [] e := rfl
@[simp] theorem aCons_e (a : AV) : aCons f a e = match f e with | .ok r e1 => (match a e1 with | .ok rs e2 => .ok (r :: rs) e2 | .ex x e2 => .ex x e2 | .no => .no) | .ex x e1 => .ex x e1 | .no => .no := rfl
@[simp] theorem aKeep_e (a : AV) : aKeep f a e = match f e with | .ok r e1 => (match stl r e1 with | some (d, e1') => (match a e1' with | .ok rs e2 => .ok (.fz d :: rs) e2 | .ex x e2 => .ex x e2 | .no => .no) | none => .no) | .ex x e1 => .ex x e1 | .no => .no := rfl
@[simp] theorem fzs_nil : fzs [] = some [] := rfl
@[simp] theorem fzs_cons (d : D) (r : List RV) : fzs (.fz d :: r) = (fzs r).map (d :: ·) := rfl
@[simp] theorem eDisp_e (mk : List D → RV) (a : AV) : eDisp mk a e = match a e with | .ok rs e1 => (match fzs rs with | some ds => if ds.length ≤ 16777216 then .ok (mk ds) e1 else .no | none => .no) | .ex x e1 => .ex x e1 | .no => .no := rfl
@[simp] theorem argD_nil : argD [] [] e = some [] := rfl
@[simp] theorem argD_v (ms : List Md) (d : D) (rs : List RV) : argD (.v :: ms) (.fz d :: rs) e = (argD ms rs e).map (d :: ·) := rfl
@[simp] theorem argD_r (ms : List Md) (r : RV) (rs : List RV) : argD (.r :: ms) (r :: rs) e = (match rd r e with | some d => (argD ms rs e).map (d :: ·) | none => none) := rfl
@[simp] theorem argD_m (ms : List Md) (i : Nat) (rs : List RV) : argD (.m :: ms) (.at i :: rs) e = (match slot e i with | .ow d => (argD ms rs e).map (d :: ·) | .mu d => (argD ms rs e).map (d :: ·) | _ => none) := rfl
@[simp] theorem mutIx_nil (rs : List RV) : mutIx [] rs = [] := by cases rs <;> rfl
@[simp] theorem mutIx_v (ms : List Md) (r : RV) (rs : List RV) : mutIx (.v :: ms) (r :: rs) = mutIx ms rs := by cases r <;> rfl
@[simp] theorem mutIx_r (ms : List Md) (r : RV) (rs : List RV) : mutIx (.r :: ms) (r :: rs) = mutIx ms rs := by cases r <;> rfl
@[simp] theorem mutIx_m (ms : List Md) (i : Nat) (rs : List RV) : mutIx (.m :: ms) (.at i :: rs) = i :: mutIx ms rs := rfl
@[simp] theorem atIx_nil : atIx [] = [] := rfl
@[simp] theorem atIx_at (i : Nat) (rs : List RV) : atIx (.at i :: rs) = i :: atIx rs := rfl
@[simp] theorem atIx_fz (d : D) (rs : List RV) : atIx (.fz d :: rs) = atIx rs := rfl
@[simp] theorem atIx_nw (d : D) (rs : List RV) : atIx (.nw d :: rs) = atIx rs := rfl
@[simp] theorem apart_e (ms : List Md) (rs : List RV) : apart ms rs = (mutIx ms rs).all fun i => (atIx rs).count i == 1 := rfl
@[simp] theorem wback_nil : wback [] [] e = some e := rfl
@[simp] theorem wback_cons (i : Nat) (is : List Nat) (d : D) (ds : List D) : wback (i :: is) (d :: ds) e = (match slot e i with | .ow _ => wback is ds (e.set i (.ow d)) | .mu _ => wback is ds (e.set i (.mu d)) | _ => none) := rfl
@[simp] theorem rv_t (d : D) : rv true d = .nw d := rfl
@[simp] theorem rv_f (d : D) : rv false d = .fz d := rfl
@[simp] theorem eCall_e (phi : List D → RC) (ms : List Md) (a : AV) : eCall phi ms a e = match a e with
  | .ok rs e1 => (match argD ms rs e1 with
    | some ds => if apart ms rs then (match phi ds with
        | .ok n d outs => (match wback (mutIx ms rs) outs e1 with | some e2 => .ok (rv n d) e2 | none => .no)
        | .ex x outs => (match wback (mutIx ms rs) outs e1 with | some e2 => .ex x e2 | none => .no)
        | .dp d outs => (match wback (mutIx ms rs) outs e1 with | some e2 => .ok (.dn d) e2 | none => .no)
        | .no => .no) else .no
    | none => .no)
  | .ex x e1 => .ex x e1
  | .no => .no := rfl
@[simp] theorem mine_ow (k : D → Bool) (d : D) : mine k (.ow d) = k d := rfl
@[simp] theorem mine_mu (k : D → Bool) (d : D) : mine k (.mu d) = k d := rfl
@[simp] theorem reown_mu (a b : D) : reown (.mu a) b = .mu b := rfl
@[simp] theorem reown_ow (a b : D) : reown (.ow a) b = .ow b := rfl
@[simp] theorem isLst_l (xs : List D) : isLst (.lst xs) = true := rfl
@[simp] theorem eMut_e (i : Nat) (k : D → Bool) (op : D → List D → Option (D × RV)) (a : AV) : eMut i k op a e = if mine k (slot e i) then (match a e with
  | .ok rs e1 => (match fzs rs with
    | some ds => if mine k (slot e1 i) then (match (slot e1 i).val with
      | some d => (match op d ds with | some (d', r) => .ok r (e1.set i (reown (slot e1 i) d')) | none => .no)
      | none => .no) else .no
    | none => .no)
  | .ex x e1 => .ex x e1
  | .no => .no) else .no := rfl
@[simp] theorem tVal_e : tVal f e = match f e with | .ok r e1 => (match rd r e1 with | some d => (match asBool d with | some b => .ok b e1 | none => .no) | none => .no) | .ex x e1 => .ex x e1 | .no => .no := rfl
@[simp] theorem tTru_e : tTru f e = match f e with | .ok r e1 => (match rd r e1 with | some d => (match truth d with | some b => .ok b e1 | none => .no) | none => .no) | .ex x e1 => .ex x e1 | .no => .no := rfl
@[simp] theorem asBool_b (b : Bool) : asBool (.bl b) = some b := rfl
@[simp] theorem truth_b (b : Bool) : truth (.bl b) = some b := rfl
@[simp] theorem truth_non : truth .non = some false := rfl
@[simp] theorem truth_int (i : Int) : truth (.int i) = some (i != 0) := rfl
@[simp] theorem truth_str (x : Str) : truth (.str x) = some (x.length != 0) := rfl
@[simp] theorem truth_lst (xs : List D) : truth (.lst xs) = some (!xs.isEmpty) := rfl
@[simp] theorem truth_tup (xs : List D) : truth (.tup xs) = some (!xs.isEmpty) := rfl
@[simp] theorem tAndS_e : tAndS c d e = match c e with | .ok true e1 => d e1 | r => r := rfl
@[simp] theorem tOrS_e : tOrS c d e = match c e with | .ok false e1 => d e1 | r => r := rfl
@[simp] theorem tNotS_e : tNotS c e = match c e with | .ok b e1 => .ok (!b) e1 | r => r := rfl
@[simp] theorem sSeq_e : sSeq s t e = match s e with | .nx e1 => t e1 | r => r := rfl
@[simp] theorem sNx_e : sNx e = .nx e := rfl
@[simp] theorem sExpr_e : sExpr f e = match f e with | .ok r e1 => .nx e1 | .ex x e1 => .ex x e1 | .no => .no := rfl
@[simp] theorem sRet_e : sRet f e = match f e with | .ok r e1 => ret r e1 | .ex x e1 => .ex x e1 | .no => .no := rfl
@[simp] theorem ret_fz (d : D) : ret (.fz d) e = .rt (.fz d) e := rfl
@[simp] theorem ret_nw (d : D) : ret (.nw d) e = .rt (.nw d) e := rfl
@[simp] theorem ret_at (i : Nat) : ret (.at i) e = match slot e i with | .fz d => .rt (.fz d) e | .ow d => .rt (.nw d) (e.set i .no) | .dp true d => .rt (.dn d) (e.set i .no) | _ => .no := rfl
@[simp] theorem sIf_e : sIf c s t e = match c e with | .ok true e1 => s e1 | .ok false e1 => t e1 | .ex x e1 => .ex x e1 | .no => .no := rfl
@[simp] theorem sSet_e (i : Nat) : sSet i f e = match f e with | .ok r e1 => (match setS i r e1 with | some e2 => .nx e2 | none => .no) | .ex x e1 => .ex x e1 | .no => .no := rfl
@[simp] theorem setS_fz (i : Nat) (d : D) : setS i (.fz d) e = some (e.set i (.fz d)) := rfl
@[simp] theorem setS_nw (i : Nat) (d : D) : setS i (.nw d) e = some (e.set i (.ow d)) := rfl
@[simp] theorem setS_at (i j : Nat) : setS i (.at j) e = (stl (.at j) e).map fun p => p.2.set i (.fz p.1) := rfl
@[simp] theorem setAll_nil : setAll [] [] e = some e := rfl
@[simp] theorem setAll_cons (i : Nat) (is : List Nat) (d : D) (ds : List D) : setAll (i :: is) (d :: ds) e = setAll is ds (e.set i (.fz d)) := rfl
@[simp] theorem tgt_one (i : Nat) (d : D) : tgt (.one i) d e = some (e.set i (.fz d)) := rfl
@[simp] theorem tgt_tup (is : List Nat) (ds : List D) : tgt (.tup is) (.tup ds) e = setAll is ds e := rfl
@[simp] theorem wipeE_nil : wipeE e [] = e := rfl
@[simp] theorem wipeE_cons (i : Nat) (is : List Nat) : wipeE e (i :: is) = (wipeE e is).set i .no := rfl
@[simp] theorem lock_nil : lock [] = [] := rfl
@[simp] theorem lock_cons (s : Sl) : lock (s :: e) = s.lock :: lock e := rfl
@[simp] theorem lock_fz (d : D) : (Sl.fz d).lock = .fz d := rfl
@[simp] theorem lock_ow (d : D) : (Sl.ow d).lock = .bo d := rfl
@[simp] theorem lock_mu (d : D) : (Sl.mu d).lock = .bo d := rfl
@[simp] theorem lock_bo (d : D) : (Sl.bo d).lock = .bo d := rfl
@[simp] theorem lock_no : (Sl.no).lock = .no := rfl
@[simp] theorem tYesS_e : tYesS e = .ok true e := rfl
@[simp] theorem wAny_e : wAny f e = match f e with | .ok r e1 => (match walk r e1 with | some (d, e1) => (match items d with | some xs => .ok xs e1 | none => .no) | none => .no) | .ex x e1 => .ex x e1 | .no => .no := rfl
@[simp] theorem walk_fz (d : D) : walk (.fz d) e = some (d, e) := rfl
@[simp] theorem walk_nw (d : D) : walk (.nw d) e = some (d, e) := rfl
@[simp] theorem walk_at (i : Nat) : walk (.at i) e = match slot e i with | .fz d => some (d, e) | .ow d => some (d, e.set i (.fz d)) | .bo d => some (d, e) | .dp true d => some (d.sbT, e.set i (.fz d.sbT)) | _ => none := rfl
@[simp] theorem items_l (xs : List D) : items (.lst xs) = some xs := rfl
@[simp] theorem items_t (xs : List D) : items (.tup xs) = some xs := rfl
@[simp] theorem items_s (xs : List D) : items (.scr xs) = some xs := rfl
@[simp] theorem items_str (x : Str) : items (.str x) = some (x.cps.toList.map fun c => .str ⟨#[c]⟩) := rfl
@[simp] theorem wR1_e : wR1 g e = match g e with | .ok r e1 => (match r with | .fz (.int y) => if -(2 ^ 62) ≤ y ∧ y < 2 ^ 62 then .ok (rng 0 y) e1 else .no | _ => .no) | .ex x e1 => .ex x e1 | .no => .no := by
  unfold wR1 wE eI eBind
  cases g e with
  | ok r e1 => cases r with
    | fz d => cases d <;> rfl
    | _ => rfl
  | _ => rfl
theorem sFor_e {tmp : List Nat} {tg : Tg} {w : WV} {b : SV} : sFor tmp tg w b e = match w e with | .ok xs e1 => forL tmp tg b xs e1 | .ex x e1 => .ex x e1 | .no => .no := rfl
@[simp] theorem finish_nx (ms : List Md) : finish ms (.nx e) = match outsE ms e with | some o => .ok false .non o | none => .no := rfl
@[simp] theorem finish_fz (ms : List Md) (d : D) : finish ms (.rt (.fz d) e) = match outsE ms e with | some o => .ok false d o | none => .no := rfl
@[simp] theorem finish_nw (ms : List Md) (d : D) : finish ms (.rt (.nw d) e) = match outsE ms e with | some o => .ok true d o | none => .no := rfl
@[simp] theorem finish_ex (ms : List Md) (x : Exn) : finish ms (.ex x e) = match outsE ms e with | some o => .ex x o | none => .no := rfl
@[simp] theorem outsE_nil : outsE [] e = some [] := by cases e <;> rfl
@[simp] theorem outsE_v (ms : List Md) (s : Sl) : outsE (.v :: ms) (s :: e) = outsE ms e := by cases s <;> rfl
@[simp] theorem outsE_r (ms : List Md) (s : Sl) : outsE (.r :: ms) (s :: e) = outsE ms e := by cases s <;> rfl
@[simp] theorem outsE_m (ms : List Md) (d : D) : outsE (.m :: ms) (.mu d :: e) = (outsE ms e).map (d :: ·) := rfl
end
/-! operators at their kinds -/
@[simp] theorem opAdd_i (i j : Int) : opAdd (.int i) (.int j) = some (.fz (.int (i + j))) := rfl
@[simp] theorem opSub_i (i j : Int) : opSub (.int i) (.int j) = some (.fz (.int (i - j))) := rfl
@[simp] theorem opAdd_s (x y : Str) : opAdd (.str x) (.str y) = if x.length + y.length ≤ BIG then some (.fz (.str (x ++ y))) else none := rfl
@[simp] theorem opAdd_l (x y : List D) : opAdd (.lst x) (.lst y) = if x.length + y.length ≤ BIG then some (.nw (.lst (x ++ y))) else none := rfl
@[simp] theorem opMul_i (i j : Int) : opMul (.int i) (.int j) = if (-(2 ^ 64) < i ∧ i < 2 ^ 64) ∨ (-(2 ^ 64) < j ∧ j < 2 ^ 64) then some (.fz (.int (i * j))) else none := rfl
@[simp] theorem opMod_i (i j : Int) : opMod (.int i) (.int j) = if 0 < j then some (.fz (.int (i % j))) else none := rfl
@[simp] theorem opDiv_i (i j : Int) : opDiv (.int i) (.int j) = if 0 < j ∧ j < 1073741824 then some (.fz (.int (i / j))) else none := rfl
@[simp] theorem opLt_i (i j : Int) : opLt (.int i) (.int j) = some (.fz (.bl (decide (i < j)))) := rfl
@[simp] theorem opGt_i (i j : Int) : opGt (.int i) (.int j) = some (.fz (.bl (decide (j < i)))) := rfl
@[simp] theorem opGe_i (i j : Int) : opGe (.int i) (.int j) = some (.fz (.bl (decide (j ≤ i)))) := rfl
@[simp] theorem opInt_i (i : Int) : opInt (.int i) = some (.fz (.int i)) := rfl
@[simp] theorem opAbs_i (i : Int) : opAbs (.int i) = some (.fz (.int (if i < 0 then -i else i))) := rfl
@[simp] theorem opLen_s (x : Str) : opLen (.str x) = some (.fz (.int x.length)) := rfl
@[simp] theorem opLen_l (x : List D) : opLen (.lst x) = some (.fz (.int x.length)) := rfl
@[simp] theorem opLen_t (x : List D) : opLen (.tup x) = some (.fz (.int x.length)) := rfl
@[simp] theorem opIx_l (xs : List D) (i : Int) : opIx (.lst xs) (.int i) = (L2.atI xs i).map .fz := rfl
@[simp] theorem opIx_t (xs : List D) (i : Int) : opIx (.tup xs) (.int i) = (L2.atI xs i).map .fz := rfl
@[simp] theorem opIx_s (z : Str) (i : Int) : opIx (.str z) (.int i) = (L2.atI z.cps.toList i).map fun c => .fz (.str ⟨#[c]⟩) := rfl
@[simp] theorem mApp_l (xs : List D) (y : D) : mAppend (.lst xs) [y] = if xs.length < BIG then some (.lst (xs ++ [y]), .fz .non) else none := rfl
@[simp] theorem mkLst_e (xs : List D) : mkLst xs = .nw (.lst xs) := rfl
@[simp] theorem bRV_s (b : Bool) : bRV (some b) = some (.fz (.bl b)) := rfl
@[simp] theorem bRV_n : bRV none = none := rfl
theorem py_ii (i j : Int) : PyData.eqv (.int i) (.int j) = decide (i = j) := by
  by_cases h : i = j
  · subst h; simp [PyData.eqv]
  · simp [PyData.eqv, h]
theorem dEq_ii (i j : Int) : dEq (.int i) (.int j) = some (decide (i = j)) := by
  show some (PyData.eqv (.int i) (.int j)) = _
  rw [py_ii]
theorem opEq_i (i j : Int) : opEq (.int i) (.int j) = some (.fz (.bl (decide (i = j)))) := by unfold opEq; rw [dEq_ii]; rfl
theorem opNe_i (i j : Int) : opNe (.int i) (.int j) = some (.fz (.bl (!decide (i = j)))) := by unfold opNe; rw [dEq_ii]; rfl
theorem atI_nat {α : Type} {xs : List α} {i : Int} {x : α} (h0 : 0 ≤ i) (h : xs[i.toNat]? = some x) : L2.atI xs i = some x := by
  have hl := (List.getElem?_eq_some_iff.mp h).1
  unfold L2.atI L2.ixN
  rw [if_pos h0, if_pos (by omega)]
  exact h
theorem atI_lt {α : Type} {xs : List α} {i : Int} (h0 : 0 ≤ i) (h : i < xs.length) : ∃ x, xs[i.toNat]? = some x ∧ L2.atI xs i = some x := by
  have hl : i.toNat < xs.length := by omega
  exact ⟨_, List.getElem?_eq_getElem hl, atI_nat h0 (List.getElem?_eq_getElem hl)⟩

/-! ### loops -/
/-- a turn's end, then: J if the loop goes on, R of the loop's end otherwise -/
def turnP (tmp : List Nat) (J : Env → Prop) (R : RS → Prop) : RS → Prop
  | .nx e => J (wipeE e tmp)
  | .ct e => J (wipeE e tmp)
  | .bk e => R (.nx (wipeE e tmp))
  | .rt r e => R (.rt r e)
  | .ex x e => R (.ex x e)
  | .no => R .no
@[simp] theorem turnP_nx (tmp J R e) : turnP tmp J R (.nx e) = J (wipeE e tmp) := rfl
@[simp] theorem turnP_ct (tmp J R e) : turnP tmp J R (.ct e) = J (wipeE e tmp) := rfl
@[simp] theorem turnP_bk (tmp J R e) : turnP tmp J R (.bk e) = R (.nx (wipeE e tmp)) := rfl
@[simp] theorem turnP_rt (tmp J R e r) : turnP tmp J R (.rt r e) = R (.rt r e) := rfl
@[simp] theorem turnP_ex (tmp J R e r) : turnP tmp J R (.ex r e) = R (.ex r e) := rfl
theorem forL_inv {tmp : List Nat} {t : Tg} {b : SV} {ds : List D} {R : RS → Prop} (I : Nat → Env → Prop) {e : Env} (h0 : I 0 e)
    (hs : ∀ i d e, ds[i]? = some d → I i e → ∃ e1, tgt t d e = some e1 ∧ turnP tmp (I (i + 1)) R (b e1)) (he : ∀ e, I ds.length e → R (.nx e)) : R (forL tmp t b ds e) := by
  induction ds generalizing I e with
  | nil => exact he e h0
  | cons d ds ih =>
    obtain ⟨e1, h1, h2⟩ := hs 0 d e rfl h0
    unfold forL
    rw [h1]
    dsimp only
    have next : ∀ e2, I 1 e2 → R (forL tmp t b ds e2) := fun e2 h => ih (fun i => I (i + 1)) h (fun i d e hd hi => hs (i + 1) d e (by simpa using hd) hi) (fun e h => he e (by simpa using h))
    cases q : b e1 with
    | nx e2 => rw [q] at h2; exact next _ h2
    | ct e2 => rw [q] at h2; exact next _ h2
    | bk e2 => rw [q] at h2; exact h2
    | rt r e2 => rw [q] at h2; exact h2
    | ex x e2 => rw [q] at h2; exact h2
    | no => rw [q] at h2; exact h2
/-- a loop, then the rest; R: the end of the loop leads to Q -/
theorem seq_for {tmp : List Nat} {t : Tg} {w : WV} {b : SV} {g : SV} {e e0 : Env} {ds : List D} {Q : RS → Prop} (hw : w e = .ok ds e0) (I : Nat → Env → Prop) (h0 : I 0 e0)
    (hs : ∀ R : RS → Prop, (∀ r e, Q (.rt r e) → R (.rt r e)) → (∀ e, Q (g e) → R (.nx e)) → (∀ x e, Q (.ex x e) → R (.ex x e)) → ∀ i d e, ds[i]? = some d → I i e → ∃ e1, tgt t d e = some e1 ∧ turnP tmp (I (i + 1)) R (b e1))
    (he : ∀ e, I ds.length e → Q (g e)) : Q (sSeq (sFor tmp t w b) g e) := by
  rw [sSeq_e, sFor_e, hw]
  exact forL_inv (R := fun r => Q (match r with | .nx e1 => g e1 | r => r)) I h0 (hs _ (fun _ _ h => h) (fun _ h => h) (fun _ _ h => h)) he
theorem sole_for {tmp : List Nat} {t : Tg} {w : WV} {b : SV} {e e0 : Env} {ds : List D} {Q : RS → Prop} (hw : w e = .ok ds e0) (I : Nat → Env → Prop) (h0 : I 0 e0)
    (hs : ∀ i d e, ds[i]? = some d → I i e → ∃ e1, tgt t d e = some e1 ∧ turnP tmp (I (i + 1)) Q (b e1)) (he : ∀ e, I ds.length e → Q (.nx e)) : Q (sFor tmp t w b e) := by
  rw [sFor_e, hw]
  exact forL_inv I h0 hs he
theorem rng_get {a b : Int} {i : Nat} {d : D} (h : (rng a b)[i]? = some d) : d = .int (a + i) ∧ (i : Int) < b - a := by
  unfold rng at h
  rw [List.getElem?_map, Option.map_eq_some_iff] at h
  obtain ⟨j, h1, rfl⟩ := h
  obtain ⟨hl, h2⟩ := List.getElem?_eq_some_iff.mp h1
  rw [List.getElem_range] at h2
  subst h2
  rw [List.length_range] at hl
  exact ⟨rfl, by omega⟩
theorem rng0_get {b : Int} {i : Nat} {d : D} (h : (rng 0 b)[i]? = some d) : d = .int i ∧ (i : Int) < b := by
  have := rng_get h
  rw [Int.zero_add] at this
  exact ⟨this.1, by omega⟩
@[simp] theorem rng_len (a b : Int) : (rng a b).length = (b - a).toNat := by simp [rng]
/-- one item of a list comprehension -/
def lc1 (t : Tg) (c : TV) (f : EV) (e : Env) (d : D) : Option (Option D) := match tgt t d e with
  | some e1 => (match c e1 with
    | .ok true e2 => (match f e2 with
      | .ok r e3 => (match stl r e3 with
        | some (x, _) => some (some x)
        | none => none)
      | _ => none)
    | .ok false _ => some none
    | _ => none)
  | none => none
theorem lcL_fm {α : Type} {t : Tg} {c : TV} {f : EV} {l : List α} {mk : α → D} {e : Env} (G : α → Option D) (h : ∀ a ∈ l, lc1 t c f e (mk a) = some (G a)) {acc : List D} : lcL t c f (l.map mk) e acc = some (acc ++ l.filterMap G) := by
  induction l generalizing acc with
  | nil => simp [lcL]
  | cons a l ih =>
    have h1 := h a List.mem_cons_self
    have h2 := fun acc => ih (fun b hb => h b (List.mem_cons_of_mem _ hb)) (acc := acc)
    rw [List.map_cons]
    unfold lc1 at h1
    unfold lcL
    cases q1 : tgt t (mk a) e with
    | none => rw [q1] at h1; cases h1
    | some e1 =>
      rw [q1] at h1
      dsimp only at h1 ⊢
      cases q2 : c e1 with
      | no => rw [q2] at h1; cases h1
      | ex x e2 => rw [q2] at h1; cases h1
      | ok b e2 =>
        rw [q2] at h1
        cases b with
        | false =>
          dsimp only at h1 ⊢
          rw [h2, List.filterMap_cons, ← Option.some.inj h1]
        | true =>
          dsimp only at h1 ⊢
          cases q3 : f e2 with
          | no => rw [q3] at h1; cases h1
          | ex x e3 => rw [q3] at h1; cases h1
          | ok r e3 =>
            rw [q3] at h1
            dsimp only at h1 ⊢
            cases q4 : stl r e3 with
            | none => rw [q4] at h1; cases h1
            | some p =>
              obtain ⟨x, e4⟩ := p
              rw [q4] at h1
              dsimp only at h1 ⊢
              rw [h2, List.filterMap_cons, ← Option.some.inj h1]
              simp
theorem lcL_mp {α : Type} {t : Tg} {c : TV} {f : EV} {l : List α} {mk : α → D} {e : Env} (G : α → D) (h : ∀ a ∈ l, lc1 t c f e (mk a) = some (some (G a))) {acc : List D} : lcL t c f (l.map mk) e acc = some (acc ++ l.map G) := by
  rw [lcL_fm (fun a => some (G a)) h, ← List.filterMap_eq_map]
  rfl
theorem eLc_ok {own : List Nat} {t : Tg} {w : WV} {c : TV} {f : EV} {e e1 : Env} {xs ys : List D} (hw : w e = .ok xs e1) (hl : lcL t c f xs (wipeE (lock e1) own) [] = some ys) (hz : xs.length ≤ 16777216) : eLc own t w c f e = .ok (.nw (.lst ys)) e1 := by
  unfold eLc
  rw [hw]
  dsimp only
  rw [hl]
  dsimp only
  rw [if_pos hz]
theorem lcL_rng {t : Tg} {c : TV} {f : EV} {a b : Int} {e : Env} (G : Nat → D) (h : ∀ i : Nat, (i : Int) < b - a → lc1 t c f e (.int (a + (i : Int))) = some (some (G i))) : lcL t c f (rng a b) e [] = some ((List.range (b - a).toNat).map G) := by
  unfold rng
  rw [lcL_mp (mk := fun i : Nat => D.int (a + (i : Int))) G (fun i hi => h i (by have := List.mem_range.mp hi; omega)), List.nil_append]
theorem run_is {T : Def} {phi : String → List D → RC} {ds : List D} (h : ds.length = T.ms.length) : T.run phi ds = finish T.ms (T.body phi (startE T.ms ds T.n)) := if_pos h
theorem opPow_i (i j : Int) : opPow (.int i) (.int j) = if 0 ≤ j ∧ j ≤ 1000000 ∧ i.natAbs < 2 ^ 64 then some (.fz (.int (i ^ j.toNat))) else none := rfl
theorem okD_ints (n : Nat) (ps : List Int) : okD (n + 1) (.lst (ps.map .int)) = true := by
  show (ps.map D.int).all (okD n) = true
  rw [List.all_map, List.all_eq_true]
  intro p _
  cases n <;> rfl
theorem opEq_nil (ps : List Int) : opEq (.lst (ps.map .int)) (.lst []) = some (.fz (.bl ps.isEmpty)) := by
  unfold opEq dEq
  rw [okD_ints 5]
  show bRV (some (PyData.eqv (.list ((ps.map D.int).map (py 5))) (.list []))) = _
  cases ps <;> simp [PyData.eqv, PyData.eqvAll]
end S3

/-! P2: kinds of plain data whose == is =; slices; what walks of lists give. -/
namespace S3
open PySem
class Enc (α : Type) [DecidableEq α] where
  enc : α → D
  pd : α → PyData
  dep : Nat
  ok : ∀ a n, dep ≤ n → okD n (enc a) = true
  pyE : ∀ a n, dep ≤ n → py n (enc a) = pd a
  eqv : ∀ a b, PyData.eqv (pd a) (pd b) = decide (a = b)
abbrev enc {α : Type} [DecidableEq α] [Enc α] : α → D := Enc.enc
theorem eqvAll_map {α : Type} [DecidableEq α] [Enc α] (l m : List α) : PyData.eqvAll (l.map Enc.pd) (m.map Enc.pd) = decide (l = m) := by
  induction l generalizing m with
  | nil => cases m <;> simp [PyData.eqvAll]
  | cons a l ih =>
    cases m with
    | nil => simp [PyData.eqvAll]
    | cons b m =>
      simp only [List.map_cons, PyData.eqvAll]
      rw [ih, Enc.eqv]
      by_cases h1 : a = b <;> by_cases h2 : l = m <;> simp [h1, h2]
instance : Enc Str where
  enc := .str
  pd := .str
  dep := 0
  ok := fun a n _ => by cases n <;> rfl
  pyE := fun a n _ => by cases n <;> rfl
  eqv := fun a b => by
    by_cases h : a = b
    · subst h; simp [PyData.eqv]
    · simp [PyData.eqv, h]
instance : Enc Int where
  enc := .int
  pd := .int
  dep := 0
  ok := fun a n _ => by cases n <;> rfl
  pyE := fun a n _ => by cases n <;> rfl
  eqv := fun a b => py_ii a b
instance {α β : Type} [DecidableEq α] [DecidableEq β] [Enc α] [Enc β] : Enc (α × β) where
  enc := fun p => .tup [enc p.1, enc p.2]
  pd := fun p => .tuple [Enc.pd p.1, Enc.pd p.2]
  dep := max (Enc.dep α) (Enc.dep β) + 1
  ok := fun a n h => by
    cases n with
    | zero => omega
    | succ n =>
      show [enc a.1, enc a.2].all (okD n) = true
      simp [Enc.ok a.1 n (by omega), Enc.ok a.2 n (by omega)]
  pyE := fun a n h => by
    cases n with
    | zero => omega
    | succ n =>
      show PyData.tuple ([enc a.1, enc a.2].map (py n)) = _
      simp [Enc.pyE a.1 n (by omega), Enc.pyE a.2 n (by omega)]
  eqv := fun a b => by
    obtain ⟨a1, a2⟩ := a
    obtain ⟨b1, b2⟩ := b
    simp only [PyData.eqv, PyData.eqvAll, Enc.eqv]
    by_cases h1 : a1 = b1 <;> by_cases h2 : a2 = b2 <;> simp [h1, h2]
instance {α : Type} [DecidableEq α] [Enc α] : Enc (List α) where
  enc := fun l => .lst (l.map enc)
  pd := fun l => .list (l.map Enc.pd)
  dep := Enc.dep α + 1
  ok := fun a n h => by
    cases n with
    | zero => omega
    | succ n =>
      show (a.map enc).all (okD n) = true
      rw [List.all_map, List.all_eq_true]
      exact fun x _ => Enc.ok x n (by omega)
  pyE := fun a n h => by
    cases n with
    | zero => omega
    | succ n =>
      show PyData.list ((a.map enc).map (py n)) = _
      rw [List.map_map]
      congr 1
      exact List.map_congr_left fun x _ => Enc.pyE x n (by omega)
  eqv := fun a b => by
    show PyData.eqvAll (a.map Enc.pd) (b.map Enc.pd) = _
    exact eqvAll_map a b
section
variable {α : Type} [DecidableEq α] [Enc α]
theorem dEq_enc (a b : α) (h : Enc.dep α ≤ 6) : dEq (enc a) (enc b) = some (decide (a = b)) := by
  unfold dEq
  rw [Enc.ok a 6 h, Enc.ok b 6 h, Enc.pyE a 6 h, Enc.pyE b 6 h, Enc.eqv]
  rfl
theorem opEq_enc (a b : α) (h : Enc.dep α ≤ 6 := by decide) : opEq (enc a) (enc b) = some (.fz (.bl (decide (a = b)))) := by
  unfold opEq; rw [dEq_enc a b h]; rfl
theorem opNe_enc (a b : α) (h : Enc.dep α ≤ 6 := by decide) : opNe (enc a) (enc b) = some (.fz (.bl (!decide (a = b)))) := by
  unfold opNe; rw [dEq_enc a b h]; rfl
end
/-! lists and sets of strings -/
def strL (xs : List Str) : List D := xs.map .str
theorem strL_len (xs : List Str) : (strL xs).length = xs.length := List.length_map _
/-! C4..C6's words -/
@[simp] theorem aStar_e {f : EV} {g : AV} {e : Env} : aStar f g e = match f e with
  | .ok r e1 => (match (rd r e1).bind seqI with
    | some xs => (match g e1 with
      | .ok rs e2 => .ok (xs.map .fz ++ rs) e2
      | .ex x e2 => .ex x e2
      | .no => .no)
    | none => .no)
  | .ex x e1 => .ex x e1
  | .no => .no := rfl
@[simp] theorem seqI_l (xs : List D) : seqI (.lst xs) = some xs := rfl
@[simp] theorem seqI_t (xs : List D) : seqI (.tup xs) = some xs := rfl
theorem fzs_app (xs : List D) (rs : List RV) : fzs (xs.map .fz ++ rs) = (fzs rs).map (xs ++ ·) := by
  induction xs with
  | nil => simp
  | cons x xs ih =>
    rw [List.map_cons, List.cons_append, fzs_cons, ih, Option.map_map]
    rfl
@[simp] theorem sPutL_e {i : Nat} {f g : EV} {e : Env} : sPutL i f g e = match f e with
  | .ok r e0 => (match stl r e0 with
    | some (v, e1) => if mine isLst (slot e1 i) then (match g e1 with
      | .ok q e2 => (match rd q e2 with
        | some y => if mine isLst (slot e2 i) then (match (slot e2 i).val with
          | some d => (match mPutL d y v with
            | some d' => .nx (e2.set i (reown (slot e2 i) d'))
            | none => .no)
          | none => .no) else .no
        | none => .no)
      | .ex x e1 => .ex x e1
      | .no => .no) else .no
    | none => .no)
  | .ex x e1 => .ex x e1
  | .no => .no := rfl
end S3

/-! P3: triples; own instances; what comprehensions over dicts, sets, two clauses give. -/
namespace S3
open PySem
structure Tri where
  a : Str
  b : Str
  c : Str
deriving DecidableEq
instance : Enc Tri where
  enc := fun p => .tup [.str p.a, .str p.b, .str p.c]
  pd := fun p => .tuple [.str p.a, .str p.b, .str p.c]
  dep := 1
  ok := fun a n h => by
    cases n with
    | zero => omega
    | succ n => show [D.str a.a, .str a.b, .str a.c].all (okD n) = true; cases n <;> rfl
  pyE := fun a n h => by
    cases n with
    | zero => omega
    | succ n => show PyData.tuple ([D.str a.a, .str a.b, .str a.c].map (py n)) = _; cases n <;> rfl
  eqv := fun x y => by
    obtain ⟨a1, a2, a3⟩ := x
    obtain ⟨b1, b2, b3⟩ := y
    simp only [PyData.eqv, PyData.eqvAll]
    by_cases h1 : a1 = b1 <;> by_cases h2 : a2 = b2 <;> by_cases h3 : a3 = b3 <;> simp [h1, h2, h3]
section
variable {e : Env} {f g : EV}
@[simp] theorem noMut_nil : noMut [] = true := rfl
@[simp] theorem noMut_r (ms : List Md) : noMut (.r :: ms) = noMut ms := rfl
@[simp] theorem noMut_v (ms : List Md) : noMut (.v :: ms) = noMut ms := rfl
end
/-! ### dicts -/
section
variable {κ : Type} [DecidableEq κ]
end
/-! ### comprehensions -/
def dc1 (t : Tg) (c : TV) (f g : EV) (e : Env) (d : D) : Option (Option (Key × D)) := match tgt t d e with
  | some e1 => (match c e1 with
    | .ok true e2 => (match f e2 with
      | .ok r e3 => (match (rd r e3).bind toKey with
        | some k => (match g e3 with
          | .ok q e4 => (match stl q e4 with
            | some (x, _) => some (some (k, x))
            | none => none)
          | _ => none)
        | none => none)
      | _ => none)
    | .ok false _ => some none
    | _ => none)
  | none => none
/-! ### sets of tuples -/
end S3

/-! P4: reckoning with deep trees; what their comprehensions give. -/
namespace S3
open PySem
section
variable {e : Env} {f g k a : EV} {p : PV}
@[simp] theorem chd_fz (d : D) : chd (.fz d) e = some (d, e) := rfl
@[simp] theorem chd_lst (xs : List D) : chd (.nw (.lst xs)) e = some (.ob (.lst xs), e) := rfl
@[simp] theorem chd_dk (xs : List (Key × D)) : chd (.nw (.dk xs)) e = some (.ob (.dk xs), e) := rfl
@[simp] theorem chd_obj (c : Str) (xs : List (Str × D)) : chd (.nw (.obj c xs)) e = some (.ob (.obj c xs), e) := rfl
@[simp] theorem chd_dn (d : D) : chd (.dn d) e = some (.ob d, e) := rfl
@[simp] theorem chd_at (i : Nat) : chd (.at i) e = stl (.at i) e := rfl
@[simp] theorem setDpE_e (i : Nat) (d : D) : setDpE e i d = match slot e i with | .dp g _ => e.set i (.dp g d) | _ => e := rfl
@[simp] theorem stl_dn (d : D) : stl (.dn d) e = some (d.sbT, e) := rfl
@[simp] theorem ret_dn (d : D) : ret (.dn d) e = .rt (.dn d) e := rfl
@[simp] theorem setS_dn (i : Nat) (d : D) : setS i (.dn d) e = some (e.set i (.dp true d)) := rfl
@[simp] theorem notOb_int (i : Int) : notOb (.int i) = true := rfl
@[simp] theorem notOb_str (i : Str) : notOb (.str i) = true := rfl
@[simp] theorem view_nil : view [] = [] := rfl
@[simp] theorem view_cons (s : Sl) (e : Env) : view (s :: e) = s.view :: view e := rfl
@[simp] theorem vw_fz (d : D) : (Sl.fz d).view = .fz d := rfl
@[simp] theorem vw_ow (d : D) : (Sl.ow d).view = .bo d := rfl
@[simp] theorem vw_mu (d : D) : (Sl.mu d).view = .bo d := rfl
@[simp] theorem vw_bo (d : D) : (Sl.bo d).view = .bo d := rfl
@[simp] theorem vw_no : (Sl.no).view = .no := rfl
@[simp] theorem vw_dp (g : Bool) (d : D) : (Sl.dp g d).view = .fz d.sbT := rfl
@[simp] theorem leafD_str (x : Str) : leafD (.str x) = true := rfl
@[simp] theorem leafD_int (x : Int) : leafD (.int x) = true := rfl
@[simp] theorem leafD_bl (x : Bool) : leafD (.bl x) = true := rfl
@[simp] theorem leafD_non : leafD .non = true := rfl
@[simp] theorem eLeaf_e : eLeaf f e = match f (view e) with
  | .ok r e1 => (match rd r e1 with
    | some d => if leafD d then .ok (.fz d) e else .no
    | none => .no)
  | _ => .no := rfl
end
/-! ### deep dict comprehensions -/
end S3

namespace S3
open PySem L2
/-! ### the defs as terms -/
def b__missed (phi : String → List D → RC) : SV :=
 sSeq (sSet 2 (eC .non)) (sSeq (sFor [3, 4, 5] (.tup [3, 4]) (wEnum (eSlot 0)) (sIf (tNotS (tTru (eOp1 opAny (eLc [5] (.one 5) (wAny (eSlot 4)) (tYesS) (eOp2 opIn (eSlot 5) (eSlot 1)))))) (sIf (tOrS (tVal (eOp2 opIs (eSlot 2) (eC .non))) (tVal (eOp2 opLt (eOp1 opLen (eSlot 4)) (eOp1 opLen (eOp2 opIx (eSlot 0) (eSlot 2)))))) (sSet 2 (eSlot 3)) (sNx)) (sNx))) (sRet (eSlot 2)))
def T__missed : Def := ⟨[.r, .r], 6, b__missed⟩

def b__covering (phi : String → List D → RC) : SV :=
 sSeq (sSet 3 (eCall (phi "_missed") [.r, .r] (aCons (eSlot 0) (aCons (eSlot 2) (aNil))))) (sSeq (sIf (tVal (eOp2 opIs (eSlot 3) (eC .non))) (sRet (eSlot 2)) (sNx)) (sSeq (sIf (tVal (eOp2 opGt (eSlot 1) (eC (.int 0)))) (sFor [4, 5] (.one 4) (wAny (eOp2 opIx (eSlot 0) (eSlot 3))) (sSeq (sSet 5 (eCall (phi "_covering") [.r, .r, .v] (aCons (eSlot 0) (aCons (eOp2 opSub (eSlot 1) (eC (.int 1))) (aKeep (eDisp mkLst (aStar (eSlot 2) (aKeep (eSlot 4) (aNil)))) (aNil)))))) (sIf (tVal (eOp2 opIsNot (eSlot 5) (eC .non))) (sRet (eSlot 5)) (sNx)))) (sNx)) (sRet (eC .non))))
def T__covering : Def := ⟨[.r, .r, .v], 6, b__covering⟩

def b__refuted (phi : String → List D → RC) : SV :=
 sSeq (sSet 3 (eCall (phi "_missed") [.r, .r] (aCons (eSlot 0) (aCons (eSlot 2) (aNil))))) (sSeq (sIf (tVal (eOp2 opEq (eSlot 1) (eC (.int 0)))) (sRet (eDispO D.tup [eSlot 3, eDisp mkLst (aNil)])) (sNx)) (sRet (eDispO D.tup [eSlot 3, eLcO [4] (.one 4) (wAny (eOp2 opIx (eSlot 0) (eSlot 3))) (tYesS) (eDispO D.tup [eSlot 4, eCall (phi "_refuted") [.r, .r, .r] (aCons (eSlot 0) (aCons (eOp2 opSub (eSlot 1) (eC (.int 1))) (aCons (eDisp mkLst (aStar (eSlot 2) (aKeep (eSlot 4) (aNil)))) (aNil))))])])))
def T__refuted : Def := ⟨[.r, .r, .r], 5, b__refuted⟩

def b_refutation (phi : String → List D → RC) : SV :=
 sSeq (sIf (tVal (eOp2 opIsNot (eCall (phi "_covering") [.r, .r, .v] (aCons (eSlot 0) (aCons (eSlot 1) (aKeep (eDisp mkLst (aNil)) (aNil))))) (eC .non))) (sRet (eC .non)) (sNx)) (sRet (eCall (phi "_refuted") [.r, .r, .r] (aCons (eSlot 0) (aCons (eSlot 1) (aCons (eDisp mkLst (aNil)) (aNil))))))
def T_refutation : Def := ⟨[.r, .r], 2, b_refutation⟩

def b__law_draws_of (phi : String → List D → RC) : SV :=
 sSeq (sSet 1 (eDisp mkLst (aNil))) (sSeq (sFor [2, 3, 4] (.one 2) (wAny (eSlot 0)) (sIf (tVal (eOp2 opLt (eOp1 opLen (eSlot 1)) (eC (.int 72)))) (sSeq (sSet 3 (eOp1 opAbs (eOp1 opInt (eSlot 2)))) (sIf (tVal (eOp2 opLt (eSlot 3) (eOp2 opPow (eC (.int 10)) (eC (.int 18))))) (sFor [4] (.one 4) (wR1 (eC (.int 3))) (sSeq (sSet 3 (eOp2 opMod (eOp1 opInt (eOp2 opAdd (eOp2 opAdd (eOp2 opMul (eSlot 3) (eC (.int 30011))) (eOp2 opMul (eC (.int 7919)) (eSlot 4))) (eC (.int 977)))) (eC (.int 65521)))) (sExpr (eMut 1 isLst mAppend (aKeep (eSlot 3) (aNil)))))) (sFor [4] (.one 4) (wR1 (eC (.int 60))) (sIf (tVal (eOp2 opGt (eSlot 3) (eC (.int 0)))) (sSeq (sExpr (eMut 1 isLst mAppend (aKeep (eOp2 opMod (eOp1 opInt (eSlot 3)) (eC (.int 65536))) (aNil)))) (sSet 3 (eOp2 opDiv (eSlot 3) (eC (.int 65536))))) (sNx))))) (sNx))) (sSeq (sIf (tVal (eOp2 opEq (eSlot 1) (eDisp mkLst (aNil)))) (sSet 1 (eDisp mkLst (aKeep (eC (.int 2)) (aKeep (eC (.int 10)) (aKeep (eC (.int 1)) (aKeep (eC (.int 0)) (aKeep (eC (.int 4)) (aKeep (eC (.int 0)) (aKeep (eC (.int 1052)) (aKeep (eC (.int 0)) (aKeep (eC (.int 148)) (aKeep (eC (.int 26)) (aKeep (eC (.int 132)) (aKeep (eC (.int 0)) (aKeep (eC (.int 20)) (aNil)))))))))))))))) (sNx)) (sRet (eSlot 1))))
def T__law_draws_of : Def := ⟨[.r], 5, b__law_draws_of⟩

def b__law_nth (phi : String → List D → RC) : SV :=
 sSeq (sIf (tVal (eOp2 opLt (eSlot 1) (eOp1 opLen (eSlot 0)))) (sRet (eOp2 opIx (eSlot 0) (eSlot 1))) (sNx)) (sRet (eOp2 opMod (eOp1 opInt (eOp2 opAdd (eOp2 opMul (eOp2 opIx (eSlot 0) (eOp2 opMod (eSlot 1) (eOp1 opLen (eSlot 0)))) (eC (.int 31))) (eOp2 opMul (eSlot 1) (eC (.int 7919))))) (eC (.int 65521))))
def T__law_nth : Def := ⟨[.r, .r], 2, b__law_nth⟩

def b__law_named (phi : String → List D → RC) : SV :=
 sSeq (sSet 2 (eOp2 opIx (eC (.str "abcdefghijklmnopqrstuvwxyz")) (eOp2 opMod (eOp1 opInt (eOp2 opAdd (eOp2 opMul (eSlot 0) (eC (.int 7))) (eOp2 opDiv (eSlot 1) (eC (.int 4))))) (eC (.int 26))))) (sSeq (sSet 3 (eOp2 opMod (eOp1 opInt (eSlot 1)) (eC (.int 4)))) (sSeq (sIf (tAndS (tVal (eOp2 opEq (eSlot 3) (eC (.int 1)))) (tVal (eOp2 opEq (eOp2 opMod (eOp2 opDiv (eOp1 opInt (eSlot 1)) (eC (.int 4))) (eC (.int 2))) (eC (.int 1))))) (sSeq (sSet 4 (eDisp mkLst (aKeep (eC (.str "write")) (aKeep (eC (.str "none")) (aKeep (eC (.str "read")) (aKeep (eC (.str "own")) (aKeep (eC (.str "close")) (aKeep (eC (.str "leads")) (aKeep (eC (.str "program")) (aKeep (eC (.str "to")) (aKeep (eC (.str "begin")) (aKeep (eC (.str "quit")) (aNil))))))))))))) (sRet (eOp2 opAdd (eOp2 opIx (eSlot 4) (eOp2 opMod (eOp1 opInt (eSlot 0)) (eC (.int 10)))) (eOp2 opMul (eC (.str "2")) (eOp2 opDiv (eOp1 opInt (eSlot 0)) (eC (.int 10))))))) (sNx)) (sSeq (sIf (tAndS (tVal (eOp2 opEq (eSlot 3) (eC (.int 3)))) (tVal (eOp2 opEq (eOp2 opMod (eOp2 opDiv (eOp1 opInt (eSlot 1)) (eC (.int 4))) (eC (.int 2))) (eC (.int 1))))) (sRet (eOp2 opAdd (eOp2 opMul (eC (.str "b")) (eOp2 opDiv (eOp1 opInt (eSlot 0)) (eC (.int 7)))) (eOp2 opMul (eC (.str "a")) (eOp2 opAdd (eOp2 opMod (eOp1 opInt (eSlot 0)) (eC (.int 7))) (eC (.int 1)))))) (sNx)) (sSeq (sIf (tVal (eOp2 opEq (eSlot 3) (eC (.int 1)))) (sRet (eOp2 opAdd (eOp2 opMul (eC (.str "q")) (eOp2 opMod (eOp1 opInt (eSlot 0)) (eC (.int 3)))) (eSlot 2))) (sNx)) (sSeq (sIf (tVal (eOp2 opEq (eSlot 3) (eC (.int 2)))) (sSeq (sSet 5 (eOp2 opAdd (eSlot 2) (eOp1 opStr (eOp2 opMod (eOp1 opInt (eOp2 opDiv (eSlot 1) (eC (.int 4)))) (eC (.int 10000)))))) (sSeq (sIf (tVal (eOp2 opEq (eOp2 opMod (eOp1 opInt (eSlot 0)) (eC (.int 4))) (eC (.int 3)))) (sRet (eOp2 opAdd (eSlot 5) (eOp2 opMul (eC (.str "x")) (eOp2 opSub (eC (.int 8)) (eOp1 opLen (eSlot 5)))))) (sNx)) (sRet (eOp2 opAdd (eSlot 5) (eOp2 opMul (eC (.str "x")) (eOp2 opMod (eOp1 opInt (eSlot 0)) (eC (.int 4)))))))) (sNx)) (sSeq (sIf (tVal (eOp2 opEq (eSlot 3) (eC (.int 3)))) (sRet (eOp2 opAdd (eC (.str "m")) (eOp1 opStr (eOp2 opSub (eC (.int 100)) (eOp2 opMul (eC (.int 7)) (eSlot 0)))))) (sNx)) (sRet (eSlot 2))))))))
def T__law_named : Def := ⟨[.r, .r], 6, b__law_named⟩

def b__law_picked (phi : String → List D → RC) : SV :=
 sSeq (sSet 3 (eDisp mkLst (aNil))) (sSeq (sFor [4] (.one 4) (wR1 (eSlot 1)) (sIf (tVal (eOp2 opEq (eOp2 opMod (eOp1 opInt (eOp2 opShr (eSlot 0) (eSlot 4))) (eC (.int 2))) (eC (.int 1)))) (sExpr (eMut 3 isLst mAppend (aKeep (eCall (phi "_law_named") [.r, .r] (aCons (eSlot 4) (aCons (eSlot 2) (aNil)))) (aNil)))) (sNx))) (sRet (eSlot 3)))
def T__law_picked : Def := ⟨[.r, .v, .r], 5, b__law_picked⟩

def b__law_groups_of (phi : String → List D → RC) : SV :=
 sSeq (sSet 4 (eDisp mkLst (aNil))) (sSeq (sFor [5, 6, 7] (.one 5) (wR1 (eOp2 opMod (eOp1 opInt (eOp2 opIx (eSlot 0) (eC (.int 1)))) (eOp2 opAdd (eSlot 3) (eC (.int 1))))) (sSeq (sSet 6 (eCall (phi "_law_nth") [.r, .r] (aCons (eSlot 0) (aCons (eOp2 opAdd (eC (.int 3)) (eSlot 5)) (aNil))))) (sSeq (sSet 7 (eCall (phi "_law_picked") [.r, .v, .r] (aCons (eSlot 6) (aKeep (eSlot 1) (aCons (eSlot 2) (aNil)))))) (sSeq (sIf (tVal (eOp2 opEq (eOp2 opMod (eOp2 opDiv (eOp1 opInt (eSlot 6)) (eC (.int 1024))) (eC (.int 2))) (eC (.int 1)))) (sSet 7 (eOp1 opRev (eSlot 7))) (sNx)) (sIf (tVal (eOp2 opNe (eSlot 7) (eDisp mkLst (aNil)))) (sExpr (eMut 4 isLst mAppend (aKeep (eSlot 7) (aNil)))) (sNx)))))) (sRet (eSlot 4)))
def T__law_groups_of : Def := ⟨[.r, .v, .r, .r], 8, b__law_groups_of⟩

def b__law_hits (phi : String → List D → RC) : SV :=
 sSeq (sFor [2, 3, 4] (.one 2) (wAny (eSlot 1)) (sSeq (sSet 3 (eC (.bl false))) (sSeq (sFor [4] (.one 4) (wAny (eSlot 2)) (sIf (tVal (eOp2 opIn (eSlot 4) (eSlot 0))) (sSet 3 (eC (.bl true))) (sNx))) (sIf (tNotS (tTru (eSlot 3))) (sRet (eC (.bl false))) (sNx))))) (sRet (eC (.bl true)))
def T__law_hits : Def := ⟨[.r, .r], 5, b__law_hits⟩

def b__law_least (phi : String → List D → RC) : SV :=
 sSeq (sSet 3 (eSlot 1)) (sSeq (sFor [4, 5] (.one 4) (wR1 (eC (.int 128))) (sIf (tVal (eOp2 opEq (eOp1 opInt (eOp2 opShr (eSlot 4) (eSlot 1))) (eC (.int 0)))) (sSeq (sSet 5 (eCall (phi "_law_picked") [.r, .v, .r] (aCons (eSlot 4) (aKeep (eSlot 1) (aCons (eSlot 2) (aNil)))))) (sIf (tAndS (tVal (eOp2 opLt (eOp1 opLen (eSlot 5)) (eSlot 3))) (tTru (eCall (phi "_law_hits") [.r, .r] (aCons (eSlot 5) (aCons (eSlot 0) (aNil)))))) (sSet 3 (eOp1 opLen (eSlot 5))) (sNx))) (sNx))) (sRet (eSlot 3)))
def T__law_least : Def := ⟨[.r, .v, .r], 6, b__law_least⟩

def b__law_refutes (phi : String → List D → RC) : SV :=
 sGive (sSeq (sIf (tLeaf (tOrS (tNotS (tTru (eOp1 (opIsTy "tuple") (eSlot 0)))) (tOrS (tVal (eOp2 opNe (eOp1 opLen (eSlot 0)) (eC (.int 2)))) (tNotS (tTru (eOp1 (opIsTy "list") (eOp2 opIx (eSlot 0) (eC (.int 1))))))))) (sRet (eC (.bl false))) (sNx)) (sSeq (sIf (tLeaf (tOrS (tNotS (tTru (eOp1 (opIsTy "int") (eOp2 opIx (eSlot 0) (eC (.int 0)))))) (tTru (eOp1 (opIsTy "bool") (eOp2 opIx (eSlot 0) (eC (.int 0))))))) (sRet (eC (.bl false))) (sNx)) (sSeq (sIf (tLeaf (tOrS (tVal (eOp2 opLt (eOp2 opIx (eSlot 0) (eC (.int 0))) (eC (.int 0)))) (tVal (eOp2 opGe (eOp2 opIx (eSlot 0) (eC (.int 0))) (eOp1 opLen (eSlot 1)))))) (sRet (eC (.bl false))) (sNx)) (sSeq (sSet 4 (eOp2 opIx (eSlot 1) (eLeafT (eOp2 opIx (eSlot 0) (eC (.int 0)))))) (sSeq (sIf (tTru (eCall (phi "_law_hits") [.r, .r] (aCons (eSlot 3) (aCons (eDisp mkLst (aKeep (eSlot 4) (aNil))) (aNil))))) (sRet (eC (.bl false))) (sNx)) (sSeq (sIf (tVal (eOp2 opEq (eSlot 2) (eC (.int 0)))) (sSeq (sIf (tLeaf (tVal (eOp2 opNe (eOp2 opIx (eSlot 0) (eC (.int 1))) (eDisp mkLst (aNil))))) (sRet (eC (.bl false))) (sNx)) (sSeq (sExpr (eAppP (pIx (pSlot 0) (eC (.int 1))) (eC (.str "zz9")))) (sRet (eC (.bl true))))) (sNx)) (sSeq (sIf (tLeaf (tVal (eOp2 opNe (eOp1 opLen (eOp2 opIx (eSlot 0) (eC (.int 1)))) (eOp1 opLen (eSlot 4))))) (sRet (eC (.bl false))) (sNx)) (sSeq (sFor [5, 6] (.one 5) (wR1 (eOp1 opLen (eSlot 4))) (sSeq (sTakeP 6 (pIx (pSlot 0) (eC (.int 1))) (eSlot 5)) (sSeq (sIf (tLeaf (tOrS (tNotS (tTru (eOp1 (opIsTy "tuple") (eSlot 6)))) (tOrS (tVal (eOp2 opNe (eOp1 opLen (eSlot 6)) (eC (.int 2)))) (tVal (eOp2 opNe (eOp2 opIx (eSlot 6) (eC (.int 0))) (eOp2 opIx (eSlot 4) (eSlot 5))))))) (sRet (eC (.bl false))) (sNx)) (sIf (tNotS (tTru (eCallD (phi "_law_refutes") (gPt (pSlot 6) (eC (.int 1))) [.sl 1, .ev (eOp2 opSub (eSlot 2) (eC (.int 1))), .ev (eOp2 opAdd (eSlot 3) (eDisp mkLst (aKeep (eOp2 opIx (eSlot 4) (eSlot 5)) (aNil))))]))) (sRet (eC (.bl false))) (sNx))))) (sSeq (sExpr (eAppP (pIx (pSlot 0) (eC (.int 1))) (eC (.str "zz9")))) (sRet (eC (.bl true))))))))))))
def T__law_refutes : Def := ⟨[.v, .r, .r, .r], 7, b__law_refutes⟩

def b__law_wide_right (phi : String → List D → RC) : SV :=
 sSeq (sSet 2 (eLc [3] (.one 3) (wAny (eSlot 0)) (tYesS) (eDisp mkLst (aKeep (eSlot 3) (aNil))))) (sSeq (sIf (tVal (eOp2 opIsNot (eCall (phi "refutation") [.r, .r] (aCons (eSlot 2) (aCons (eC (.int 8)) (aNil)))) (eC .non))) (sRet (eC (.bl false))) (sNx)) (sSeq (sIf (tNotS (tTru (eCallD (phi "_law_refutes") (gEx (eCall (phi "refutation") [.r, .r] (aCons (eSlot 2) (aCons (eC (.int 7)) (aNil))))) [.ev (eLc [3] (.one 3) (wAny (eSlot 0)) (tYesS) (eDisp mkLst (aKeep (eSlot 3) (aNil)))), .ev (eC (.int 7)), .ev (eDisp mkLst (aNil))]))) (sRet (eC (.bl false))) (sNx)) (sSeq (sSet 4 (eLc [5] (.one 5) (wR1 (eC (.int 48))) (tYesS) (eOp1 opRev (eOp2 opCutHi (eSlot 0) (eI (eC (.int 7))))))) (sSeq (sPutL 4 (eOp2 opCutLo (eSlot 0) (eI (eC (.int 7)))) (eSlot 1)) (sSeq (sIf (tVal (eOp2 opIsNot (eCall (phi "refutation") [.r, .r] (aCons (eLc [6] (.one 6) (wAny (eSlot 4)) (tYesS) (eOp1 opList (eSlot 6))) (aCons (eC (.int 2)) (aNil)))) (eC .non))) (sRet (eC (.bl false))) (sNx)) (sRet (eCallD (phi "_law_refutes") (gEx (eCall (phi "refutation") [.r, .r] (aCons (eLc [6] (.one 6) (wAny (eSlot 4)) (tYesS) (eOp1 opList (eSlot 6))) (aCons (eC (.int 1)) (aNil))))) [.sl 4, .ev (eC (.int 1)), .ev (eDisp mkLst (aNil))])))))))
def T__law_wide_right : Def := ⟨[.r, .v], 7, b__law_wide_right⟩

def b_law (phi : String → List D → RC) : SV :=
 sSeq (sSet 1 (eCall (phi "_law_draws_of") [.r] (aCons (eSlot 0) (aNil)))) (sSeq (sSet 2 (eOp2 opAdd (eC (.int 1)) (eOp2 opMod (eOp1 opInt (eOp2 opIx (eSlot 1) (eC (.int 0)))) (eC (.int 6))))) (sSeq (sSet 3 (eOp2 opDiv (eOp1 opInt (eOp2 opIx (eSlot 1) (eC (.int 0)))) (eC (.int 6)))) (sSeq (sIf (tNotS (tTru (eCall (phi "_law_wide_right") [.r, .v] (aCons (eLc [4] (.one 4) (wR1 (eC (.int 8))) (tYesS) (eCall (phi "_law_named") [.r, .r] (aCons (eSlot 4) (aCons (eSlot 3) (aNil))))) (aKeep (eOp2 opMod (eOp1 opInt (eOp2 opIx (eSlot 1) (eC (.int 2)))) (eC (.int 48))) (aNil)))))) (sRet (eC (.bl false))) (sNx)) (sSeq (sSet 5 (eCall (phi "_law_groups_of") [.r, .v, .r, .r] (aCons (eSlot 1) (aKeep (eSlot 2) (aCons (eSlot 3) (aCons (eC (.int 8)) (aNil))))))) (sSeq (sSet 6 (eCall (phi "_law_least") [.r, .v, .r] (aCons (eSlot 5) (aKeep (eSlot 2) (aCons (eSlot 3) (aNil)))))) (sSeq (sFor [7, 8, 9, 10, 11] (.one 7) (wR1 (eOp2 opAdd (eSlot 2) (eC (.int 2)))) (sFor [8, 9, 10, 11] (.one 8) (wR1 (eC (.int 2))) (sSeq (sSet 9 (eLc [11] (.one 11) (wAny (eSlot 5)) (tYesS) (eOp1 opList (eSlot 11)))) (sSeq (sSet 10 (eCall (phi "refutation") [.r, .r] (aCons (eSlot 9) (aCons (eSlot 7) (aNil))))) (sSeq (sIf (tVal (eOp2 opNe (eSlot 9) (eSlot 5))) (sRet (eC (.bl false))) (sNx)) (sSeq (sIf (tLeaf (tAndS (tVal (eOp2 opGe (eSlot 7) (eSlot 6))) (tVal (eOp2 opIsNot (eSlot 10) (eC .non))))) (sRet (eC (.bl false))) (sNx)) (sIf (tAndS (tVal (eOp2 opLt (eSlot 7) (eSlot 6))) (tNotS (tTru (eCallD (phi "_law_refutes") (gSl 10) [.sl 5, .sl 7, .ev (eDisp mkLst (aNil))])))) (sRet (eC (.bl false))) (sNx)))))))) (sRet (eC (.bl true)))))))))
def T_law : Def := ⟨[.v], 12, b_law⟩

def tab : String → Option Def
  | "_missed" => some T__missed
  | "_covering" => some T__covering
  | "_refuted" => some T__refuted
  | "refutation" => some T_refutation
  | "_law_draws_of" => some T__law_draws_of
  | "_law_nth" => some T__law_nth
  | "_law_named" => some T__law_named
  | "_law_picked" => some T__law_picked
  | "_law_groups_of" => some T__law_groups_of
  | "_law_hits" => some T__law_hits
  | "_law_least" => some T__law_least
  | "_law_refutes" => some T__law_refutes
  | "_law_wide_right" => some T__law_wide_right
  | "law" => some T_law
  | _ => none
/-! ### the text says these terms -/
def top (i : Nat) : Stmt := PySem.Challenge.pw_letforget_k10_refutations.main.body.getD i (.Pass ⟨0, 0, 0, 0⟩)
structure Tab (ca : Str → Option Addr) (P : Program) (w : World) (K : PySem.W.Frag) (mg : Str → Option Value) (base : Heap) (k : Nat) (phi : String → List D → RC) : Prop where
  b_enumerate : mg "enumerate" = none
  b_any : mg "any" = none
  b_len : mg "len" = none
  b_int : mg "int" = none
  b_abs : mg "abs" = none
  b_range : mg "range" = none
  b_str : mg "str" = none
  b_isinstance : mg "isinstance" = none
  b_tuple : mg "tuple" = none
  b_list : mg "list" = none
  b_bool : mg "bool" = none
  f__missed : FnT ca P w K mg base k "_missed" [.r, .r] (phi "_missed")
  f__covering : FnT ca P w K mg base k "_covering" [.r, .r, .v] (phi "_covering")
  f__refuted : FnT ca P w K mg base k "_refuted" [.r, .r, .r] (phi "_refuted")
  f_refutation : FnT ca P w K mg base k "refutation" [.r, .r] (phi "refutation")
  f__law_draws_of : FnT ca P w K mg base k "_law_draws_of" [.r] (phi "_law_draws_of")
  f__law_nth : FnT ca P w K mg base k "_law_nth" [.r, .r] (phi "_law_nth")
  f__law_named : FnT ca P w K mg base k "_law_named" [.r, .r] (phi "_law_named")
  f__law_picked : FnT ca P w K mg base k "_law_picked" [.r, .v, .r] (phi "_law_picked")
  f__law_groups_of : FnT ca P w K mg base k "_law_groups_of" [.r, .v, .r, .r] (phi "_law_groups_of")
  f__law_hits : FnT ca P w K mg base k "_law_hits" [.r, .r] (phi "_law_hits")
  f__law_least : FnT ca P w K mg base k "_law_least" [.r, .v, .r] (phi "_law_least")
  f__law_refutes : FnTD ca P w K mg base k "_law_refutes" [.r, .r, .r] (phi "_law_refutes")
  f__law_wide_right : FnT ca P w K mg base k "_law_wide_right" [.r, .v] (phi "_law_wide_right")
  f_law : FnT ca P w K mg base k "law" [.v] (phi "law")
section
variable {ca : Str → Option Addr} {P : Program} {w : World} {K : PySem.W.Frag} {mg : Str → Option Value} {base : Heap} {k : Nat} {phi : String → List D → RC}
abbrev st__missed : Stmt := top 1
abbrev N__missed : List Str := ["groups", "chosen", "best", "at", "group", "name"]
theorem sc__missed : FnScope N__missed ["groups", "chosen"] (defScope st__missed) := ⟨rfl, rfl, rfl, by decide +kernel, rfl, by decide +kernel, by decide +kernel⟩
theorem ok__missed {f : Addr} {fd : FuncData} (Fn : L2.Fun K "_missed" "_missed" st__missed f fd) (G : Tab ca P w K mg base k phi) : FnOk P w K mg base (L2.CX P w) (2 * (k + 1)) f fd ["groups", "chosen"] (spOf ⟨P, w, K, ca⟩ T__missed.ms (T__missed.run phi)) := by
  refine fn_ok (k := 2 * k + 1) (T := T__missed) (Nm := N__missed) Fn sc__missed rfl rfl (by decide) fun cdv A outer s H E hr tk po hcd => ?_
  have nd : N__missed.Nodup := sc__missed.nd
  show Bv ca _ _ _ (b__missed phi)
  unfold b__missed
  exact bv_cons (sv_set 2 nd (ev_non))
     (bv_cons (sv_for (tmp := [3, 4, 5]) (tt := .tup [3, 4]) po rfl (pg_tup rfl (pgs_cons (pg_name (i := 3) nd rfl (by first | exact Or.inl rfl | exact Or.inr rfl)) (pgs_cons (pg_name (i := 4) nd rfl (by first | exact Or.inl rfl | exact Or.inr rfl)) (pgs_nil)))) (tg_tup (tgs_cons (tgs_cons (tgs_nil))) rfl rfl) (wv_enum G.b_enumerate (ev_slot 0))
     (bv_one (sv_if (tv_not (tv_tru (ev_call1 (cr_any rfl) s_any G.b_any (ev_lc (own := [("name", 5)]) rfl nd (wv_any (ev_slot 4)) (blkOk_by (own := [("name", 5)]) (N := N__missed) (sc := defScope st__missed) (by decide +kernel)) (tg_one) (by decide) (fun _ _ _ _ _ => pg_name (i := 5) nd rfl (by first | exact Or.inl rfl | exact Or.inr rfl)) (fun _ _ _ _ _ => ptv_nil) (fun _ _ _ _ _ => ev_cmp (op_inA (u65 hr)) s_in (ev_slot 5) (ev_slot 1) (by rfl)))))) (bv_one (sv_if (tv_w (wv_or (tv_cmp op_isA s_is (ev_slot 2) (ev_non) (nomark _)) (wv_or1 (tv_cmp op_ltA s_lt (ev_call1 call_lenA s_len G.b_len (ev_slot 4)) (ev_call1 call_lenA s_len G.b_len (ev_ix (ev_slot 0) (ev_slot 2) (hu_of hr))) (nomark _))))) (bv_one (sv_set 2 nd (ev_slot 3))) (bv_nil))) (bv_nil))))
     (bv_one (sv_ret (ev_slot 2))))

abbrev st__covering : Stmt := top 2
abbrev N__covering : List Str := ["groups", "size", "chosen", "at", "name", "found"]
theorem sc__covering : FnScope N__covering ["groups", "size", "chosen"] (defScope st__covering) := ⟨rfl, rfl, rfl, by decide +kernel, rfl, by decide +kernel, by decide +kernel⟩
theorem ok__covering {f : Addr} {fd : FuncData} (Fn : L2.Fun K "_covering" "_covering" st__covering f fd) (G : Tab ca P w K mg base k phi) : FnOk P w K mg base (L2.CX P w) (2 * (k + 1)) f fd ["groups", "size", "chosen"] (spOf ⟨P, w, K, ca⟩ T__covering.ms (T__covering.run phi)) := by
  refine fn_ok (k := 2 * k + 1) (T := T__covering) (Nm := N__covering) Fn sc__covering rfl rfl (by decide) fun cdv A outer s H E hr tk po hcd => ?_
  have nd : N__covering.Nodup := sc__covering.nd
  show Bv ca _ _ _ (b__covering phi)
  unfold b__covering
  exact bv_cons (sv_set 3 nd (ev_call G.f__missed hr tk (av_cons (ev_slot 0) (av_cons (ev_slot 2) (av_nil)))))
     (bv_cons (sv_if (tv_cmp op_isA s_is (ev_slot 3) (ev_non) (nomark _)) (bv_one (sv_ret (ev_slot 2))) (bv_nil))
     (bv_cons (sv_if (tv_cmp op_gtA s_gt (ev_slot 1) (ev_int) (nomark _)) (bv_one (sv_for (tmp := [4, 5]) (tt := .one 4) po rfl (pg_name (i := 4) nd rfl (by first | exact Or.inl rfl | exact Or.inr rfl)) (tg_one) (wv_any (ev_ix (ev_slot 0) (ev_slot 3) (hu_of hr)))
     (bv_cons (sv_set 5 nd (ev_call G.f__covering hr tk (av_cons (ev_slot 0) (av_cons (ev_bin op_sub s_sub (ev_slot 1) (ev_int)) (av_keep (ev_lst (av_star (ev_slot 2) (av_keep (ev_slot 4) (av_nil)))) (av_nil))))))
     (bv_one (sv_if (tv_cmp op_isNA s_isN (ev_slot 5) (ev_non) (nomark _)) (bv_one (sv_ret (ev_slot 5))) (bv_nil)))))) (bv_nil))
     (bv_one (sv_ret (ev_non)))))

abbrev st__refuted : Stmt := top 3
abbrev N__refuted : List Str := ["groups", "size", "chosen", "at", "name"]
theorem sc__refuted : FnScope N__refuted ["groups", "size", "chosen"] (defScope st__refuted) := ⟨rfl, rfl, rfl, by decide +kernel, rfl, by decide +kernel, by decide +kernel⟩
theorem ok__refuted {f : Addr} {fd : FuncData} (Fn : L2.Fun K "_refuted" "_refuted" st__refuted f fd) (G : Tab ca P w K mg base k phi) : FnOk P w K mg base (L2.CX P w) (2 * (k + 1)) f fd ["groups", "size", "chosen"] (spOf ⟨P, w, K, ca⟩ T__refuted.ms (T__refuted.run phi)) := by
  refine fn_ok (k := 2 * k + 1) (T := T__refuted) (Nm := N__refuted) Fn sc__refuted rfl rfl (by decide) fun cdv A outer s H E hr tk po hcd => ?_
  have nd : N__refuted.Nodup := sc__refuted.nd
  show Bv ca _ _ _ (b__refuted phi)
  unfold b__refuted
  exact bv_cons (sv_set 3 nd (ev_call G.f__missed hr tk (av_cons (ev_slot 0) (av_cons (ev_slot 2) (av_nil)))))
     (bv_cons (sv_if (tv_cmp (op_eqD hr.units) s_eq (ev_slot 1) (ev_int) (nomark _)) (bv_one (sv_ret (ev_tupO (ov_cons (ev_slot 3) (ov_cons (ev_lst (av_nil)) (ov_nil)))))) (bv_nil))
     (bv_one (sv_ret (ev_tupO (ov_cons (ev_slot 3) (ov_cons (ev_lcO (own := [("name", 4)]) rfl nd (wv_any (ev_ix (ev_slot 0) (ev_slot 3) (hu_of hr))) (blkOk_by (own := [("name", 4)]) (N := N__refuted) (sc := defScope st__refuted) (by decide +kernel)) (tg_one) (by decide) (fun _ _ _ _ _ => pg_name (i := 4) nd rfl (by first | exact Or.inl rfl | exact Or.inr rfl)) (fun _ _ _ _ _ => ptv_nil) (fun _ _ _ _ _ => ev_tupO (ov_cons (ev_slot 4) (ov_cons (ev_call G.f__refuted hr takes0 (av_cons (ev_slot 0) (av_cons (ev_bin op_sub s_sub (ev_slot 1) (ev_int)) (av_cons (ev_lst (av_star (ev_slot 2) (av_keep (ev_slot 4) (av_nil)))) (av_nil))))) (ov_nil))))) (ov_nil)))))))

abbrev st_refutation : Stmt := top 4
abbrev N_refutation : List Str := ["groups", "size"]
theorem sc_refutation : FnScope N_refutation ["groups", "size"] (defScope st_refutation) := ⟨rfl, rfl, rfl, by decide +kernel, rfl, by decide +kernel, by decide +kernel⟩
theorem ok_refutation {f : Addr} {fd : FuncData} (Fn : L2.Fun K "refutation" "refutation" st_refutation f fd) (G : Tab ca P w K mg base k phi) : FnOk P w K mg base (L2.CX P w) (2 * (k + 1)) f fd ["groups", "size"] (spOf ⟨P, w, K, ca⟩ T_refutation.ms (T_refutation.run phi)) := by
  refine fn_ok (k := 2 * k + 1) (T := T_refutation) (Nm := N_refutation) Fn sc_refutation rfl rfl (by decide) fun cdv A outer s H E hr tk po hcd => ?_
  have nd : N_refutation.Nodup := sc_refutation.nd
  show Bv ca _ _ _ (b_refutation phi)
  unfold b_refutation
  exact bv_cons (sv_if (tv_cmp op_isNA s_isN (ev_call G.f__covering hr tk (av_cons (ev_slot 0) (av_cons (ev_slot 1) (av_keep (ev_lst (av_nil)) (av_nil))))) (ev_non) (nomark _)) (bv_one (sv_ret (ev_non))) (bv_nil))
     (bv_one (sv_ret (ev_call G.f__refuted hr tk (av_cons (ev_slot 0) (av_cons (ev_slot 1) (av_cons (ev_lst (av_nil)) (av_nil)))))))

abbrev st__law_draws_of : Stmt := top 6
abbrev N__law_draws_of : List Str := ["_law_script", "_law_pool", "_law_cell", "_law_left", "_law_k"]
theorem sc__law_draws_of : FnScope N__law_draws_of ["_law_script"] (defScope st__law_draws_of) := ⟨rfl, rfl, rfl, by decide +kernel, rfl, by decide +kernel, by decide +kernel⟩
theorem ok__law_draws_of {f : Addr} {fd : FuncData} (Fn : L2.Fun K "_law_draws_of" "_law_draws_of" st__law_draws_of f fd) (G : Tab ca P w K mg base k phi) : FnOk P w K mg base (L2.CX P w) (2 * (k + 1)) f fd ["_law_script"] (spOf ⟨P, w, K, ca⟩ T__law_draws_of.ms (T__law_draws_of.run phi)) := by
  refine fn_ok (k := 2 * k + 1) (T := T__law_draws_of) (Nm := N__law_draws_of) Fn sc__law_draws_of rfl rfl (by decide) fun cdv A outer s H E hr tk po hcd => ?_
  have nd : N__law_draws_of.Nodup := sc__law_draws_of.nd
  show Bv ca _ _ _ (b__law_draws_of phi)
  unfold b__law_draws_of
  exact bv_cons (sv_set 1 nd (ev_lst (av_nil)))
     (bv_cons (sv_for (tmp := [2, 3, 4]) (tt := .one 2) po rfl (pg_name (i := 2) nd rfl (by first | exact Or.inl rfl | exact Or.inr rfl)) (tg_one) (wv_any (ev_slot 0))
     (bv_one (sv_if (tv_cmp op_ltA s_lt (ev_call1 call_lenA s_len G.b_len (ev_slot 1)) (ev_int) (nomark _)) (bv_cons (sv_set 3 nd (ev_call1 call_abs s_abs G.b_abs (ev_type1 call_int1 s_int G.b_int (ev_slot 2))))
     (bv_one (sv_if (tv_cmp op_ltA s_lt (ev_slot 3) (ev_bin op_pow s_pow (ev_int) (ev_int)) (nomark _)) (bv_one (sv_for (tmp := [4]) (tt := .one 4) po rfl (pg_name (i := 4) nd rfl (by first | exact Or.inl rfl | exact Or.inr rfl)) (tg_one) (wv_r1 G.b_range (ev_int))
     (bv_cons (sv_set 3 nd (ev_bin op_mod s_mod (ev_type1 call_int1 s_int G.b_int (ev_bin op_addA s_add (ev_bin op_addA s_add (ev_bin op_mulA s_mul (ev_slot 3) (ev_int)) (ev_bin op_mulA s_mul (ev_int) (ev_slot 4))) (ev_int))) (ev_int)))
     (bv_one (sv_expr (ev_append (pv 1) (av_keep (ev_slot 3) (av_nil)))))))) (bv_one (sv_for (tmp := [4]) (tt := .one 4) po rfl (pg_name (i := 4) nd rfl (by first | exact Or.inl rfl | exact Or.inr rfl)) (tg_one) (wv_r1 G.b_range (ev_int))
     (bv_one (sv_if (tv_cmp op_gtA s_gt (ev_slot 3) (ev_int) (nomark _)) (bv_cons (sv_expr (ev_append (pv 1) (av_keep (ev_bin op_mod s_mod (ev_type1 call_int1 s_int G.b_int (ev_slot 3)) (ev_int)) (av_nil))))
     (bv_one (sv_set 3 nd (ev_bin op_fdiv s_div (ev_slot 3) (ev_int))))) (bv_nil)))))))) (bv_nil))))
     (bv_cons (sv_if (tv_cmp (op_eqD hr.units) s_eq (ev_slot 1) (ev_lst (av_nil)) (nomark _)) (bv_one (sv_set 1 nd (ev_lst (av_keep (ev_int) (av_keep (ev_int) (av_keep (ev_int) (av_keep (ev_int) (av_keep (ev_int) (av_keep (ev_int) (av_keep (ev_int) (av_keep (ev_int) (av_keep (ev_int) (av_keep (ev_int) (av_keep (ev_int) (av_keep (ev_int) (av_keep (ev_int) (av_nil))))))))))))))))) (bv_nil))
     (bv_one (sv_ret (ev_slot 1)))))

abbrev st__law_nth : Stmt := top 7
abbrev N__law_nth : List Str := ["_law_pool", "_law_k"]
theorem sc__law_nth : FnScope N__law_nth ["_law_pool", "_law_k"] (defScope st__law_nth) := ⟨rfl, rfl, rfl, by decide +kernel, rfl, by decide +kernel, by decide +kernel⟩
theorem ok__law_nth {f : Addr} {fd : FuncData} (Fn : L2.Fun K "_law_nth" "_law_nth" st__law_nth f fd) (G : Tab ca P w K mg base k phi) : FnOk P w K mg base (L2.CX P w) (2 * (k + 1)) f fd ["_law_pool", "_law_k"] (spOf ⟨P, w, K, ca⟩ T__law_nth.ms (T__law_nth.run phi)) := by
  refine fn_ok (k := 2 * k + 1) (T := T__law_nth) (Nm := N__law_nth) Fn sc__law_nth rfl rfl (by decide) fun cdv A outer s H E hr tk po hcd => ?_
  have nd : N__law_nth.Nodup := sc__law_nth.nd
  show Bv ca _ _ _ (b__law_nth phi)
  unfold b__law_nth
  exact bv_cons (sv_if (tv_cmp op_ltA s_lt (ev_slot 1) (ev_call1 call_lenA s_len G.b_len (ev_slot 0)) (nomark _)) (bv_one (sv_ret (ev_ix (ev_slot 0) (ev_slot 1) (hu_of hr)))) (bv_nil))
     (bv_one (sv_ret (ev_bin op_mod s_mod (ev_type1 call_int1 s_int G.b_int (ev_bin op_addA s_add (ev_bin op_mulA s_mul (ev_ix (ev_slot 0) (ev_bin op_mod s_mod (ev_slot 1) (ev_call1 call_lenA s_len G.b_len (ev_slot 0))) (hu_of hr)) (ev_int)) (ev_bin op_mulA s_mul (ev_slot 1) (ev_int)))) (ev_int))))

abbrev st__law_named : Stmt := top 8
abbrev N__law_named : List Str := ["_law_k", "_law_style", "_law_one", "_law_kind", "_law_words", "_law_base"]
theorem sc__law_named : FnScope N__law_named ["_law_k", "_law_style"] (defScope st__law_named) := ⟨rfl, rfl, rfl, by decide +kernel, rfl, by decide +kernel, by decide +kernel⟩
theorem ok__law_named {f : Addr} {fd : FuncData} (Fn : L2.Fun K "_law_named" "_law_named" st__law_named f fd) (G : Tab ca P w K mg base k phi) : FnOk P w K mg base (L2.CX P w) (2 * (k + 1)) f fd ["_law_k", "_law_style"] (spOf ⟨P, w, K, ca⟩ T__law_named.ms (T__law_named.run phi)) := by
  refine fn_ok (k := 2 * k + 1) (T := T__law_named) (Nm := N__law_named) Fn sc__law_named rfl rfl (by decide) fun cdv A outer s H E hr tk po hcd => ?_
  have nd : N__law_named.Nodup := sc__law_named.nd
  show Bv ca _ _ _ (b__law_named phi)
  unfold b__law_named
  exact bv_cons (sv_set 2 nd (ev_ix (ev_str) (ev_bin op_mod s_mod (ev_type1 call_int1 s_int G.b_int (ev_bin op_addA s_add (ev_bin op_mulA s_mul (ev_slot 0) (ev_int)) (ev_bin op_fdiv s_div (ev_slot 1) (ev_int)))) (ev_int)) (hu_of hr)))
     (bv_cons (sv_set 3 nd (ev_bin op_mod s_mod (ev_type1 call_int1 s_int G.b_int (ev_slot 1)) (ev_int)))
     (bv_cons (sv_if (tv_w (wv_and (tv_cmp (op_eqD hr.units) s_eq (ev_slot 3) (ev_int) (nomark _)) (wv_and1 (tv_cmp (op_eqD hr.units) s_eq (ev_bin op_mod s_mod (ev_bin op_fdiv s_div (ev_type1 call_int1 s_int G.b_int (ev_slot 1)) (ev_int)) (ev_int)) (ev_int) (nomark _))))) (bv_cons (sv_set 4 nd (ev_lst (av_keep (ev_str) (av_keep (ev_str) (av_keep (ev_str) (av_keep (ev_str) (av_keep (ev_str) (av_keep (ev_str) (av_keep (ev_str) (av_keep (ev_str) (av_keep (ev_str) (av_keep (ev_str) (av_nil)))))))))))))
     (bv_one (sv_ret (ev_bin op_addA s_add (ev_ix (ev_slot 4) (ev_bin op_mod s_mod (ev_type1 call_int1 s_int G.b_int (ev_slot 0)) (ev_int)) (hu_of hr)) (ev_bin op_mulA s_mul (ev_str) (ev_bin op_fdiv s_div (ev_type1 call_int1 s_int G.b_int (ev_slot 0)) (ev_int))))))) (bv_nil))
     (bv_cons (sv_if (tv_w (wv_and (tv_cmp (op_eqD hr.units) s_eq (ev_slot 3) (ev_int) (nomark _)) (wv_and1 (tv_cmp (op_eqD hr.units) s_eq (ev_bin op_mod s_mod (ev_bin op_fdiv s_div (ev_type1 call_int1 s_int G.b_int (ev_slot 1)) (ev_int)) (ev_int)) (ev_int) (nomark _))))) (bv_one (sv_ret (ev_bin op_addA s_add (ev_bin op_mulA s_mul (ev_str) (ev_bin op_fdiv s_div (ev_type1 call_int1 s_int G.b_int (ev_slot 0)) (ev_int))) (ev_bin op_mulA s_mul (ev_str) (ev_bin op_addA s_add (ev_bin op_mod s_mod (ev_type1 call_int1 s_int G.b_int (ev_slot 0)) (ev_int)) (ev_int)))))) (bv_nil))
     (bv_cons (sv_if (tv_cmp (op_eqD hr.units) s_eq (ev_slot 3) (ev_int) (nomark _)) (bv_one (sv_ret (ev_bin op_addA s_add (ev_bin op_mulA s_mul (ev_str) (ev_bin op_mod s_mod (ev_type1 call_int1 s_int G.b_int (ev_slot 0)) (ev_int))) (ev_slot 2)))) (bv_nil))
     (bv_cons (sv_if (tv_cmp (op_eqD hr.units) s_eq (ev_slot 3) (ev_int) (nomark _)) (bv_cons (sv_set 5 nd (ev_bin op_addA s_add (ev_slot 2) (ev_type1 call_strA s_str G.b_str (ev_bin op_mod s_mod (ev_type1 call_int1 s_int G.b_int (ev_bin op_fdiv s_div (ev_slot 1) (ev_int))) (ev_int)))))
     (bv_cons (sv_if (tv_cmp (op_eqD hr.units) s_eq (ev_bin op_mod s_mod (ev_type1 call_int1 s_int G.b_int (ev_slot 0)) (ev_int)) (ev_int) (nomark _)) (bv_one (sv_ret (ev_bin op_addA s_add (ev_slot 5) (ev_bin op_mulA s_mul (ev_str) (ev_bin op_sub s_sub (ev_int) (ev_call1 call_lenA s_len G.b_len (ev_slot 5))))))) (bv_nil))
     (bv_one (sv_ret (ev_bin op_addA s_add (ev_slot 5) (ev_bin op_mulA s_mul (ev_str) (ev_bin op_mod s_mod (ev_type1 call_int1 s_int G.b_int (ev_slot 0)) (ev_int)))))))) (bv_nil))
     (bv_cons (sv_if (tv_cmp (op_eqD hr.units) s_eq (ev_slot 3) (ev_int) (nomark _)) (bv_one (sv_ret (ev_bin op_addA s_add (ev_str) (ev_type1 call_strA s_str G.b_str (ev_bin op_sub s_sub (ev_int) (ev_bin op_mulA s_mul (ev_int) (ev_slot 0))))))) (bv_nil))
     (bv_one (sv_ret (ev_slot 2)))))))))

abbrev st__law_picked : Stmt := top 9
abbrev N__law_picked : List Str := ["_law_mask", "_law_many", "_law_style", "_law_picked_here", "_law_j"]
theorem sc__law_picked : FnScope N__law_picked ["_law_mask", "_law_many", "_law_style"] (defScope st__law_picked) := ⟨rfl, rfl, rfl, by decide +kernel, rfl, by decide +kernel, by decide +kernel⟩
theorem ok__law_picked {f : Addr} {fd : FuncData} (Fn : L2.Fun K "_law_picked" "_law_picked" st__law_picked f fd) (G : Tab ca P w K mg base k phi) : FnOk P w K mg base (L2.CX P w) (2 * (k + 1)) f fd ["_law_mask", "_law_many", "_law_style"] (spOf ⟨P, w, K, ca⟩ T__law_picked.ms (T__law_picked.run phi)) := by
  refine fn_ok (k := 2 * k + 1) (T := T__law_picked) (Nm := N__law_picked) Fn sc__law_picked rfl rfl (by decide) fun cdv A outer s H E hr tk po hcd => ?_
  have nd : N__law_picked.Nodup := sc__law_picked.nd
  show Bv ca _ _ _ (b__law_picked phi)
  unfold b__law_picked
  exact bv_cons (sv_set 3 nd (ev_lst (av_nil)))
     (bv_cons (sv_for (tmp := [4]) (tt := .one 4) po rfl (pg_name (i := 4) nd rfl (by first | exact Or.inl rfl | exact Or.inr rfl)) (tg_one) (wv_r1 G.b_range (ev_slot 1))
     (bv_one (sv_if (tv_cmp (op_eqD hr.units) s_eq (ev_bin op_mod s_mod (ev_type1 call_int1 s_int G.b_int (ev_bin op_shr s_shr (ev_slot 0) (ev_slot 4))) (ev_int)) (ev_int) (nomark _)) (bv_one (sv_expr (ev_append (pv 3) (av_keep (ev_call G.f__law_named hr tk (av_cons (ev_slot 4) (av_cons (ev_slot 2) (av_nil)))) (av_nil))))) (bv_nil))))
     (bv_one (sv_ret (ev_slot 3))))

abbrev st__law_groups_of : Stmt := top 10
abbrev N__law_groups_of : List Str := ["_law_pool", "_law_many", "_law_style", "_law_most", "_law_groups", "_law_k", "_law_draw", "_law_group"]
theorem sc__law_groups_of : FnScope N__law_groups_of ["_law_pool", "_law_many", "_law_style", "_law_most"] (defScope st__law_groups_of) := ⟨rfl, rfl, rfl, by decide +kernel, rfl, by decide +kernel, by decide +kernel⟩
theorem ok__law_groups_of {f : Addr} {fd : FuncData} (Fn : L2.Fun K "_law_groups_of" "_law_groups_of" st__law_groups_of f fd) (G : Tab ca P w K mg base k phi) : FnOk P w K mg base (L2.CX P w) (2 * (k + 1)) f fd ["_law_pool", "_law_many", "_law_style", "_law_most"] (spOf ⟨P, w, K, ca⟩ T__law_groups_of.ms (T__law_groups_of.run phi)) := by
  refine fn_ok (k := 2 * k + 1) (T := T__law_groups_of) (Nm := N__law_groups_of) Fn sc__law_groups_of rfl rfl (by decide) fun cdv A outer s H E hr tk po hcd => ?_
  have nd : N__law_groups_of.Nodup := sc__law_groups_of.nd
  show Bv ca _ _ _ (b__law_groups_of phi)
  unfold b__law_groups_of
  exact bv_cons (sv_set 4 nd (ev_lst (av_nil)))
     (bv_cons (sv_for (tmp := [5, 6, 7]) (tt := .one 5) po rfl (pg_name (i := 5) nd rfl (by first | exact Or.inl rfl | exact Or.inr rfl)) (tg_one) (wv_r1 G.b_range (ev_bin op_mod s_mod (ev_type1 call_int1 s_int G.b_int (ev_ix (ev_slot 0) (ev_int) (hu_of hr))) (ev_bin op_addA s_add (ev_slot 3) (ev_int))))
     (bv_cons (sv_set 6 nd (ev_call G.f__law_nth hr tk (av_cons (ev_slot 0) (av_cons (ev_bin op_addA s_add (ev_int) (ev_slot 5)) (av_nil)))))
     (bv_cons (sv_set 7 nd (ev_call G.f__law_picked hr tk (av_cons (ev_slot 6) (av_keep (ev_slot 1) (av_cons (ev_slot 2) (av_nil))))))
     (bv_cons (sv_if (tv_cmp (op_eqD hr.units) s_eq (ev_bin op_mod s_mod (ev_bin op_fdiv s_div (ev_type1 call_int1 s_int G.b_int (ev_slot 6)) (ev_int)) (ev_int)) (ev_int) (nomark _)) (bv_one (sv_set 7 nd (ev_rev (ev_slot 7)))) (bv_nil))
     (bv_one (sv_if (tv_cmp (op_neD hr.units) s_ne (ev_slot 7) (ev_lst (av_nil)) (nomark _)) (bv_one (sv_expr (ev_append (pv 4) (av_keep (ev_slot 7) (av_nil))))) (bv_nil)))))))
     (bv_one (sv_ret (ev_slot 4))))

abbrev st__law_hits : Stmt := top 11
abbrev N__law_hits : List Str := ["_law_names", "_law_groups", "_law_group", "_law_hit", "_law_name"]
theorem sc__law_hits : FnScope N__law_hits ["_law_names", "_law_groups"] (defScope st__law_hits) := ⟨rfl, rfl, rfl, by decide +kernel, rfl, by decide +kernel, by decide +kernel⟩
theorem ok__law_hits {f : Addr} {fd : FuncData} (Fn : L2.Fun K "_law_hits" "_law_hits" st__law_hits f fd) (G : Tab ca P w K mg base k phi) : FnOk P w K mg base (L2.CX P w) (2 * (k + 1)) f fd ["_law_names", "_law_groups"] (spOf ⟨P, w, K, ca⟩ T__law_hits.ms (T__law_hits.run phi)) := by
  refine fn_ok (k := 2 * k + 1) (T := T__law_hits) (Nm := N__law_hits) Fn sc__law_hits rfl rfl (by decide) fun cdv A outer s H E hr tk po hcd => ?_
  have nd : N__law_hits.Nodup := sc__law_hits.nd
  show Bv ca _ _ _ (b__law_hits phi)
  unfold b__law_hits
  exact bv_cons (sv_for (tmp := [2, 3, 4]) (tt := .one 2) po rfl (pg_name (i := 2) nd rfl (by first | exact Or.inl rfl | exact Or.inr rfl)) (tg_one) (wv_any (ev_slot 1))
     (bv_cons (sv_set 3 nd (ev_bl))
     (bv_cons (sv_for (tmp := [4]) (tt := .one 4) po rfl (pg_name (i := 4) nd rfl (by first | exact Or.inl rfl | exact Or.inr rfl)) (tg_one) (wv_any (ev_slot 2))
     (bv_one (sv_if (tv_cmp (op_inA (u65 hr)) s_in (ev_slot 4) (ev_slot 0) (by rfl)) (bv_one (sv_set 3 nd (ev_bl))) (bv_nil))))
     (bv_one (sv_if (tv_not (tv_tru (ev_slot 3))) (bv_one (sv_ret (ev_bl))) (bv_nil))))))
     (bv_one (sv_ret (ev_bl)))

abbrev st__law_least : Stmt := top 12
abbrev N__law_least : List Str := ["_law_groups", "_law_many", "_law_style", "_law_least_here", "_law_mask", "_law_names"]
theorem sc__law_least : FnScope N__law_least ["_law_groups", "_law_many", "_law_style"] (defScope st__law_least) := ⟨rfl, rfl, rfl, by decide +kernel, rfl, by decide +kernel, by decide +kernel⟩
theorem ok__law_least {f : Addr} {fd : FuncData} (Fn : L2.Fun K "_law_least" "_law_least" st__law_least f fd) (G : Tab ca P w K mg base k phi) : FnOk P w K mg base (L2.CX P w) (2 * (k + 1)) f fd ["_law_groups", "_law_many", "_law_style"] (spOf ⟨P, w, K, ca⟩ T__law_least.ms (T__law_least.run phi)) := by
  refine fn_ok (k := 2 * k + 1) (T := T__law_least) (Nm := N__law_least) Fn sc__law_least rfl rfl (by decide) fun cdv A outer s H E hr tk po hcd => ?_
  have nd : N__law_least.Nodup := sc__law_least.nd
  show Bv ca _ _ _ (b__law_least phi)
  unfold b__law_least
  exact bv_cons (sv_set 3 nd (ev_slot 1))
     (bv_cons (sv_for (tmp := [4, 5]) (tt := .one 4) po rfl (pg_name (i := 4) nd rfl (by first | exact Or.inl rfl | exact Or.inr rfl)) (tg_one) (wv_r1 G.b_range (ev_int))
     (bv_one (sv_if (tv_cmp (op_eqD hr.units) s_eq (ev_type1 call_int1 s_int G.b_int (ev_bin op_shr s_shr (ev_slot 4) (ev_slot 1))) (ev_int) (nomark _)) (bv_cons (sv_set 5 nd (ev_call G.f__law_picked hr tk (av_cons (ev_slot 4) (av_keep (ev_slot 1) (av_cons (ev_slot 2) (av_nil))))))
     (bv_one (sv_if (tv_w (wv_and (tv_cmp op_ltA s_lt (ev_call1 call_lenA s_len G.b_len (ev_slot 5)) (ev_slot 3) (nomark _)) (wv_and1 (tv_tru (ev_call G.f__law_hits hr tk (av_cons (ev_slot 5) (av_cons (ev_slot 0) (av_nil)))))))) (bv_one (sv_set 3 nd (ev_call1 call_lenA s_len G.b_len (ev_slot 5)))) (bv_nil)))) (bv_nil))))
     (bv_one (sv_ret (ev_slot 3))))

abbrev st__law_refutes : Stmt := top 13
abbrev N__law_refutes : List Str := ["_law_told", "_law_groups", "_law_size", "_law_chosen", "_law_group", "_law_k", "_law_branch"]
theorem sc__law_refutes : FnScope N__law_refutes ["_law_told", "_law_groups", "_law_size", "_law_chosen"] (defScope st__law_refutes) := ⟨rfl, rfl, rfl, by decide +kernel, rfl, by decide +kernel, by decide +kernel⟩
theorem ok__law_refutes {f : Addr} {fd : FuncData} (Fn : L2.Fun K "_law_refutes" "_law_refutes" st__law_refutes f fd) (G : Tab ca P w K mg base k phi) : FnOk P w K mg base (L2.CX P w) (2 * (k + 1)) f fd ["_law_told", "_law_groups", "_law_size", "_law_chosen"] (spD ⟨P, w, K, ca⟩ [.r, .r, .r] (T__law_refutes.run phi)) := by
  refine fn_okD (k := 2 * k + 1) (T := T__law_refutes) (Nm := N__law_refutes) (ms := [.r, .r, .r]) rfl rfl (show b__law_refutes phi = sGive _ from rfl) Fn sc__law_refutes rfl rfl (by decide) fun cdv A outer s H E hr tk po hcd => ?_
  have nd : N__law_refutes.Nodup := sc__law_refutes.nd
  exact bv_cons (sv_if (tv_leaf (tv_w (wv_or (tv_not (tv_tru (ev_isty (T := "tuple") (s_isty rfl rfl rfl rfl rfl rfl rfl) G.b_isinstance G.b_tuple (ev_slot 0)))) (wv_or (tv_cmp (op_neD hr.units) s_ne (ev_call1 call_lenA s_len G.b_len (ev_slot 0)) (ev_int) (nomark _)) (wv_or1 (tv_not (tv_tru (ev_isty (T := "list") (s_isty rfl rfl rfl rfl rfl rfl rfl) G.b_isinstance G.b_list (ev_ix (ev_slot 0) (ev_int) (hu_of hr)))))))))) (bv_one (sv_ret (ev_bl))) (bv_nil))
     (bv_cons (sv_if (tv_leaf (tv_w (wv_or (tv_not (tv_tru (ev_isty (T := "int") (s_isty rfl rfl rfl rfl rfl rfl rfl) G.b_isinstance G.b_int (ev_ix (ev_slot 0) (ev_int) (hu_of hr))))) (wv_or1 (tv_tru (ev_isty (T := "bool") (s_isty rfl rfl rfl rfl rfl rfl rfl) G.b_isinstance G.b_bool (ev_ix (ev_slot 0) (ev_int) (hu_of hr)))))))) (bv_one (sv_ret (ev_bl))) (bv_nil))
     (bv_cons (sv_if (tv_leaf (tv_w (wv_or (tv_cmp op_ltA s_lt (ev_ix (ev_slot 0) (ev_int) (hu_of hr)) (ev_int) (nomark _)) (wv_or1 (tv_cmp op_geA s_ge (ev_ix (ev_slot 0) (ev_int) (hu_of hr)) (ev_call1 call_lenA s_len G.b_len (ev_slot 1)) (nomark _)))))) (bv_one (sv_ret (ev_bl))) (bv_nil))
     (bv_cons (sv_set 4 nd (ev_ix (ev_slot 1) (ev_leafT (ev_ix (ev_slot 0) (ev_int) (hu_of hr))) (hu_of hr)))
     (bv_cons (sv_if (tv_tru (ev_call G.f__law_hits hr tk (av_cons (ev_slot 3) (av_cons (ev_lst (av_keep (ev_slot 4) (av_nil))) (av_nil))))) (bv_one (sv_ret (ev_bl))) (bv_nil))
     (bv_cons (sv_if (tv_cmp (op_eqD hr.units) s_eq (ev_slot 2) (ev_int) (nomark _)) (bv_cons (sv_if (tv_leaf (tv_cmp (op_neD hr.units) s_ne (ev_ix (ev_slot 0) (ev_int) (hu_of hr)) (ev_lst (av_nil)) (nomark _))) (bv_one (sv_ret (ev_bl))) (bv_nil))
     (bv_cons (sv_expr (ev_appP (pv_ix (pv_slot 0) (ev_int) (hu_of hr)) (ev_str)))
     (bv_one (sv_ret (ev_bl))))) (bv_nil))
     (bv_cons (sv_if (tv_leaf (tv_cmp (op_neD hr.units) s_ne (ev_call1 call_lenA s_len G.b_len (ev_ix (ev_slot 0) (ev_int) (hu_of hr))) (ev_call1 call_lenA s_len G.b_len (ev_slot 4)) (nomark _))) (bv_one (sv_ret (ev_bl))) (bv_nil))
     (bv_cons (sv_for (tmp := [5, 6]) (tt := .one 5) po rfl (pg_name (i := 5) nd rfl (by first | exact Or.inl rfl | exact Or.inr rfl)) (tg_one) (wv_r1 G.b_range (ev_call1 call_lenA s_len G.b_len (ev_slot 4)))
     (bv_cons (sv_takeP 6 nd (pv_ix (pv_slot 0) (ev_int) (hu_of hr)) (ev_slot 5) (hu_of hr))
     (bv_cons (sv_if (tv_leaf (tv_w (wv_or (tv_not (tv_tru (ev_isty (T := "tuple") (s_isty rfl rfl rfl rfl rfl rfl rfl) G.b_isinstance G.b_tuple (ev_slot 6)))) (wv_or (tv_cmp (op_neD hr.units) s_ne (ev_call1 call_lenA s_len G.b_len (ev_slot 6)) (ev_int) (nomark _)) (wv_or1 (tv_cmp (op_neD hr.units) s_ne (ev_ix (ev_slot 6) (ev_int) (hu_of hr)) (ev_ix (ev_slot 4) (ev_slot 5) (hu_of hr)) (nomark _))))))) (bv_one (sv_ret (ev_bl))) (bv_nil))
     (bv_one (sv_if (tv_not (tv_tru (ev_callD G.f__law_refutes hr tk (gv_pt (pv_slot 6) (ev_int) (hu_of hr)) (als_sl (pv 1) (als_ev (ev_bin op_sub s_sub (ev_slot 2) (ev_int)) (als_ev (ev_bin op_addA s_add (ev_slot 3) (ev_lst (av_keep (ev_ix (ev_slot 4) (ev_slot 5) (hu_of hr)) (av_nil)))) (als_nil))))))) (bv_one (sv_ret (ev_bl))) (bv_nil))))))
     (bv_cons (sv_expr (ev_appP (pv_ix (pv_slot 0) (ev_int) (hu_of hr)) (ev_str)))
     (bv_one (sv_ret (ev_bl)))))))))))

abbrev st__law_wide_right : Stmt := top 14
abbrev N__law_wide_right : List Str := ["_law_names", "_law_at", "_law_singles", "_law_name", "_law_wide", "_law_k", "_law_group"]
theorem sc__law_wide_right : FnScope N__law_wide_right ["_law_names", "_law_at"] (defScope st__law_wide_right) := ⟨rfl, rfl, rfl, by decide +kernel, rfl, by decide +kernel, by decide +kernel⟩
theorem ok__law_wide_right {f : Addr} {fd : FuncData} (Fn : L2.Fun K "_law_wide_right" "_law_wide_right" st__law_wide_right f fd) (G : Tab ca P w K mg base k phi) : FnOk P w K mg base (L2.CX P w) (2 * (k + 1)) f fd ["_law_names", "_law_at"] (spOf ⟨P, w, K, ca⟩ T__law_wide_right.ms (T__law_wide_right.run phi)) := by
  refine fn_ok (k := 2 * k + 1) (T := T__law_wide_right) (Nm := N__law_wide_right) Fn sc__law_wide_right rfl rfl (by decide) fun cdv A outer s H E hr tk po hcd => ?_
  have nd : N__law_wide_right.Nodup := sc__law_wide_right.nd
  show Bv ca _ _ _ (b__law_wide_right phi)
  unfold b__law_wide_right
  exact bv_cons (sv_setLc (own := [("_law_name", 3)]) 2 rfl nd rfl (sw_true rfl rfl rfl (by decide +kernel)) (wv_any (ev_slot 0)) (blkOk_by (own := [("_law_name", 3)]) (N := N__law_wide_right) (sc := defScope st__law_wide_right) (by decide +kernel)) (tg_one) (by decide) (fun _ _ _ _ _ => pg_name (i := 3) nd rfl (by first | exact Or.inl rfl | exact Or.inr rfl)) (fun _ _ _ _ _ => ptv_nil) (fun _ _ _ _ _ => ev_lst (av_keep (ev_slot 3) (av_nil))))
     (bv_cons (sv_if (tv_cmp op_isNA s_isN (ev_call G.f_refutation hr tk (av_cons (ev_slot 2) (av_cons (ev_int) (av_nil)))) (ev_non) (nomark _)) (bv_one (sv_ret (ev_bl))) (bv_nil))
     (bv_cons (sv_if (tv_not (tv_tru (ev_callD G.f__law_refutes hr tk (gv_ex (ev_call G.f_refutation hr tk (av_cons (ev_slot 2) (av_cons (ev_int) (av_nil))))) (als_ev (ev_lc (own := [("_law_name", 3)]) rfl nd (wv_any (ev_slot 0)) (blkOk_by (own := [("_law_name", 3)]) (N := N__law_wide_right) (sc := defScope st__law_wide_right) (by decide +kernel)) (tg_one) (by decide) (fun _ _ _ _ _ => pg_name (i := 3) nd rfl (by first | exact Or.inl rfl | exact Or.inr rfl)) (fun _ _ _ _ _ => ptv_nil) (fun _ _ _ _ _ => ev_lst (av_keep (ev_slot 3) (av_nil)))) (als_ev (ev_int) (als_ev (ev_lst (av_nil)) (als_nil))))))) (bv_one (sv_ret (ev_bl))) (bv_nil))
     (bv_cons (sv_setLc (own := [("_law_k", 5)]) 4 rfl nd rfl (sw_true rfl rfl rfl (by decide +kernel)) (wv_r1 G.b_range (ev_int)) (blkOk_by (own := [("_law_k", 5)]) (N := N__law_wide_right) (sc := defScope st__law_wide_right) (by decide +kernel)) (tg_one) (by decide) (fun _ _ _ _ _ => pg_name (i := 5) nd rfl (by first | exact Or.inl rfl | exact Or.inr rfl)) (fun _ _ _ _ _ => ptv_nil) (fun _ _ _ _ _ => ev_rev (ev_cutHi (ev_slot 0) (ev_int))))
     (bv_cons (sv_putL (pv 4) (ev_cutLo (ev_slot 0) (ev_int)) (ev_slot 1))
     (bv_cons (sv_if (tv_cmp op_isNA s_isN (ev_call G.f_refutation hr tk (av_cons (ev_lc (own := [("_law_group", 6)]) rfl nd (wv_any (ev_slot 4)) (blkOk_by (own := [("_law_group", 6)]) (N := N__law_wide_right) (sc := defScope st__law_wide_right) (by decide +kernel)) (tg_one) (by decide) (fun _ _ _ _ _ => pg_name (i := 6) nd rfl (by first | exact Or.inl rfl | exact Or.inr rfl)) (fun _ _ _ _ _ => ptv_nil) (fun _ _ _ _ _ => ev_type1 call_list_of s_list G.b_list (ev_slot 6))) (av_cons (ev_int) (av_nil)))) (ev_non) (nomark _)) (bv_one (sv_ret (ev_bl))) (bv_nil))
     (bv_one (sv_ret (ev_callD G.f__law_refutes hr tk (gv_ex (ev_call G.f_refutation hr tk (av_cons (ev_lc (own := [("_law_group", 6)]) rfl nd (wv_any (ev_slot 4)) (blkOk_by (own := [("_law_group", 6)]) (N := N__law_wide_right) (sc := defScope st__law_wide_right) (by decide +kernel)) (tg_one) (by decide) (fun _ _ _ _ _ => pg_name (i := 6) nd rfl (by first | exact Or.inl rfl | exact Or.inr rfl)) (fun _ _ _ _ _ => ptv_nil) (fun _ _ _ _ _ => ev_type1 call_list_of s_list G.b_list (ev_slot 6))) (av_cons (ev_int) (av_nil))))) (als_sl (pv 4) (als_ev (ev_int) (als_ev (ev_lst (av_nil)) (als_nil))))))))))))

abbrev st_law : Stmt := top 15
abbrev N_law : List Str := ["_law_script", "_law_pool", "_law_many", "_law_style", "_law_j", "_law_groups", "_law_least_here", "_law_size", "_law_k", "_law_handed", "_law_told", "_law_group"]
theorem sc_law : FnScope N_law ["_law_script"] (defScope st_law) := ⟨rfl, rfl, rfl, by decide +kernel, rfl, by decide +kernel, by decide +kernel⟩
theorem ok_law {f : Addr} {fd : FuncData} (Fn : L2.Fun K "law" "law" st_law f fd) (G : Tab ca P w K mg base k phi) : FnOk P w K mg base (L2.CX P w) (2 * (k + 1)) f fd ["_law_script"] (spOf ⟨P, w, K, ca⟩ T_law.ms (T_law.run phi)) := by
  refine fn_ok (k := 2 * k + 1) (T := T_law) (Nm := N_law) Fn sc_law rfl rfl (by decide) fun cdv A outer s H E hr tk po hcd => ?_
  have nd : N_law.Nodup := sc_law.nd
  show Bv ca _ _ _ (b_law phi)
  unfold b_law
  exact bv_cons (sv_set 1 nd (ev_call G.f__law_draws_of hr tk (av_cons (ev_slot 0) (av_nil))))
     (bv_cons (sv_set 2 nd (ev_bin op_addA s_add (ev_int) (ev_bin op_mod s_mod (ev_type1 call_int1 s_int G.b_int (ev_ix (ev_slot 1) (ev_int) (hu_of hr))) (ev_int))))
     (bv_cons (sv_set 3 nd (ev_bin op_fdiv s_div (ev_type1 call_int1 s_int G.b_int (ev_ix (ev_slot 1) (ev_int) (hu_of hr))) (ev_int)))
     (bv_cons (sv_if (tv_not (tv_tru (ev_call G.f__law_wide_right hr tk (av_cons (ev_lc (own := [("_law_j", 4)]) rfl nd (wv_r1 G.b_range (ev_int)) (blkOk_by (own := [("_law_j", 4)]) (N := N_law) (sc := defScope st_law) (by decide +kernel)) (tg_one) (by decide) (fun _ _ _ _ _ => pg_name (i := 4) nd rfl (by first | exact Or.inl rfl | exact Or.inr rfl)) (fun _ _ _ _ _ => ptv_nil) (fun _ _ _ _ _ => ev_call G.f__law_named hr takes0 (av_cons (ev_slot 4) (av_cons (ev_slot 3) (av_nil))))) (av_keep (ev_bin op_mod s_mod (ev_type1 call_int1 s_int G.b_int (ev_ix (ev_slot 1) (ev_int) (hu_of hr))) (ev_int)) (av_nil)))))) (bv_one (sv_ret (ev_bl))) (bv_nil))
     (bv_cons (sv_set 5 nd (ev_call G.f__law_groups_of hr tk (av_cons (ev_slot 1) (av_keep (ev_slot 2) (av_cons (ev_slot 3) (av_cons (ev_int) (av_nil)))))))
     (bv_cons (sv_set 6 nd (ev_call G.f__law_least hr tk (av_cons (ev_slot 5) (av_keep (ev_slot 2) (av_cons (ev_slot 3) (av_nil))))))
     (bv_cons (sv_for (tmp := [7, 8, 9, 10, 11]) (tt := .one 7) po rfl (pg_name (i := 7) nd rfl (by first | exact Or.inl rfl | exact Or.inr rfl)) (tg_one) (wv_r1 G.b_range (ev_bin op_addA s_add (ev_slot 2) (ev_int)))
     (bv_one (sv_for (tmp := [8, 9, 10, 11]) (tt := .one 8) po rfl (pg_name (i := 8) nd rfl (by first | exact Or.inl rfl | exact Or.inr rfl)) (tg_one) (wv_r1 G.b_range (ev_int))
     (bv_cons (sv_setLc (own := [("_law_group", 11)]) 9 rfl nd rfl (sw_true rfl rfl rfl (by decide +kernel)) (wv_any (ev_slot 5)) (blkOk_by (own := [("_law_group", 11)]) (N := N_law) (sc := defScope st_law) (by decide +kernel)) (tg_one) (by decide) (fun _ _ _ _ _ => pg_name (i := 11) nd rfl (by first | exact Or.inl rfl | exact Or.inr rfl)) (fun _ _ _ _ _ => ptv_nil) (fun _ _ _ _ _ => ev_type1 call_list_of s_list G.b_list (ev_slot 11)))
     (bv_cons (sv_set 10 nd (ev_call G.f_refutation hr tk (av_cons (ev_slot 9) (av_cons (ev_slot 7) (av_nil)))))
     (bv_cons (sv_if (tv_cmp (op_neD hr.units) s_ne (ev_slot 9) (ev_slot 5) (nomark _)) (bv_one (sv_ret (ev_bl))) (bv_nil))
     (bv_cons (sv_if (tv_leaf (tv_w (wv_and (tv_cmp op_geA s_ge (ev_slot 7) (ev_slot 6) (nomark _)) (wv_and1 (tv_cmp op_isNA s_isN (ev_slot 10) (ev_non) (nomark _)))))) (bv_one (sv_ret (ev_bl))) (bv_nil))
     (bv_one (sv_if (tv_w (wv_and (tv_cmp op_ltA s_lt (ev_slot 7) (ev_slot 6) (nomark _)) (wv_and1 (tv_not (tv_tru (ev_callD G.f__law_refutes hr tk (gv_sl (pv 10)) (als_sl (pv 5) (als_sl (pv 7) (als_ev (ev_lst (av_nil)) (als_nil)))))))))) (bv_one (sv_ret (ev_bl))) (bv_nil))))))))))
     (bv_one (sv_ret (ev_bl)))))))))

end
/-! ### the top, the law's end -/
set_option maxHeartbeats 0 in
theorem all_mk {l : PySem.W.OpenLaw} {w : World} {K : PySem.W.Frag} {h : Heap} {mg : Str → Option Value} {fa : Addr} (X : K.In h) (G : h.Ns mainGlobals mg) (hfa : mg "law" = some (.ref fa)) 
    {od0 an0 : Option Addr} {sl0 : Array (Option Value)} {oc0 kV0 dc0 pm0 cd0 ct0 : Value} {f0 : Addr}
    {od1 an1 : Option Addr} {sl1 : Array (Option Value)} {oc1 kV1 dc1 pm1 cd1 ct1 : Value} {f1 : Addr}
    {od2 an2 : Option Addr} {sl2 : Array (Option Value)} {oc2 kV2 dc2 pm2 cd2 ct2 : Value} {f2 : Addr}
    {od3 an3 : Option Addr} {sl3 : Array (Option Value)} {oc3 kV3 dc3 pm3 cd3 ct3 : Value} {f3 : Addr}
    {od4 an4 : Option Addr} {sl4 : Array (Option Value)} {oc4 kV4 dc4 pm4 cd4 ct4 : Value} {f4 : Addr}
    {od5 an5 : Option Addr} {sl5 : Array (Option Value)} {oc5 kV5 dc5 pm5 cd5 ct5 : Value} {f5 : Addr}
    {od6 an6 : Option Addr} {sl6 : Array (Option Value)} {oc6 kV6 dc6 pm6 cd6 ct6 : Value} {f6 : Addr}
    {od7 an7 : Option Addr} {sl7 : Array (Option Value)} {oc7 kV7 dc7 pm7 cd7 ct7 : Value} {f7 : Addr}
    {od8 an8 : Option Addr} {sl8 : Array (Option Value)} {oc8 kV8 dc8 pm8 cd8 ct8 : Value} {f8 : Addr}
    {od9 an9 : Option Addr} {sl9 : Array (Option Value)} {oc9 kV9 dc9 pm9 cd9 ct9 : Value} {f9 : Addr}
    {od10 an10 : Option Addr} {sl10 : Array (Option Value)} {oc10 kV10 dc10 pm10 cd10 ct10 : Value} {f10 : Addr}
    {od11 an11 : Option Addr} {sl11 : Array (Option Value)} {oc11 kV11 dc11 pm11 cd11 ct11 : Value} {f11 : Addr}
    {od12 an12 : Option Addr} {sl12 : Array (Option Value)} {oc12 kV12 dc12 pm12 cd12 ct12 : Value} {f12 : Addr}
    {od13 an13 : Option Addr} {sl13 : Array (Option Value)} {oc13 kV13 dc13 pm13 cd13 ct13 : Value} {f13 : Addr}
    (z_enumerate : PySem.W.nsIn K mainGlobals "enumerate" = some none)
    (z_any : PySem.W.nsIn K mainGlobals "any" = some none)
    (z_len : PySem.W.nsIn K mainGlobals "len" = some none)
    (z_int : PySem.W.nsIn K mainGlobals "int" = some none)
    (z_abs : PySem.W.nsIn K mainGlobals "abs" = some none)
    (z_range : PySem.W.nsIn K mainGlobals "range" = some none)
    (z_str : PySem.W.nsIn K mainGlobals "str" = some none)
    (z_isinstance : PySem.W.nsIn K mainGlobals "isinstance" = some none)
    (z_tuple : PySem.W.nsIn K mainGlobals "tuple" = some none)
    (z_list : PySem.W.nsIn K mainGlobals "list" = some none)
    (z_bool : PySem.W.nsIn K mainGlobals "bool" = some none)
    (a0 : PySem.W.nsIn K mainGlobals "_missed" = some (some (.ref f0)))
    (l0 : K.lookup f0 = some ⟨oc0, od0, .func (PySem.W.fnOf "_missed" "_missed" (defArgs st__missed) (defBody st__missed) (defScope st__missed) .none kV0 dc0 pm0 an0 cd0 ct0), sl0⟩)
    (d0 : PySem.W.codeIn K cd0 "_missed" = true)
    (k0 : PySem.W.keepIn K (.ref f0) = true)
    (a1 : PySem.W.nsIn K mainGlobals "_covering" = some (some (.ref f1)))
    (l1 : K.lookup f1 = some ⟨oc1, od1, .func (PySem.W.fnOf "_covering" "_covering" (defArgs st__covering) (defBody st__covering) (defScope st__covering) .none kV1 dc1 pm1 an1 cd1 ct1), sl1⟩)
    (d1 : PySem.W.codeIn K cd1 "_covering" = true)
    (k1 : PySem.W.keepIn K (.ref f1) = true)
    (a2 : PySem.W.nsIn K mainGlobals "_refuted" = some (some (.ref f2)))
    (l2 : K.lookup f2 = some ⟨oc2, od2, .func (PySem.W.fnOf "_refuted" "_refuted" (defArgs st__refuted) (defBody st__refuted) (defScope st__refuted) .none kV2 dc2 pm2 an2 cd2 ct2), sl2⟩)
    (d2 : PySem.W.codeIn K cd2 "_refuted" = true)
    (k2 : PySem.W.keepIn K (.ref f2) = true)
    (a3 : PySem.W.nsIn K mainGlobals "refutation" = some (some (.ref f3)))
    (l3 : K.lookup f3 = some ⟨oc3, od3, .func (PySem.W.fnOf "refutation" "refutation" (defArgs st_refutation) (defBody st_refutation) (defScope st_refutation) .none kV3 dc3 pm3 an3 cd3 ct3), sl3⟩)
    (d3 : PySem.W.codeIn K cd3 "refutation" = true)
    (k3 : PySem.W.keepIn K (.ref f3) = true)
    (a4 : PySem.W.nsIn K mainGlobals "_law_draws_of" = some (some (.ref f4)))
    (l4 : K.lookup f4 = some ⟨oc4, od4, .func (PySem.W.fnOf "_law_draws_of" "_law_draws_of" (defArgs st__law_draws_of) (defBody st__law_draws_of) (defScope st__law_draws_of) .none kV4 dc4 pm4 an4 cd4 ct4), sl4⟩)
    (d4 : PySem.W.codeIn K cd4 "_law_draws_of" = true)
    (k4 : PySem.W.keepIn K (.ref f4) = true)
    (a5 : PySem.W.nsIn K mainGlobals "_law_nth" = some (some (.ref f5)))
    (l5 : K.lookup f5 = some ⟨oc5, od5, .func (PySem.W.fnOf "_law_nth" "_law_nth" (defArgs st__law_nth) (defBody st__law_nth) (defScope st__law_nth) .none kV5 dc5 pm5 an5 cd5 ct5), sl5⟩)
    (d5 : PySem.W.codeIn K cd5 "_law_nth" = true)
    (k5 : PySem.W.keepIn K (.ref f5) = true)
    (a6 : PySem.W.nsIn K mainGlobals "_law_named" = some (some (.ref f6)))
    (l6 : K.lookup f6 = some ⟨oc6, od6, .func (PySem.W.fnOf "_law_named" "_law_named" (defArgs st__law_named) (defBody st__law_named) (defScope st__law_named) .none kV6 dc6 pm6 an6 cd6 ct6), sl6⟩)
    (d6 : PySem.W.codeIn K cd6 "_law_named" = true)
    (k6 : PySem.W.keepIn K (.ref f6) = true)
    (a7 : PySem.W.nsIn K mainGlobals "_law_picked" = some (some (.ref f7)))
    (l7 : K.lookup f7 = some ⟨oc7, od7, .func (PySem.W.fnOf "_law_picked" "_law_picked" (defArgs st__law_picked) (defBody st__law_picked) (defScope st__law_picked) .none kV7 dc7 pm7 an7 cd7 ct7), sl7⟩)
    (d7 : PySem.W.codeIn K cd7 "_law_picked" = true)
    (k7 : PySem.W.keepIn K (.ref f7) = true)
    (a8 : PySem.W.nsIn K mainGlobals "_law_groups_of" = some (some (.ref f8)))
    (l8 : K.lookup f8 = some ⟨oc8, od8, .func (PySem.W.fnOf "_law_groups_of" "_law_groups_of" (defArgs st__law_groups_of) (defBody st__law_groups_of) (defScope st__law_groups_of) .none kV8 dc8 pm8 an8 cd8 ct8), sl8⟩)
    (d8 : PySem.W.codeIn K cd8 "_law_groups_of" = true)
    (k8 : PySem.W.keepIn K (.ref f8) = true)
    (a9 : PySem.W.nsIn K mainGlobals "_law_hits" = some (some (.ref f9)))
    (l9 : K.lookup f9 = some ⟨oc9, od9, .func (PySem.W.fnOf "_law_hits" "_law_hits" (defArgs st__law_hits) (defBody st__law_hits) (defScope st__law_hits) .none kV9 dc9 pm9 an9 cd9 ct9), sl9⟩)
    (d9 : PySem.W.codeIn K cd9 "_law_hits" = true)
    (k9 : PySem.W.keepIn K (.ref f9) = true)
    (a10 : PySem.W.nsIn K mainGlobals "_law_least" = some (some (.ref f10)))
    (l10 : K.lookup f10 = some ⟨oc10, od10, .func (PySem.W.fnOf "_law_least" "_law_least" (defArgs st__law_least) (defBody st__law_least) (defScope st__law_least) .none kV10 dc10 pm10 an10 cd10 ct10), sl10⟩)
    (d10 : PySem.W.codeIn K cd10 "_law_least" = true)
    (k10 : PySem.W.keepIn K (.ref f10) = true)
    (a11 : PySem.W.nsIn K mainGlobals "_law_refutes" = some (some (.ref f11)))
    (l11 : K.lookup f11 = some ⟨oc11, od11, .func (PySem.W.fnOf "_law_refutes" "_law_refutes" (defArgs st__law_refutes) (defBody st__law_refutes) (defScope st__law_refutes) .none kV11 dc11 pm11 an11 cd11 ct11), sl11⟩)
    (d11 : PySem.W.codeIn K cd11 "_law_refutes" = true)
    (k11 : PySem.W.keepIn K (.ref f11) = true)
    (a12 : PySem.W.nsIn K mainGlobals "_law_wide_right" = some (some (.ref f12)))
    (l12 : K.lookup f12 = some ⟨oc12, od12, .func (PySem.W.fnOf "_law_wide_right" "_law_wide_right" (defArgs st__law_wide_right) (defBody st__law_wide_right) (defScope st__law_wide_right) .none kV12 dc12 pm12 an12 cd12 ct12), sl12⟩)
    (d12 : PySem.W.codeIn K cd12 "_law_wide_right" = true)
    (k12 : PySem.W.keepIn K (.ref f12) = true)
    (a13 : PySem.W.nsIn K mainGlobals "law" = some (some (.ref f13)))
    (l13 : K.lookup f13 = some ⟨oc13, od13, .func (PySem.W.fnOf "law" "law" (defArgs st_law) (defBody st_law) (defScope st_law) .none kV13 dc13 pm13 an13 cd13 ct13), sl13⟩)
    (d13 : PySem.W.codeIn K cd13 "law" = true)
    (k13 : PySem.W.keepIn K (.ref f13) = true) :
    ∃ fd : FuncData, (∀ (s : Shared) (v : Value), BindsTo s fd ⟨[v], []⟩ [("_law_script", v)]) ∧ ∀ base : Heap, K.In base → base.Ns mainGlobals mg → FnOk l.prog w K mg base (L2.CX l.prog w) (2 * 40) fa fd ["_law_script"] (spOf ⟨l.prog, w, K, fun _ => none⟩ [.v] (sem tab 40 "law")) := by
  have e := hfa.symm.trans (PySem.W.mg_of X G a13)
  cases e
  have F0 := fun_mk (st := st__missed) l0 d0 k0
  have b0 := F0.binds (ps := ["groups", "chosen"]) fun _ _ _ _ _ _ us hl => match us, hl with | [_, _], _ => rfl
  have F1 := fun_mk (st := st__covering) l1 d1 k1
  have b1 := F1.binds (ps := ["groups", "size", "chosen"]) fun _ _ _ _ _ _ us hl => match us, hl with | [_, _, _], _ => rfl
  have F2 := fun_mk (st := st__refuted) l2 d2 k2
  have b2 := F2.binds (ps := ["groups", "size", "chosen"]) fun _ _ _ _ _ _ us hl => match us, hl with | [_, _, _], _ => rfl
  have F3 := fun_mk (st := st_refutation) l3 d3 k3
  have b3 := F3.binds (ps := ["groups", "size"]) fun _ _ _ _ _ _ us hl => match us, hl with | [_, _], _ => rfl
  have F4 := fun_mk (st := st__law_draws_of) l4 d4 k4
  have b4 := F4.binds (ps := ["_law_script"]) fun _ _ _ _ _ _ us hl => match us, hl with | [_], _ => rfl
  have F5 := fun_mk (st := st__law_nth) l5 d5 k5
  have b5 := F5.binds (ps := ["_law_pool", "_law_k"]) fun _ _ _ _ _ _ us hl => match us, hl with | [_, _], _ => rfl
  have F6 := fun_mk (st := st__law_named) l6 d6 k6
  have b6 := F6.binds (ps := ["_law_k", "_law_style"]) fun _ _ _ _ _ _ us hl => match us, hl with | [_, _], _ => rfl
  have F7 := fun_mk (st := st__law_picked) l7 d7 k7
  have b7 := F7.binds (ps := ["_law_mask", "_law_many", "_law_style"]) fun _ _ _ _ _ _ us hl => match us, hl with | [_, _, _], _ => rfl
  have F8 := fun_mk (st := st__law_groups_of) l8 d8 k8
  have b8 := F8.binds (ps := ["_law_pool", "_law_many", "_law_style", "_law_most"]) fun _ _ _ _ _ _ us hl => match us, hl with | [_, _, _, _], _ => rfl
  have F9 := fun_mk (st := st__law_hits) l9 d9 k9
  have b9 := F9.binds (ps := ["_law_names", "_law_groups"]) fun _ _ _ _ _ _ us hl => match us, hl with | [_, _], _ => rfl
  have F10 := fun_mk (st := st__law_least) l10 d10 k10
  have b10 := F10.binds (ps := ["_law_groups", "_law_many", "_law_style"]) fun _ _ _ _ _ _ us hl => match us, hl with | [_, _, _], _ => rfl
  have F11 := fun_mk (st := st__law_refutes) l11 d11 k11
  have b11 := F11.binds (ps := ["_law_told", "_law_groups", "_law_size", "_law_chosen"]) fun _ _ _ _ _ _ us hl => match us, hl with | [_, _, _, _], _ => rfl
  have F12 := fun_mk (st := st__law_wide_right) l12 d12 k12
  have b12 := F12.binds (ps := ["_law_names", "_law_at"]) fun _ _ _ _ _ _ us hl => match us, hl with | [_, _], _ => rfl
  have F13 := fun_mk (st := st_law) l13 d13 k13
  have b13 := F13.binds (ps := ["_law_script"]) fun _ _ _ _ _ _ us hl => match us, hl with | [_], _ => rfl
  refine ⟨PySem.W.fnOf "law" "law" (defArgs st_law) (defBody st_law) (defScope st_law) .none kV13 dc13 pm13 an13 cd13 ct13, fun s v => .of_eq rfl, fun base _ _ => ?_⟩
  have all : ∀ k, Tab (fun _ => none) l.prog w K mg base k (sem tab k) := fun k => by
    induction k with
    | zero => exact ⟨PySem.W.mg_none_of X G z_enumerate, PySem.W.mg_none_of X G z_any, PySem.W.mg_none_of X G z_len, PySem.W.mg_none_of X G z_int, PySem.W.mg_none_of X G z_abs, PySem.W.mg_none_of X G z_range, PySem.W.mg_none_of X G z_str, PySem.W.mg_none_of X G z_isinstance, PySem.W.mg_none_of X G z_tuple, PySem.W.mg_none_of X G z_list, PySem.W.mg_none_of X G z_bool, FnT.zero (PySem.W.mg_of X G a0) k0 b0, FnT.zero (PySem.W.mg_of X G a1) k1 b1, FnT.zero (PySem.W.mg_of X G a2) k2 b2, FnT.zero (PySem.W.mg_of X G a3) k3 b3, FnT.zero (PySem.W.mg_of X G a4) k4 b4, FnT.zero (PySem.W.mg_of X G a5) k5 b5, FnT.zero (PySem.W.mg_of X G a6) k6 b6, FnT.zero (PySem.W.mg_of X G a7) k7 b7, FnT.zero (PySem.W.mg_of X G a8) k8 b8, FnT.zero (PySem.W.mg_of X G a9) k9 b9, FnT.zero (PySem.W.mg_of X G a10) k10 b10, FnTD.zero (PySem.W.mg_of X G a11) k11 b11, FnT.zero (PySem.W.mg_of X G a12) k12 b12, FnT.zero (PySem.W.mg_of X G a13) k13 b13⟩
    | succ k ih => exact ⟨PySem.W.mg_none_of X G z_enumerate, PySem.W.mg_none_of X G z_any, PySem.W.mg_none_of X G z_len, PySem.W.mg_none_of X G z_int, PySem.W.mg_none_of X G z_abs, PySem.W.mg_none_of X G z_range, PySem.W.mg_none_of X G z_str, PySem.W.mg_none_of X G z_isinstance, PySem.W.mg_none_of X G z_tuple, PySem.W.mg_none_of X G z_list, PySem.W.mg_none_of X G z_bool, FnT.succ (ok__missed F0 ih) (PySem.W.mg_of X G a0) k0 b0 rfl, FnT.succ (ok__covering F1 ih) (PySem.W.mg_of X G a1) k1 b1 rfl, FnT.succ (ok__refuted F2 ih) (PySem.W.mg_of X G a2) k2 b2 rfl, FnT.succ (ok_refutation F3 ih) (PySem.W.mg_of X G a3) k3 b3 rfl, FnT.succ (ok__law_draws_of F4 ih) (PySem.W.mg_of X G a4) k4 b4 rfl, FnT.succ (ok__law_nth F5 ih) (PySem.W.mg_of X G a5) k5 b5 rfl, FnT.succ (ok__law_named F6 ih) (PySem.W.mg_of X G a6) k6 b6 rfl, FnT.succ (ok__law_picked F7 ih) (PySem.W.mg_of X G a7) k7 b7 rfl, FnT.succ (ok__law_groups_of F8 ih) (PySem.W.mg_of X G a8) k8 b8 rfl, FnT.succ (ok__law_hits F9 ih) (PySem.W.mg_of X G a9) k9 b9 rfl, FnT.succ (ok__law_least F10 ih) (PySem.W.mg_of X G a10) k10 b10 rfl, FnTD.succ (ok__law_refutes F11 ih) (PySem.W.mg_of X G a11) k11 b11 rfl, FnT.succ (ok__law_wide_right F12 ih) (PySem.W.mg_of X G a12) k12 b12 rfl, FnT.succ (ok_law F13 ih) (PySem.W.mg_of X G a13) k13 b13 rfl⟩
  have e : sem tab 40 "law" = T_law.run (sem tab 39) := by funext ds; simp only [sem, tab]
  rw [e]
  exact ok_law F13 (all 39)

theorem lawWalk (sol : ∀ ns : List Int, ns.length ≤ 63 → sem tab 40 "law" [.scr (ns.map .int)] = .ok false (.bl true) []) {l : PySem.W.OpenLaw} {q : Program} {loose : List Str} {XP : (Str → Option Value) → Heap → Prop} {YP : World → Heap → Prop} {d : DefRec} {K : Params → PySem.W.Frag} (hn : l.most = some 63) (hdf : d.params.defaults = [])
    (hY : ∀ (w : World) (h : Heap), YP w h → (K w.params).In h)
    (F : ∀ (w : World) (mg : Str → Option Value) (fa : Addr) (h : Heap), (K w.params).In h → h.Ns mainGlobals mg → mg d.name = some (.ref fa) →
      ∃ fd : FuncData, (∀ (s : Shared) (u : Value), BindsTo s fd ⟨[u], []⟩ [("_law_script", u)]) ∧ ∀ base : Heap, (K w.params).In base → base.Ns mainGlobals mg → FnOk l.prog w (K w.params) mg base (L2.CX l.prog w) (2 * 40) fa fd ["_law_script"] (spOf ⟨l.prog, w, K w.params, fun _ => none⟩ [.v] (sem tab 40 "law"))) :
    PySem.W.WalkO q loose XP YP l.row.toRowW d [] (fun f vs => PySem.call f vs) :=
  L2.walk_of (n := 63) (k := 2 * 40) (x := "_law_script") (CX := fun w => L2.CX l.prog w) (sp := fun w => (spOf ⟨l.prog, w, K w.params, fun _ => none⟩ [.v] (sem tab 40 "law"))) hn (by decide) hdf ⟨rfl, by decide, by decide⟩ hY F (fun _ _ a ns hl _ hS => law_end hS (sol ns hl)) law_CX
end S3


namespace S3
open PySem
/-! the pool of draws -/
def InR (ps : List Int) : Prop := ∀ p ∈ ps, 0 ≤ p ∧ p < 65536
theorem InR.app {ps : List Int} {p : Int} (h : InR ps) (h0 : 0 ≤ p) (h1 : p < 65536) : InR (ps ++ [p]) := fun q hq => by
  rcases List.mem_append.mp hq with z | z
  · exact h q z
  · cases List.mem_singleton.mp z; exact ⟨h0, h1⟩
def lints (ps : List Int) : D := .lst (ps.map .int)
theorem lints_app (ps : List Int) (p : Int) (h : ps.length < BIG) : mAppend (lints ps) [.int p] = some (lints (ps ++ [p]), .fz .non) := by
  show (if (ps.map D.int).length < BIG then _ else _) = _
  rw [if_pos (by rw [List.length_map]; exact h)]
  simp [lints]
theorem lints_isLst (ps : List Int) : isLst (lints ps) = true := rfl
theorem lints_len (ps : List Int) : opLen (lints ps) = some (.fz (.int ps.length)) := by simp [lints]
def Long (ps : List Int) (i : Nat) : Prop := ps.length ≤ 131 ∧ ((i = 0 ∧ ps.length = 0) ∨ 3 ≤ ps.length)
theorem draws_run (phi : String → List D → RC) (ns : List Int) (hn : ns.length ≤ 63) : ∃ ps : List Int, 3 ≤ ps.length ∧ ps.length ≤ 131 ∧ InR ps ∧ T__law_draws_of.run phi [.scr (ns.map .int)] = .ok true (lints ps) [] := by
  rw [run_is rfl]
  show ∃ ps : List Int, _ ∧ _ ∧ _ ∧ finish [.r] (b__law_draws_of phi [.bo (.scr (ns.map .int)), .no, .no, .no, .no]) = _
  unfold b__law_draws_of
  rw [sSeq_e]
  simp [-sSeq_e]
  refine seq_for (ds := ns.map .int) (Q := fun r => ∃ ps : List Int, 3 ≤ ps.length ∧ ps.length ≤ 131 ∧ InR ps ∧ finish [Md.r] r = .ok true (lints ps) []) (e0 := [.bo (.scr (ns.map .int)), .ow (lints []), .no, .no, .no]) ?_
    (fun i e => ∃ ps, e = [.bo (.scr (ns.map .int)), .ow (lints ps), .no, .no, .no] ∧ InR ps ∧ Long ps i) ⟨[], rfl, fun _ h => absurd h (by simp), by decide, .inl ⟨rfl, rfl⟩⟩ ?_ ?_
  · simp [lints]
  · rintro R _ _ _ i d e hd ⟨ps, rfl, hr, hl⟩
    rw [List.getElem?_map, Option.map_eq_some_iff] at hd
    obtain ⟨z, _, rfl⟩ := hd
    refine ⟨_, rfl, ?_⟩
    by_cases h1 : (ps.length : Int) < 72
    · have hps : ps.length < 72 := by omega
      by_cases h2 : (if z < 0 then -z else z) < 1000000000000000000
      · simp [lints_len, h1, opPow_i, h2]
        have hw0 : 0 ≤ (if z < 0 then -z else z) := by split <;> omega
        generalize (if z < 0 then -z else z) = w at h2 hw0
        refine sole_for (Q := turnP _ _ _) (ds := rng 0 3) (e0 := [.bo (.scr (ns.map .int)), .ow (lints ps), .fz (.int z), .fz (.int w), .no]) (by simp)
          (fun j e => ∃ qs w, e = [.bo (.scr (ns.map .int)), .ow (lints qs), .fz (.int z), .fz (.int w), .no] ∧ InR qs ∧ qs.length = ps.length + j ∧ 0 ≤ w) ⟨ps, w, rfl, hr, rfl, hw0⟩ ?_ ?_
        · rintro j d e hd ⟨qs, w, rfl, hq, hl2, hw⟩
          obtain ⟨rfl, hj⟩ := rng0_get hd
          refine ⟨_, rfl, ?_⟩
          have hb : qs.length < BIG := by simp [BIG]; omega
          simp [lints_isLst]
          rw [lints_app _ _ hb]
          simp
          exact ⟨_, _, ⟨rfl, rfl⟩, hq.app (by omega) (by omega), by simp; omega, by omega⟩
        · rintro e ⟨qs, w, rfl, hq, hl2, hw⟩
          simp
          refine ⟨qs, rfl, hq, ?_, .inr ?_⟩
          · simp at hl2; omega
          · simp at hl2; omega
      · simp [lints_len, h1, opPow_i, h2]
        have hw0 : 1000000000000000000 ≤ (if z < 0 then -z else z) := by omega
        generalize (if z < 0 then -z else z) = w at h2 hw0
        refine sole_for (Q := turnP _ _ _) (ds := rng 0 60) (e0 := [.bo (.scr (ns.map .int)), .ow (lints ps), .fz (.int z), .fz (.int w), .no]) (by simp)
          (fun j e => ∃ qs w, e = [.bo (.scr (ns.map .int)), .ow (lints qs), .fz (.int z), .fz (.int w), .no] ∧ InR qs ∧ qs.length ≤ ps.length + j ∧ 0 ≤ w ∧
            ((j = 0 ∧ 1000000000000000000 ≤ w) ∨ (j = 1 ∧ 15258789062500 ≤ w ∧ 1 ≤ qs.length) ∨ (j = 2 ∧ 232830643 ≤ w ∧ 2 ≤ qs.length) ∨ 3 ≤ qs.length)) ⟨ps, w, rfl, hr, Nat.le_refl _, by omega, .inl ⟨rfl, hw0⟩⟩ ?_ ?_
        · rintro j d e hd ⟨qs, w, rfl, hq, hl2, hw, hc⟩
          obtain ⟨rfl, hj⟩ := rng0_get hd
          refine ⟨_, rfl, ?_⟩
          have hb : qs.length < BIG := by simp [BIG]; omega
          by_cases h3 : 0 < w
          · simp [lints_isLst, h3]
            rw [lints_app _ _ hb]
            simp
            exact ⟨_, _, ⟨rfl, rfl⟩, hq.app (by omega) (by omega), by simp; omega, by omega, by simp; omega⟩
          · simp [h3]
            exact ⟨_, _, ⟨rfl, rfl⟩, hq, by omega, by omega, by omega⟩
        · rintro e ⟨qs, w, rfl, hq, hl2, hw, hc⟩
          simp at hl2 hc
          simp
          refine ⟨qs, rfl, hq, ?_, .inr ?_⟩
          · omega
          · omega
    · have h3 : 3 ≤ ps.length := by omega
      simp [lints_len, h1]
      exact ⟨ps, rfl, hr, hl.1, .inr h3⟩
  · rintro e ⟨ps, rfl, hr, hl⟩
    cases ps with
    | nil =>
      have hq : opEq (lints []) (.lst []) = some (.fz (.bl true)) := opEq_nil []
      refine ⟨[2, 10, 1, 0, 4, 0, 1052, 0, 148, 26, 132, 0, 20], by decide, by decide, fun p hp => (by simp at hp; omega), ?_⟩
      simp [hq]
      rfl
    | cons p ps =>
      have hq : opEq (lints (p :: ps)) (.lst []) = some (.fz (.bl false)) := opEq_nil (p :: ps)
      refine ⟨p :: ps, ?_, hl.1, hr, ?_⟩
      · rcases hl.2 with ⟨_, z⟩ | z
        · cases z
        · exact z
      · simp [hq]
theorem lints_get {ps : List Int} (hr : InR ps) {i : Int} (h0 : 0 ≤ i) (h1 : i < ps.length) : ∃ p, 0 ≤ p ∧ p < 65536 ∧ opIx (lints ps) (.int i) = some (.fz (.int p)) := by
  obtain ⟨x, h2, h3⟩ := atI_lt (xs := ps.map D.int) h0 (by rw [List.length_map]; exact h1)
  rw [List.getElem?_map, Option.map_eq_some_iff] at h2
  obtain ⟨p, h4, rfl⟩ := h2
  have := hr p (List.mem_of_getElem? h4)
  refine ⟨p, this.1, this.2, ?_⟩
  show (L2.atI (ps.map D.int) i).map RV.fz = _
  rw [h3]
  rfl
theorem nth_run (phi : String → List D → RC) {ps : List Int} (hr : InR ps) (hl : 3 ≤ ps.length) {k : Int} (hk : 0 ≤ k) (hk2 : k < 2 ^ 40) : ∃ p, 0 ≤ p ∧ p < 65536 ∧ T__law_nth.run phi [lints ps, .int k] = .ok false (.int p) [] := by
  rw [run_is rfl]
  show ∃ p, _ ∧ _ ∧ finish [.r, .r] (b__law_nth phi [.bo (lints ps), .bo (.int k)]) = _
  unfold b__law_nth
  by_cases h : k < ps.length
  · obtain ⟨p, h1, h2, h3⟩ := lints_get hr hk h
    refine ⟨p, h1, h2, ?_⟩
    simp [lints_len, h, h3]
  · have hm : 0 ≤ k % (ps.length : Int) := Int.emod_nonneg _ (by omega)
    have hm2 : k % (ps.length : Int) < ps.length := Int.emod_lt_of_pos _ (by omega)
    have hp : 0 < ps.length := by omega
    obtain ⟨p, h1, h2, h3⟩ := lints_get hr hm hm2
    refine ⟨(p * 31 + k * 7919) % 65521, by omega, by omega, ?_⟩
    simp [lints_len, h, h3, hp]


end S3
namespace S3
open PySem
/-! names drawn: _law_named -/
def letC (k s : Int) : Nat := (97 + (k * 7 + s / 4) % 26).toNat
def S1 (c : Nat) : Str := ⟨#[c]⟩
/-- the name of place k in style s -/
def nmS (k s : Int) : Str :=
  if s % 4 = 1 ∧ s / 4 % 2 = 1 then (["write", "none", "read", "own", "close", "leads", "program", "to", "begin", "quit"] : List Str).getD (k % 10).toNat "" ++ strRep "2" (k / 10)
  else if s % 4 = 3 ∧ s / 4 % 2 = 1 then strRep "b" (k / 7) ++ strRep "a" (k % 7 + 1)
  else if s % 4 = 1 then strRep "q" (k % 3) ++ S1 (letC k s)
  else if s % 4 = 2 then
    let base := S1 (letC k s) ++ ((toString (s / 4 % 10000) : String) : Str)
    if k % 4 = 3 then base ++ strRep "x" (8 - base.length) else base ++ strRep "x" (k % 4)
  else if s % 4 = 3 then ("m" : Str) ++ ((toString (100 - 7 * k) : String) : Str)
  else S1 (letC k s)
theorem let_at (i : Int) (h0 : 0 ≤ i) (h1 : i < 26) : L2.atI ("abcdefghijklmnopqrstuvwxyz" : Str).cps.toList i = some (97 + i).toNat := by
  have all : ∀ n : Fin 26, ("abcdefghijklmnopqrstuvwxyz" : Str).cps.toList[n.1]? = some (97 + n.1) := by decide +kernel
  refine atI_nat h0 ?_
  have h := all ⟨i.toNat, by omega⟩
  dsimp only at h
  rw [h, show (97 + i).toNat = 97 + i.toNat by omega]
theorem word_at (i : Int) (h0 : 0 ≤ i) (h1 : i < 10) : L2.atI [D.str "write", D.str "none", D.str "read", D.str "own", D.str "close", D.str "leads", D.str "program", D.str "to", D.str "begin", D.str "quit"] i = some (.str ((["write", "none", "read", "own", "close", "leads", "program", "to", "begin", "quit"] : List Str).getD i.toNat "")) := by
  refine atI_nat h0 ?_
  obtain ⟨n, rfl⟩ : ∃ n : Nat, i = n := ⟨i.toNat, by omega⟩
  have hn : n < 10 := by omega
  clear h0 h1
  rw [Int.toNat_natCast]
  match n, hn with
  | 0, _ => rfl
  | 1, _ => rfl
  | 2, _ => rfl
  | 3, _ => rfl
  | 4, _ => rfl
  | 5, _ => rfl
  | 6, _ => rfl
  | 7, _ => rfl
  | 8, _ => rfl
  | 9, _ => rfl
theorem opMul_s (x : Str) (n : Int) (h1 : -1000 ≤ n) (h2 : n ≤ 1000) (h3 : x.length ≤ 1000) : opMul (.str x) (.int n) = some (.fz (.str (strRep x n))) := by
  show (if _ then _ else _) = _
  rw [if_pos ⟨h1, h2, h3⟩]
theorem rep_len (x : Str) (n : Int) (h : x.length = 1) : (strRep x n).length = n.toNat := by
  show (List.replicate n.toNat x.cps.toList).flatten.toArray.size = _
  have : x.cps.toList.length = 1 := h
  simp [this]
theorem app_len (x y : Str) : (x ++ y).length = x.length + y.length := by
  show (x.cps ++ y.cps).size = _
  rw [Array.size_append]
  rfl
theorem opStr_i (i : Int) (h : i.natAbs < 2 ^ 40) : opStr (.int i) = some (.fz (.str ((toString i : String) : Str))) := by
  show (if _ then _ else _) = _
  rw [if_pos]
  by_cases z : i.natAbs = 0
  · rw [z]; decide
  · have := (Nat.log2_lt z).mpr h
    omega
theorem addC (x y : Str) (h : x.length ≤ 2000) (h2 : y.length ≤ 2000) : opAdd (.str x) (.str y) = some (.fz (.str (x ++ y))) := by
  rw [opAdd_s, if_pos]
  show x.length + y.length ≤ 16777216
  omega
theorem one_len (a : Nat) : (S1 a).length = 1 := rfl
theorem num_len {i : Int} (h0 : 0 ≤ i) (h1 : i < 10000) : ((toString i : String) : Str).length ≤ 5 := by
  rw [PySem.ofString_length]
  exact PySem.int_text_length_le10 (k := 4) (by decide) (by omega)
theorem named_run (phi : String → List D → RC) {k s : Int} (h0 : 0 ≤ k) (h1 : k < 30) (s0 : 0 ≤ s) (s1 : s < 65536) : T__law_named.run phi [.int k, .int s] = .ok false (.str (nmS k s)) [] := by
  rw [run_is rfl]
  show finish [.r, .r] (b__law_named phi [.bo (.int k), .bo (.int s), .no, .no, .no, .no]) = _
  unfold b__law_named
  have hl := let_at ((k * 7 + s / 4) % 26) (by omega) (by omega)
  have hl2 : (97 + (k * 7 + s / 4) % 26).toNat = letC k s := rfl
  rw [hl2] at hl
  have hw := word_at (k % 10) (by omega) (by omega)
  unfold nmS
  by_cases c1 : s % 4 = 1
  · by_cases c2 : s / 4 % 2 = 1
    · rw [if_pos ⟨c1, c2⟩]
      have hm := opMul_s "2" (k / 10) (by omega) (by omega) (by decide +kernel)
      have hwl : ∀ n : Nat, n < 10 → ((["write", "none", "read", "own", "close", "leads", "program", "to", "begin", "quit"] : List Str).getD n "").length ≤ 10 := by
        intro n hn
        have : ∀ n : Fin 10, ((["write", "none", "read", "own", "close", "leads", "program", "to", "begin", "quit"] : List Str).getD n.1 "").length ≤ 10 := by decide +kernel
        exact this ⟨n, hn⟩
      have ha := addC ((["write", "none", "read", "own", "close", "leads", "program", "to", "begin", "quit"] : List Str).getD (k % 10).toNat "") (strRep "2" (k / 10)) (Nat.le_trans (hwl _ (by omega)) (by decide)) (by rw [rep_len _ _ (by decide +kernel)]; omega)
      generalize (["write", "none", "read", "own", "close", "leads", "program", "to", "begin", "quit"] : List Str).getD (k % 10).toNat "" = wd at hw ha
      simp [-opAdd_s, hl, opEq_i, c1, c2, hw, hm, ha]
    · rw [if_neg (fun z => c2 z.2), if_neg (fun z => by omega), if_pos c1]
      have hm := opMul_s "q" (k % 3) (by omega) (by omega) (by decide +kernel)
      have ha := addC (strRep "q" (k % 3)) (S1 (letC k s)) (by rw [rep_len _ _ (by decide +kernel)]; omega) (by rw [one_len]; decide)
      unfold S1 at ha ⊢
      simp [-opAdd_s, hl, opEq_i, c1, c2, hm, ha]
  · rw [if_neg (fun z => c1 z.1)]
    by_cases c3 : s % 4 = 3
    · by_cases c2 : s / 4 % 2 = 1
      · rw [if_pos ⟨c3, c2⟩]
        have hm := opMul_s "b" (k / 7) (by omega) (by omega) (by decide +kernel)
        have hm2 := opMul_s "a" (k % 7 + 1) (by omega) (by omega) (by decide +kernel)
        have ha := addC (strRep "b" (k / 7)) (strRep "a" (k % 7 + 1)) (by rw [rep_len _ _ (by decide +kernel)]; omega) (by rw [rep_len _ _ (by decide +kernel)]; omega)
        simp [-opAdd_s, hl, opEq_i, c3, c2, hm, hm2, ha]
      · rw [if_neg (fun z => c2 z.2), if_neg c1, if_neg (by omega), if_pos c3]
        have hs := opStr_i (100 - 7 * k) (by omega)
        have hn : ((toString (100 - 7 * k) : String) : Str).length ≤ 1921 := PyProof.Rows.int_text_len_1921 (by
          by_cases z : (100 - 7 * k).natAbs = 0
          · rw [z]; decide
          · have := (Nat.log2_lt z).mpr (show (100 - 7 * k).natAbs < 2 ^ 40 by omega)
            omega)
        have ha := addC "m" ((toString (100 - 7 * k) : String) : Str) (by decide +kernel) (by omega)
        generalize (toString (100 - 7 * k) : String) = st at hs hn ha
        simp [-opAdd_s, hl, opEq_i, c3, c2, hs, ha]
    · rw [if_neg (fun z => c3 z.1), if_neg c1]
      by_cases c4 : s % 4 = 2
      · rw [if_pos c4]
        have hs := opStr_i (s / 4 % 10000) (by omega)
        have hn : ((toString (s / 4 % 10000) : String) : Str).length ≤ 1921 := PyProof.Rows.int_text_len_1921 (by
          by_cases z : (s / 4 % 10000).natAbs = 0
          · rw [z]; decide
          · have := (Nat.log2_lt z).mpr (show (s / 4 % 10000).natAbs < 2 ^ 40 by omega)
            omega)
        have ha := addC (S1 (letC k s)) ((toString (s / 4 % 10000) : String) : Str) (by rw [one_len]; decide) (by omega)
        have hb : (S1 (letC k s) ++ ((toString (s / 4 % 10000) : String) : Str)).length ≤ 1922 := by rw [app_len, one_len]; omega
        have hb2 : ((S1 (letC k s) ++ ((toString (s / 4 % 10000) : String) : Str)).length : Int) ≤ 9 := by rw [app_len, one_len]; have := num_len (i := s / 4 % 10000) (by omega) (by omega); omega
        dsimp only
        generalize (toString (s / 4 % 10000) : String) = st at hs hn ha hb hb2
        generalize S1 (letC k s) ++ (st : Str) = base at ha hb hb2
        by_cases c5 : k % 4 = 3
        · rw [if_pos c5]
          have hm := opMul_s "x" (8 - (base.length : Int)) (by omega) (by omega) (by decide +kernel)
          have hc := addC base (strRep "x" (8 - (base.length : Int))) (by omega) (by rw [rep_len _ _ (by decide +kernel)]; omega)
          unfold S1 at ha
          simp [-opAdd_s, hl, opEq_i, c1, c3, c4, c5, hs, ha, hm, hc]
        · rw [if_neg c5]
          have hm := opMul_s "x" (k % 4) (by omega) (by omega) (by decide +kernel)
          have hc := addC base (strRep "x" (k % 4)) (by omega) (by rw [rep_len _ _ (by decide +kernel)]; omega)
          unfold S1 at ha
          simp [-opAdd_s, hl, opEq_i, c1, c3, c4, c5, hs, ha, hm, hc]
      · rw [if_neg c4, if_neg c3]
        simp [-opAdd_s, hl, opEq_i, c1, c3, c4]
        rfl

end S3
namespace S3
open PySem
/-! the names of one style differ -/
theorem letC_inj {a b s : Int} (a0 : 0 ≤ a) (a1 : a < 26) (b0 : 0 ≤ b) (b1 : b < 26) (s0 : 0 ≤ s) (h : letC a s = letC b s) : a = b := by
  unfold letC at h
  omega
theorem cps_app (x y : Str) : (x ++ y).cps.toList = x.cps.toList ++ y.cps.toList := by
  show (x.cps ++ y.cps).toList = _
  rw [Array.toList_append]
abbrev WDS : List Str := ["write", "none", "read", "own", "close", "leads", "program", "to", "begin", "quit"]
theorem fin16 {f : Int → Str} (h : ∀ a b : Fin 16, f (a.1 : Int) = f (b.1 : Int) → a = b) {a b : Int} (a0 : 0 ≤ a) (a1 : a < 16) (b0 : 0 ≤ b) (b1 : b < 16) (e : f a = f b) : a = b := by
  have ea : ((a.toNat : Nat) : Int) = a := by omega
  have eb : ((b.toNat : Nat) : Int) = b := by omega
  have := h ⟨a.toNat, by omega⟩ ⟨b.toNat, by omega⟩ (by dsimp only; rw [ea, eb]; exact e)
  have := congrArg Fin.val this
  dsimp only at this
  omega
theorem last_of_app {x : Str} {a : Nat} : (x ++ S1 a).cps.toList.getLast? = some a := by rw [cps_app]; simp [S1]
theorem head_of_app2 {x y : Str} {a : Nat} : (S1 a ++ x ++ y).cps.toList.head? = some a := by rw [cps_app, cps_app]; simp [S1]
theorem nm_inj {a b s : Int} (a0 : 0 ≤ a) (a1 : a < 16) (b0 : 0 ≤ b) (b1 : b < 16) (s0 : 0 ≤ s) (h : nmS a s = nmS b s) : a = b := by
  unfold nmS at h
  by_cases c1 : s % 4 = 1 ∧ s / 4 % 2 = 1
  · rw [if_pos c1, if_pos c1] at h
    exact fin16 (f := fun k => WDS.getD (k % 10).toNat "" ++ strRep "2" (k / 10)) (by decide +kernel) a0 a1 b0 b1 h
  · rw [if_neg c1, if_neg c1] at h
    by_cases c2 : s % 4 = 3 ∧ s / 4 % 2 = 1
    · rw [if_pos c2, if_pos c2] at h
      exact fin16 (f := fun k => strRep "b" (k / 7) ++ strRep "a" (k % 7 + 1)) (by decide +kernel) a0 a1 b0 b1 h
    · rw [if_neg c2, if_neg c2] at h
      by_cases c3 : s % 4 = 1
      · rw [if_pos c3, if_pos c3] at h
        have e := congrArg (fun x : Str => x.cps.toList.getLast?) h
        try dsimp only at e
        rw [last_of_app, last_of_app] at e
        exact letC_inj a0 (by omega) b0 (by omega) s0 (Option.some.inj e)
      · rw [if_neg c3, if_neg c3] at h
        by_cases c4 : s % 4 = 2
        · rw [if_pos c4, if_pos c4] at h
          have e := congrArg (fun x : Str => x.cps.toList.head?) h
          try dsimp only at e
          have hd : ∀ k : Int, (if k % 4 = 3 then S1 (letC k s) ++ ((toString (s / 4 % 10000) : String) : Str) ++ strRep "x" (8 - ((S1 (letC k s) ++ ((toString (s / 4 % 10000) : String) : Str)).length : Int)) else S1 (letC k s) ++ ((toString (s / 4 % 10000) : String) : Str) ++ strRep "x" (k % 4)).cps.toList.head? = some (letC k s) := by
            intro k
            split <;> exact head_of_app2
          rw [hd, hd] at e
          exact letC_inj a0 (by omega) b0 (by omega) s0 (Option.some.inj e)
        · rw [if_neg c4, if_neg c4] at h
          by_cases c5 : s % 4 = 3
          · rw [if_pos c5, if_pos c5] at h
            exact fin16 (f := fun k => ("m" : Str) ++ ((toString (100 - 7 * k) : String) : Str)) (by decide +kernel) a0 a1 b0 b1 h
          · rw [if_neg c5, if_neg c5] at h
            have e := congrArg (fun x : Str => x.cps.toList.head?) h
            exact letC_inj a0 (by omega) b0 (by omega) s0 (Option.some.inj e)
end S3
namespace S3
open PySem
end S3
namespace S3
open PySem
theorem eqv_ss (a b : Str) : PyData.eqv (.str a) (.str b) = decide (a = b) := by
  by_cases h : a = b
  · subst h; simp [PyData.eqv]
  · simp [PyData.eqv, h]
theorem all_strL (xs : List Str) (n : Nat) : (strL xs).all (okD n) = true := by
  unfold strL
  rw [List.all_map, List.all_eq_true]
  intro x _
  cases n <;> rfl
theorem in_strL (x : Str) (xs : List Str) : opIn (.str x) (.lst (strL xs)) = some (.fz (.bl (decide (x ∈ xs)))) := by
  show bRV (if (okD 6 (.str x) && (strL xs).all (okD 5)) = true then some ((strL xs).any fun z => PyData.eqv (py 6 z) (py 6 (.str x))) else none) = _
  rw [all_strL xs 5, show okD 6 (.str x) = true from rfl, Bool.true_and, if_pos rfl]
  show some (RV.fz (D.bl _)) = _
  congr 3
  unfold strL
  rw [List.any_map]
  induction xs with
  | nil => rfl
  | cons y ys ih =>
    rw [List.any_cons, ih]
    show (PyData.eqv (.str y) (.str x) || _) = _
    rw [eqv_ss]
    by_cases c : y = x
    · subst c; simp
    · have c2 : ¬ x = y := fun z => c z.symm
      simp [c, c2]
theorem app_strL (xs : List Str) (t : Str) (h : xs.length < BIG) : mAppend (.lst (strL xs)) [.str t] = some (.lst (strL (xs ++ [t])), .fz .non) := by
  show (if (strL xs).length < BIG then _ else _) = _
  rw [if_pos (by unfold strL; rw [List.length_map]; exact h)]
  simp [strL]
theorem strL_get {xs : List Str} {i : Int} {x : Str} (h0 : 0 ≤ i) (h : xs[i.toNat]? = some x) : L2.atI (strL xs) i = some (.str x) := by
  refine atI_nat h0 ?_
  unfold strL
  rw [List.getElem?_map, h]
  rfl
theorem cutHi_nat {xs : List D} {i : Int} (h0 : 0 ≤ i) : cutD xs none (some i) = xs.take i.toNat := by
  unfold cutD
  have e : HT.sIx xs.length xs.length (some i) = min i.toNat xs.length := by
    have := HT.sIx_nat xs.length xs.length i.toNat
    rwa [Int.toNat_of_nonneg h0] at this
  rw [e]
  show (xs.drop 0).take (min i.toNat xs.length - 0) = _
  rw [List.drop_zero, List.take_eq_take_iff]
  omega
theorem opCutHi_strL {xs : List Str} {i : Int} (h0 : 0 ≤ i) : opCutHi (.lst (strL xs)) (.int i) = some (.nw (.lst (strL (xs.take i.toNat)))) := by
  show some (RV.nw (D.lst (cutD (strL xs) none (some i)))) = _
  rw [cutHi_nat h0]
  unfold strL
  rw [List.map_take]
theorem opNe_strL (p q : List Str) : opNe (.lst (strL p)) (.lst (strL q)) = some (.fz (.bl (!decide (p = q)))) := opNe_enc p q
end S3
namespace S3
open PySem
def bitAt (mask : Int) (i : Nat) : Bool := decide (mask / 2 ^ i % 2 = 1)
def pick (mask s : Int) (n : Nat) : List Str := ((List.range n).filter (bitAt mask)).map fun i : Nat => nmS (i : Int) s
theorem opShr_i (i j : Int) (h : 0 ≤ j) : opShr (.int i) (.int j) = some (.fz (.int (i / 2 ^ j.toNat))) := if_pos h
theorem picked_run (phi : String → List D → RC) {mask m s : Int} (hm : 0 ≤ m) (hm2 : m ≤ 30)
    (hN : ∀ k : Int, 0 ≤ k → k < 30 → phi "_law_named" [.int k, .int s] = .ok false (.str (nmS k s)) []) :
    T__law_picked.run phi [.int mask, .int m, .int s] = .ok true (.lst (strL (pick mask s m.toNat))) [] := by
  rw [run_is rfl]
  show finish [.r, .v, .r] (b__law_picked phi [.bo (.int mask), .fz (.int m), .bo (.int s), .no, .no]) = _
  unfold b__law_picked
  rw [sSeq_e]
  simp [-sSeq_e]
  refine seq_for (ds := rng 0 m) (e0 := [.bo (.int mask), .fz (.int m), .bo (.int s), .ow (.lst []), .no]) (Q := fun r => finish [.r, .v, .r] r = .ok true (.lst (strL (pick mask s m.toNat))) []) (by simp; omega)
    (fun k e => e = [.bo (.int mask), .fz (.int m), .bo (.int s), .ow (.lst (strL (pick mask s k))), .no]) rfl ?_ ?_
  · rintro R _ _ _ k d e hd rfl
    obtain ⟨rfl, hk⟩ := rng0_get hd
    have n1 := hN k (by omega) (by omega)
    have hl : (pick mask s k).length ≤ k := by
      unfold pick
      rw [List.length_map]
      exact Nat.le_trans (List.length_filter_le _ _) (by rw [List.length_range]; exact Nat.le_refl _)
    have happ := app_strL (pick mask s k) (nmS k s) (by show _ < 16777216; omega)
    have hsh : opShr (.int mask) (.int k) = some (.fz (.int (mask / 2 ^ k))) := by rw [opShr_i _ _ (by omega), Int.toNat_natCast]
    have hp : pick mask s (k + 1) = pick mask s k ++ (if bitAt mask k then [nmS k s] else []) := by
      unfold pick
      rw [List.range_succ, List.filter_append, List.map_append]
      congr 1
      by_cases c : bitAt mask k <;> simp [c]
    refine ⟨_, rfl, ?_⟩
    by_cases c : mask / 2 ^ k % 2 = 1
    · simp [-mApp_l, hsh, opEq_i, c, n1, happ]
      rw [hp, if_pos (by unfold bitAt; rw [c]; rfl)]
    · simp [-mApp_l, hsh, opEq_i, c]
      rw [hp, if_neg (by unfold bitAt; simp [c]), List.append_nil]
  · rintro e rfl
    rw [rng_len, Int.sub_zero]
    simp


end S3
namespace S3
open PySem
/-! covers -/
def grD (Gs : List (List Str)) : D := .lst (Gs.map fun g => .lst (strL g))
def hitB (C g : List Str) : Bool := g.any fun x => decide (x ∈ C)
def Covers (C : List Str) (Gs : List (List Str)) : Prop := ∀ g ∈ Gs, hitB C g = true
theorem hitB_iff {C g : List Str} : hitB C g = true ↔ ∃ x ∈ g, x ∈ C := by
  unfold hitB
  rw [List.any_eq_true]
  exact ⟨fun ⟨x, h1, h2⟩ => ⟨x, h1, of_decide_eq_true h2⟩, fun ⟨x, h1, h2⟩ => ⟨x, h1, decide_eq_true h2⟩⟩
theorem Covers.mono {C E : List Str} {Gs : List (List Str)} (h : Covers C Gs) (s : ∀ x ∈ C, x ∈ E) : Covers E Gs := fun g hg => by
  obtain ⟨x, h1, h2⟩ := hitB_iff.mp (h g hg)
  exact hitB_iff.mpr ⟨x, h1, s x h2⟩
theorem toBools_map {α : Type} (l : List α) (f : α → Bool) : toBools (l.map fun c => D.bl (f c)) = some (l.map f) := by
  induction l with
  | nil => rfl
  | cons a l ih => simp only [List.map_cons, toBools, ih]; rfl
theorem opAny_map {α : Type} (l : List α) (f : α → Bool) : opAny (.lst (l.map fun c => D.bl (f c))) = some (.fz (.bl (l.any f))) := by
  show (toBools _).map _ = _
  rw [toBools_map, Option.map_some, List.any_map]
  rfl
theorem any_comp {g C : List Str} {e : Env} (he : ∀ n : Str, slot (e.set 5 (.fz (.str n))) 5 = .fz (.str n) ∧ slot (e.set 5 (.fz (.str n))) 1 = .bo (.lst (strL C))) :
    lcL (.one 5) tYesS (eOp2 opIn (eSlot 5) (eSlot 1)) (strL g) e [] = some (g.map fun x => .bl (decide (x ∈ C))) := by
  unfold strL
  rw [lcL_mp (fun x => .bl (decide (x ∈ C))) (fun x hx => ?_), List.nil_append]
  obtain ⟨h1, h2⟩ := he x
  simp [lc1, h1, h2, in_strL]
def oI : Option Nat → D
  | none => .non
  | some i => .int i
theorem grD_len (Gs : List (List Str)) : opLen (grD Gs) = some (.fz (.int Gs.length)) := by unfold grD; rw [opLen_l, List.length_map]
theorem grD_ix {Gs : List (List Str)} {i : Nat} {g : List Str} (h : Gs[i]? = some g) : opIx (grD Gs) (.int i) = some (.fz (.lst (strL g))) := by
  unfold grD
  rw [opIx_l, atI_nat (x := .lst (strL g)) (by omega) (by rw [Int.toNat_natCast, List.getElem?_map, h]; rfl)]
  rfl
theorem missed_run (phi : String → List D → RC) {Gs : List (List Str)} {C : List Str} (hz : ∀ g ∈ Gs, g.length ≤ 1000) : ∃ o, T__missed.run phi [grD Gs, .lst (strL C)] = .ok false (oI o) [] ∧ (o = none → Covers C Gs) ∧ ∀ i, o = some i → ∃ g, Gs[i]? = some g ∧ hitB C g = false := by
  rw [run_is rfl]
  show ∃ o, finish [.r, .r] (b__missed phi [.bo (grD Gs), .bo (.lst (strL C)), .no, .no, .no, .no]) = _ ∧ _
  unfold b__missed
  rw [sSeq_e]
  simp [-sSeq_e]
  refine seq_for (ds := enumD (Gs.map fun g => .lst (strL g))) (e0 := [.bo (grD Gs), .bo (.lst (strL C)), .fz .non, .no, .no, .no]) (Q := fun r => ∃ o, finish [.r, .r] r = .ok false (oI o) [] ∧ (o = none → Covers C Gs) ∧ ∀ i, o = some i → ∃ g, Gs[i]? = some g ∧ hitB C g = false) ?_
    (fun i e => ∃ o, e = [.bo (grD Gs), .bo (.lst (strL C)), .fz (oI o), .no, .no, .no] ∧ (o = none → ∀ j g, j < i → Gs[j]? = some g → hitB C g = true) ∧ ∀ j, o = some j → ∃ g, Gs[j]? = some g ∧ hitB C g = false)
    ⟨none, rfl, fun _ j g h => absurd h (Nat.not_lt_zero _), fun j h => by cases h⟩ ?_ ?_
  · unfold wEnum S3.wE
    simp [grD]
  · rintro R _ _ _ i d e hd ⟨o, rfl, h1, h2⟩
    rw [enumD_get, List.getElem?_map] at hd
    cases hg : Gs[i]? with
    | none => rw [hg] at hd; cases hd
    | some g =>
      rw [hg] at hd
      cases hd
      refine ⟨[.bo (grD Gs), .bo (.lst (strL C)), .fz (oI o), .fz (.int i), .fz (.lst (strL g)), .no], rfl, ?_⟩
      have hl := eLc_ok (own := [5]) (w := wAny (eSlot 4)) (e := [.bo (grD Gs), .bo (.lst (strL C)), .fz (oI o), .fz (.int i), .fz (.lst (strL g)), .no]) (e1 := [.bo (grD Gs), .bo (.lst (strL C)), .fz (oI o), .fz (.int i), .fz (.lst (strL g)), .no]) (by simp)
        (any_comp (g := g) (C := C) (e := wipeE (lock [.bo (grD Gs), .bo (.lst (strL C)), .fz (oI o), .fz (.int i), .fz (.lst (strL g)), .no]) [5]) (fun _ => ⟨rfl, rfl⟩)) (by have := hz g (List.mem_of_getElem? hg); rw [strL_len]; omega)
      have ha := opAny_map g (fun x => decide (x ∈ C))
      have hb : (g.any fun x => decide (x ∈ C)) = hitB C g := rfl
      rw [hb] at ha
      by_cases c : hitB C g = true
      · simp [hl, ha, c]
        refine ⟨o, rfl, fun ho j g' hj hg' => ?_, h2⟩
        by_cases ji : j = i
        · subst ji; rw [hg] at hg'; cases hg'; exact c
        · exact h1 ho j g' (by omega) hg'
      · have c : hitB C g = false := by simpa using c
        have new : ∃ o', oI o' = .int i ∧ (o' = none → ∀ j g, j < i + 1 → Gs[j]? = some g → hitB C g = true) ∧ ∀ j, o' = some j → ∃ g, Gs[j]? = some g ∧ hitB C g = false := ⟨some i, rfl, fun h => (by cases h), fun j h => (by cases h; exact ⟨g, hg, c⟩)⟩
        cases o with
        | none =>
          have i1 : opIs (oI none) .non = some (.fz (.bl true)) := rfl
          simp [hl, ha, c, i1]
          obtain ⟨o', e1, e2, e3⟩ := new
          exact ⟨o', e1.symm, e2, e3⟩
        | some b =>
          obtain ⟨g0, hg0, c0⟩ := h2 b rfl
          have i1 : opIs (.int b) .non = some (.fz (.bl false)) := rfl
          have i2 := grD_ix hg0
          have i3 : oI (some b) = .int b := rfl
          have l1 : opLen (.lst (strL g)) = some (.fz (.int g.length)) := by rw [opLen_l, strL_len]
          have l2 : opLen (.lst (strL g0)) = some (.fz (.int g0.length)) := by rw [opLen_l, strL_len]
          rw [i3] at hl ⊢
          by_cases cl : g.length < g0.length
          · simp [-opLen_l, hl, ha, c, i1, i2, l1, l2, cl]
            obtain ⟨o', e1, e2, e3⟩ := new
            exact ⟨o', e1.symm, e2, e3⟩
          · simp [-opLen_l, hl, ha, c, i1, i2, l1, l2, cl]
            exact ⟨some b, rfl, fun h => (by cases h), h2⟩
  · rintro e ⟨o, rfl, h1, h2⟩
    refine ⟨o, by simp, fun ho g hg => ?_, h2⟩
    obtain ⟨j, hj, e⟩ := List.mem_iff_getElem.mp hg
    exact h1 ho j g (by rw [enumD_len, List.length_map]; exact hj) (by rw [List.getElem?_eq_getElem hj, e])

end S3
namespace S3
open PySem
/-! _covering, smallest_cover -/
def oL : Option (List Str) → D
  | none => .non
  | some L => .lst (strL L)
structure CovOK (Gs : List (List Str)) (k : Nat) (C : List Str) (o : Option (List Str)) : Prop where
  a : ∀ L, o = some L → Covers L Gs ∧ L.length ≤ C.length + k ∧ (C.Nodup → L.Nodup) ∧ ∀ x ∈ L, x ∈ C ∨ ∃ g ∈ Gs, x ∈ g
  b : o = none → ∀ E, E.length ≤ k → ¬ Covers (C ++ E) Gs
theorem sem_st {k : Nat} {g : String} {T : Def} (h : tab g = some T) : sem tab (k + 1) g = T.run (sem tab k) := by funext ds; simp only [sem, h]
theorem covering_sem : ∀ (k n : Nat) (Gs : List (List Str)) (C : List Str), (∀ g ∈ Gs, g.length ≤ 1000) → C.length + k ≤ 1000 → ∃ o, sem tab (k + 2 + n) "_covering" [grD Gs, .int k, .lst (strL C)] = .ok false (oL o) [] ∧ CovOK Gs k C o := by
  intro k
  induction k with
  | zero =>
    intro n Gs C hz hC
    obtain ⟨om, hm, m1, m2⟩ := missed_run (sem tab n) (Gs := Gs) (C := C) hz
    have hm : sem tab (n + 1) "_missed" [grD Gs, .lst (strL C)] = .ok false (oI om) [] := by rw [sem_st rfl]; exact hm
    rw [show 0 + 2 + n = (n + 1) + 1 by omega, sem_st rfl, run_is rfl]
    show ∃ o, finish [.r, .r, .v] (b__covering (sem tab (n + 1)) [.bo (grD Gs), .bo (.int 0), .fz (.lst (strL C)), .no, .no, .no]) = _ ∧ _
    unfold b__covering
    cases om with
    | none =>
      have i1 : opIs (oI none) .non = some (.fz (.bl true)) := rfl
      refine ⟨some C, ?_, fun L e => ?_, fun e => by cases e⟩
      · rw [sSeq_e]
        simp [-sSeq_e, hm]
        rw [sSeq_e]
        simp [-sSeq_e, i1]
        rfl
      · cases e
        exact ⟨m1 rfl, by omega, fun h => h, fun x h => .inl h⟩
    | some i =>
      obtain ⟨g, hg, hh⟩ := m2 i rfl
      have i1 : opIs (oI (some i)) .non = some (.fz (.bl false)) := rfl
      refine ⟨none, ?_, fun L e => (by cases e), fun _ E hE hcov => ?_⟩
      · rw [sSeq_e]
        simp [-sSeq_e, hm]
        rw [sSeq_e]
        simp [-sSeq_e, i1]
        rw [sSeq_e]
        simp
        rfl
      · have e0 : E = [] := List.length_eq_zero_iff.mp (by omega)
        subst e0
        rw [List.append_nil] at hcov
        rw [hcov g (List.mem_of_getElem? hg)] at hh
        cases hh
  | succ k ih =>
    intro n Gs C hz hC
    obtain ⟨om, hm, m1, m2⟩ := missed_run (sem tab (k + 1 + n)) (Gs := Gs) (C := C) hz
    have hm : sem tab (k + 2 + n) "_missed" [grD Gs, .lst (strL C)] = .ok false (oI om) [] := by rw [show k + 2 + n = (k + 1 + n) + 1 by omega, sem_st rfl]; exact hm
    have ih : ∀ x, ∃ o, sem tab (k + 2 + n) "_covering" [grD Gs, .int k, .lst (strL (C ++ [x]))] = .ok false (oL o) [] ∧ CovOK Gs k (C ++ [x]) o := fun x => ih n Gs (C ++ [x]) hz (by rw [List.length_append]; show C.length + 1 + k ≤ 1000; omega)
    rw [show k + 1 + 2 + n = (k + 2 + n) + 1 by omega, sem_st rfl, run_is rfl]
    generalize sem tab (k + 2 + n) = phi at hm ih
    show ∃ o, finish [.r, .r, .v] (b__covering phi [.bo (grD Gs), .bo (.int (k + 1 : Nat)), .fz (.lst (strL C)), .no, .no, .no]) = _ ∧ _
    unfold b__covering
    cases om with
    | none =>
      have i1 : opIs (oI none) .non = some (.fz (.bl true)) := rfl
      refine ⟨some C, ?_, fun L e => ?_, fun e => by cases e⟩
      · rw [sSeq_e]
        simp [-sSeq_e, hm]
        rw [sSeq_e]
        simp [-sSeq_e, i1]
        rfl
      · cases e
        exact ⟨m1 rfl, by omega, fun h => h, fun x h => .inl h⟩
    | some i =>
      obtain ⟨g, hg, hh⟩ := m2 i rfl
      have i1 : opIs (oI (some i)) .non = some (.fz (.bl false)) := rfl
      have i2 := grD_ix hg
      have i3 : oI (some i) = .int i := rfl
      have i4 : (0 : Int) < (k : Int) + 1 := by omega
      have hgm := List.mem_of_getElem? hg
      rw [sSeq_e]
      simp [-sSeq_e, hm]
      rw [sSeq_e]
      simp [-sSeq_e, i1]
      rw [i3]
      rw [sSeq_e]
      simp only [sIf_e, tVal_e, eOp2_e, eSlot_e, slot0, slotS, rd_at, val_bo, eC_e, rd_fz, opGt_i, ofOp_s, asBool_b, Int.natCast_add, i4, decide_true, Int.cast_ofNat_Int]
      rw [← sSeq_e]
      refine seq_for (ds := strL g) (e0 := [.bo (grD Gs), .bo (.int ((k : Int) + 1)), .fz (.lst (strL C)), .fz (.int i), .no, .no]) (Q := fun r => ∃ o, finish [.r, .r, .v] r = .ok false (oL o) [] ∧ CovOK Gs (k + 1) C o) (by simp [i2])
        (fun j e => e = [.bo (grD Gs), .bo (.int ((k : Int) + 1)), .fz (.lst (strL C)), .fz (.int i), .no, .no] ∧ ∀ l x, l < j → g[l]? = some x → ∀ E, E.length ≤ k → ¬ Covers (C ++ [x] ++ E) Gs) ⟨rfl, fun l x h => absurd h (Nat.not_lt_zero _)⟩ ?_ ?_
      · rintro R hrt _ _ j d e hd ⟨rfl, hc⟩
        unfold strL at hd
        rw [List.getElem?_map, Option.map_eq_some_iff] at hd
        obtain ⟨x, hx, rfl⟩ := hd
        refine ⟨[.bo (grD Gs), .bo (.int ((k : Int) + 1)), .fz (.lst (strL C)), .fz (.int i), .fz (.str x), .no], rfl, ?_⟩
        obtain ⟨o, h1, h2⟩ := ih x
        have hlen : (strL C ++ [D.str x]).length ≤ 16777216 := by rw [List.length_append, strL_len]; show C.length + 1 ≤ _; omega
        have e1 : strL C ++ [D.str x] = strL (C ++ [x]) := by unfold strL; rw [List.map_append]; rfl
        have hd : eDisp mkLst (aStar (eSlot 2) (aKeep (eSlot 4) aNil)) [.bo (grD Gs), .bo (.int ((k : Int) + 1)), .fz (.lst (strL C)), .fz (.int i), .fz (.str x), .no] = .ok (.nw (.lst (strL (C ++ [x])))) [.bo (grD Gs), .bo (.int ((k : Int) + 1)), .fz (.lst (strL C)), .fz (.int i), .fz (.str x), .no] := by
          rw [eDisp_e]
          simp [-eDisp_e, fzs_app, hlen, e1]
          have := hlen
          rw [List.length_append, strL_len] at this
          rw [strL_len]
          simpa using this
        have h1' := h1
        cases o with
        | none =>
          have n1 : opIsNot (oL none) .non = some (.fz (.bl false)) := rfl
          simp [-eDisp_e, hd, h1, n1]
          intro l y hl hy E hE
          by_cases lj : l = j
          · subst lj; rw [hx] at hy; cases hy; have := h2.b rfl E hE; simpa using this
          · have := hc l y (by omega) hy E hE; simpa using this
        | some L =>
          have n1 : opIsNot (oL (some L)) .non = some (.fz (.bl true)) := rfl
          simp [-eDisp_e, hd, h1, n1]
          refine hrt _ _ ⟨some L, by simp, fun M e => ?_, fun e => by cases e⟩
          cases e
          obtain ⟨q1, q2, q3, q4⟩ := h2.a L rfl
          have hxC : x ∉ C := fun z => by
            have : hitB C g = true := hitB_iff.mpr ⟨x, List.mem_of_getElem? hx, z⟩
            rw [this] at hh; cases hh
          refine ⟨q1, by rw [List.length_append] at q2; simp at q2; omega, fun nd => q3 ?_, fun y hy => ?_⟩
          · rw [List.nodup_append]
            exact ⟨nd, by simp, fun y hy z hz e => hxC (by rw [List.mem_singleton] at hz; rw [← hz, ← e]; exact hy)⟩
          · rcases q4 y hy with h | h
            · rcases List.mem_append.mp h with h | h
              · exact .inl h
              · rw [List.mem_singleton.mp h]; exact .inr ⟨g, hgm, List.mem_of_getElem? hx⟩
            · exact .inr h
      · rintro e ⟨rfl, hc⟩
        refine ⟨none, by simp; rfl, fun L e => (by cases e), fun _ E hE hcov => ?_⟩
        obtain ⟨x, hx, hxC⟩ := hitB_iff.mp (hcov g hgm)
        have hnC : x ∉ C := fun z => by
          have : hitB C g = true := hitB_iff.mpr ⟨x, hx, z⟩
          rw [this] at hh; cases hh
        have hxE : x ∈ E := (List.mem_append.mp hxC).resolve_left hnC
        obtain ⟨l, hl, el⟩ := List.mem_iff_getElem.mp hx
        refine hc l x (by rw [strL_len]; exact hl) (by rw [List.getElem?_eq_getElem hl, el]) (E.erase x) ?_ (hcov.mono fun y hy => ?_)
        · rw [List.length_erase_of_mem hxE]; omega
        · rcases List.mem_append.mp hy with h | h
          · simp [h]
          · by_cases e : y = x
            · subst e; simp
            · exact List.mem_append_right _ ((List.mem_erase_of_ne e).mpr h)

end S3
namespace S3
open PySem
/-! smallest_cover; _law_hits, _law_least, _law_groups_of -/
def Best (Gs : List (List Str)) (L : List Str) : Prop := L.Nodup ∧ Covers L Gs ∧ (∀ C, Covers C Gs → L.length ≤ C.length) ∧ ∀ x ∈ L, ∃ g ∈ Gs, x ∈ g
def coversB (C : List Str) (Gs : List (List Str)) : Bool := Gs.all (hitB C)
theorem coversB_iff {C : List Str} {Gs : List (List Str)} : coversB C Gs = true ↔ Covers C Gs := by unfold coversB Covers; rw [List.all_eq_true]
def HitI (C g : List Str) (j : Nat) (b : Bool) : Prop := b = true ↔ ∃ l x, l < j ∧ g[l]? = some x ∧ x ∈ C
theorem hits_run (phi : String → List D → RC) (C : List Str) (Gs : List (List Str)) : T__law_hits.run phi [.lst (strL C), grD Gs] = .ok false (.bl (coversB C Gs)) [] := by
  rw [run_is rfl]
  show finish [.r, .r] (b__law_hits phi [.bo (.lst (strL C)), .bo (grD Gs), .no, .no, .no]) = _
  unfold b__law_hits
  refine seq_for (ds := Gs.map fun g => .lst (strL g)) (e0 := [.bo (.lst (strL C)), .bo (grD Gs), .no, .no, .no]) (Q := fun r => finish [.r, .r] r = .ok false (.bl (coversB C Gs)) []) (by unfold grD; simp)
    (fun i e => e = [.bo (.lst (strL C)), .bo (grD Gs), .no, .no, .no] ∧ ∀ j g, j < i → Gs[j]? = some g → hitB C g = true) ⟨rfl, fun j g h => absurd h (Nat.not_lt_zero _)⟩ ?_ ?_
  · rintro R hrt _ _ i d e hd ⟨rfl, hc⟩
    rw [List.getElem?_map, Option.map_eq_some_iff] at hd
    obtain ⟨g, hg, rfl⟩ := hd
    refine ⟨[.bo (.lst (strL C)), .bo (grD Gs), .fz (.lst (strL g)), .no, .no], rfl, ?_⟩
    rw [sSeq_e]
    simp [-sSeq_e]
    apply seq_for (ds := strL g) (e0 := [.bo (.lst (strL C)), .bo (grD Gs), .fz (.lst (strL g)), .fz (.bl false), .no]) (by simp)
      (fun j e => ∃ b, e = [.bo (.lst (strL C)), .bo (grD Gs), .fz (.lst (strL g)), .fz (.bl b), .no] ∧ HitI C g j b) ⟨false, rfl, ⟨fun h => (by cases h), fun ⟨l, x, h, _⟩ => absurd h (Nat.not_lt_zero _)⟩⟩
    · rintro R2 _ _ _ j d e hd ⟨b, rfl, hb⟩
      unfold strL at hd
      rw [List.getElem?_map, Option.map_eq_some_iff] at hd
      obtain ⟨x, hx, rfl⟩ := hd
      refine ⟨[.bo (.lst (strL C)), .bo (grD Gs), .fz (.lst (strL g)), .fz (.bl b), .fz (.str x)], rfl, ?_⟩
      by_cases c : x ∈ C
      · simp [in_strL, c]
        exact ⟨fun _ => ⟨j, x, by omega, hx, c⟩, fun _ => rfl⟩
      · have key : HitI C g (j + 1) b := by
          refine hb.trans ⟨?_, ?_⟩
          · rintro ⟨l, y, h1, h2, h3⟩
            exact ⟨l, y, by omega, h2, h3⟩
          · rintro ⟨l, y, h1, h2, h3⟩
            by_cases lj : l = j
            · subst lj; rw [hx] at h2; cases h2; exact (c h3).elim
            · exact ⟨l, y, by omega, h2, h3⟩
        simp [in_strL, c]
        cases b with
        | false => exact .inl ⟨rfl, key⟩
        | true => exact .inr ⟨rfl, key⟩
    · rintro e ⟨b, rfl, hb⟩
      have hb2 : b = hitB C g := by
        rw [Bool.eq_iff_iff, hitB_iff]
        refine hb.trans ?_
        constructor
        · rintro ⟨l, x, _, h2, h3⟩; exact ⟨x, List.mem_of_getElem? h2, h3⟩
        · rintro ⟨x, h1, h2⟩
          obtain ⟨l, hl, el⟩ := List.mem_iff_getElem.mp h1
          exact ⟨l, x, by rw [strL_len]; exact hl, by rw [List.getElem?_eq_getElem hl, el], h2⟩
      cases b with
      | false =>
        simp
        refine hrt _ _ ?_
        have : coversB C Gs = false := by
          cases q : coversB C Gs with
          | false => rfl
          | true => have := coversB_iff.mp q g (List.mem_of_getElem? hg); rw [← hb2] at this; cases this
        simp [this]
      | true =>
        simp
        refine fun j g' hj hg' => ?_
        by_cases ji : j = i
        · subst ji; rw [hg] at hg'; cases hg'; exact hb2.symm
        · exact hc j g' (by omega) hg'
  · rintro e ⟨rfl, hc⟩
    have : coversB C Gs = true := coversB_iff.mpr fun g hg => by
      obtain ⟨j, hj, ej⟩ := List.mem_iff_getElem.mp hg
      exact hc j g (by rw [List.length_map]; exact hj) (by rw [List.getElem?_eq_getElem hj, ej])
    simp [this]
/-- what the walk over all sets finds -/
structure Least (Gs : List (List Str)) (m : Nat) (s : Int) (i M : Nat) : Prop where
  le : M ≤ m
  a : ∀ k : Nat, k < i → k / 2 ^ m = 0 → Covers (pick k s m) Gs → M ≤ (pick k s m).length
  b : M = m ∨ ∃ k : Nat, Covers (pick k s m) Gs ∧ (pick k s m).length = M
theorem least_run (phi : String → List D → RC) {Gs : List (List Str)} {m : Nat} {s : Int} (hm : m ≤ 8) (hP : ∀ mask : Int, phi "_law_picked" [.int mask, .int m, .int s] = .ok true (.lst (strL (pick mask s m))) [])
    (hH : ∀ C, phi "_law_hits" [.lst (strL C), grD Gs] = .ok false (.bl (coversB C Gs)) []) : ∃ M, T__law_least.run phi [grD Gs, .int m, .int s] = .ok false (.int (M : Nat)) [] ∧ Least Gs m s 128 M := by
  rw [run_is rfl]
  show ∃ M, finish [.r, .v, .r] (b__law_least phi [.bo (grD Gs), .fz (.int m), .bo (.int s), .no, .no, .no]) = _ ∧ _
  unfold b__law_least
  rw [sSeq_e]
  simp [-sSeq_e]
  refine seq_for (ds := rng 0 128) (e0 := [.bo (grD Gs), .fz (.int m), .bo (.int s), .fz (.int m), .no, .no]) (Q := fun r => ∃ M, finish [.r, .v, .r] r = .ok false (.int (M : Nat)) [] ∧ Least Gs m s 128 M) (by simp)
    (fun i e => ∃ M : Nat, e = [.bo (grD Gs), .fz (.int m), .bo (.int s), .fz (.int M), .no, .no] ∧ Least Gs m s i M) ⟨m, rfl, Nat.le_refl _, fun k h => absurd h (Nat.not_lt_zero _), .inl rfl⟩ ?_ ?_
  · rintro R _ _ _ i d e hd ⟨M, rfl, h⟩
    obtain ⟨rfl, hi⟩ := rng0_get hd
    refine ⟨[.bo (grD Gs), .fz (.int m), .bo (.int s), .fz (.int M), .fz (.int i), .no], rfl, ?_⟩
    have hsh : opShr (.int i) (.int m) = some (.fz (.int (((i / 2 ^ m : Nat)) : Int))) := by
      rw [opShr_i _ _ (by omega), Int.toNat_natCast]
      norm_cast
    have stay : ∀ (h2 : i / 2 ^ m = 0 → Covers (pick i s m) Gs → M ≤ (pick i s m).length), Least Gs m s (i + 1) M := fun h2 => ⟨h.le, fun k hk hk0 hc => by
      by_cases ki : k = i
      · subst ki; exact h2 hk0 hc
      · exact h.a k (by omega) hk0 hc, h.b⟩
    by_cases c0 : i / 2 ^ m = 0
    · have hl : (pick i s m).length ≤ m := by
        unfold pick
        rw [List.length_map]
        exact Nat.le_trans (List.length_filter_le _ _) (by rw [List.length_range]; exact Nat.le_refl _)
      have hlen : opLen (.lst (strL (pick i s m))) = some (.fz (.int (pick i s m).length)) := by rw [opLen_l, strL_len]
      have hp := hP i
      have hh := hH (pick i s m)
      rw [c0] at hsh
      have hsh : opShr (.int i) (.int m) = some (.fz (.int 0)) := hsh
      by_cases c1 : (pick i s m).length < M
      · by_cases c2 : coversB (pick i s m) Gs = true
        · have c1' : ((pick i s m).length : Int) < M := by omega
          simp [-opLen_l, hsh, opEq_i, hp, hlen, hh, c1', c2]
          exact ⟨_, rfl, hl, fun k hk hk0 hc => by
            by_cases ki : k = i
            · subst ki; exact Nat.le_refl _
            · exact Nat.le_trans (Nat.le_of_lt c1) (h.a k (by omega) hk0 hc), .inr ⟨i, coversB_iff.mp c2, rfl⟩⟩
        · have c1' : ((pick i s m).length : Int) < M := by omega
          simp [-opLen_l, hsh, opEq_i, hp, hlen, hh, c1', c2]
          exact ⟨M, rfl, stay fun _ hc => (c2 (coversB_iff.mpr hc)).elim⟩
      · have c1' : ¬ ((pick i s m).length : Int) < M := by omega
        simp [-opLen_l, hsh, opEq_i, hp, hlen, hh, c1']
        exact ⟨M, rfl, stay fun _ _ => by omega⟩
    · have c0' : ¬ (((i / 2 ^ m : Nat)) : Int) = 0 := by omega
      generalize ((i / 2 ^ m : Nat) : Int) = z at hsh c0'
      simp [hsh, opEq_i, c0']
      exact ⟨M, rfl, stay fun h0 => (c0 h0).elim⟩
  · rintro e ⟨M, rfl, h⟩
    exact ⟨M, by simp, h⟩

end S3
namespace S3
open PySem
/-! _law_groups_of; the wide groups -/
@[simp] theorem isLst_gr (Gs : List (List Str)) : isLst (grD Gs) = true := rfl
theorem gr_app (Gs : List (List Str)) (g : List Str) (h : Gs.length < BIG) : mAppend (grD Gs) [.lst (strL g)] = some (grD (Gs ++ [g]), .fz .non) := by
  show (if (Gs.map fun g => D.lst (strL g)).length < BIG then _ else _) = _
  rw [if_pos (by rw [List.length_map]; exact h)]
  unfold grD
  rw [List.map_append]
  rfl
theorem opRev_strL (G : List Str) : opRev (.lst (strL G)) = some (.nw (.lst (strL G.reverse))) := by
  show some (RV.nw (D.lst (strL G).reverse)) = _
  unfold strL
  rw [List.map_reverse]
def nmU (m : Nat) (s : Int) : List Str := (List.range m).map fun i : Nat => nmS (i : Int) s
def GrOK (m : Nat) (s : Int) (Gs : List (List Str)) : Prop := ∀ g ∈ Gs, g ≠ [] ∧ g.length ≤ 1000 ∧ ∀ x ∈ g, x ∈ nmU m s
theorem pick_sub {k s : Int} {m : Nat} : ∀ x ∈ pick k s m, x ∈ nmU m s := fun x hx => by
  obtain ⟨i, hi, e⟩ := List.mem_map.mp hx
  exact List.mem_map.mpr ⟨i, (List.mem_filter.mp hi).1, e⟩
theorem pick_len {k s : Int} {m : Nat} : (pick k s m).length ≤ m := by
  unfold pick
  rw [List.length_map]
  exact Nat.le_trans (List.length_filter_le _ _) (by rw [List.length_range]; exact Nat.le_refl _)
theorem groups_run (phi : String → List D → RC) {ps : List Int} (hr : InR ps) (h3 : 3 ≤ ps.length) {m : Nat} {s most : Int} (hm2 : m ≤ 30) (hmost : 0 ≤ most) (hmost2 : most ≤ 100)
    (hT : ∀ k : Int, 0 ≤ k → k < 2 ^ 40 → ∃ p, 0 ≤ p ∧ p < 65536 ∧ phi "_law_nth" [lints ps, .int k] = .ok false (.int p) [])
    (hP : ∀ mask : Int, phi "_law_picked" [.int mask, .int m, .int s] = .ok true (.lst (strL (pick mask s m))) []) :
    ∃ Gs, T__law_groups_of.run phi [lints ps, .int m, .int s, .int most] = .ok true (grD Gs) [] ∧ Gs.length ≤ 100 ∧ GrOK m s Gs := by
  rw [run_is rfl]
  show ∃ Gs, finish [.r, .v, .r, .r] (b__law_groups_of phi [.bo (lints ps), .fz (.int m), .bo (.int s), .bo (.int most), .no, .no, .no, .no]) = _ ∧ _
  unfold b__law_groups_of
  obtain ⟨p1, p10, p11, i1⟩ := lints_get hr (i := 1) (by decide) (by omega)
  have b0 : 0 ≤ p1 % (most + 1) := Int.emod_nonneg _ (by omega)
  have b1 : p1 % (most + 1) < most + 1 := Int.emod_lt_of_pos _ (by omega)
  have b2 : 0 < most + 1 := by omega
  rw [sSeq_e]
  simp [-sSeq_e]
  refine seq_for (ds := rng 0 (p1 % (most + 1))) (e0 := [.bo (lints ps), .fz (.int m), .bo (.int s), .bo (.int most), .ow (grD []), .no, .no, .no]) (Q := fun r => ∃ Gs, finish [.r, .v, .r, .r] r = .ok true (grD Gs) [] ∧ Gs.length ≤ 100 ∧ GrOK m s Gs) ?_
    (fun k e => ∃ Gs, e = [.bo (lints ps), .fz (.int m), .bo (.int s), .bo (.int most), .ow (grD Gs), .no, .no, .no] ∧ Gs.length ≤ k ∧ GrOK m s Gs) ⟨[], rfl, Nat.le_refl _, fun g h => by cases h⟩ ?_ ?_
  · have c1 : -4611686018427387904 ≤ p1 % (most + 1) := by omega
    have c2 : p1 % (most + 1) < 4611686018427387904 := by omega
    simp [i1, b2, c1, c2]
    rfl
  · rintro R _ _ _ k d e hd ⟨Gs, rfl, hz, hG⟩
    obtain ⟨rfl, hk⟩ := rng0_get hd
    obtain ⟨p, q0, q1, hp⟩ := hT (3 + k) (by omega) (by omega)
    refine ⟨[.bo (lints ps), .fz (.int m), .bo (.int s), .bo (.int most), .ow (grD Gs), .fz (.int k), .no, .no], rfl, ?_⟩
    have rest : ∀ g : List Str, g.length ≤ 1000 → (∀ x ∈ g, x ∈ nmU m s) → turnP [5, 6, 7] (fun e => ∃ Gs, e = [.bo (lints ps), .fz (.int m), .bo (.int s), .bo (.int most), .ow (grD Gs), .no, .no, .no] ∧ Gs.length ≤ k + 1 ∧ GrOK m s Gs) R
        (sIf (tVal (eOp2 opNe (eSlot 7) (eDisp mkLst (aNil)))) (sExpr (eMut 4 isLst mAppend (aKeep (eSlot 7) (aNil)))) (sNx) [.bo (lints ps), .fz (.int m), .bo (.int s), .bo (.int most), .ow (grD Gs), .fz (.int k), .fz (.int p), .ow (.lst (strL g))]) := by
      intro g hg hx
      have hne : opNe (.lst (strL g)) (.lst []) = some (.fz (.bl (!decide (g = [])))) := opNe_strL g []
      have hap := gr_app Gs g (by show _ < 16777216; omega)
      by_cases c : g = []
      · simp [hne, c]
        have hne' : opNe (.lst (strL [])) (.lst []) = some (.fz (.bl (!decide (([] : List Str) = [])))) := opNe_strL [] []
        simp [hne']
        exact ⟨Gs, rfl, by omega, hG⟩
      · simp [-mApp_l, hne, c, hap]
        refine ⟨_, rfl, by simp; omega, fun g' hg' => ?_⟩
        rcases List.mem_append.mp hg' with h | h
        · exact hG g' h
        · rw [List.mem_singleton.mp h]; exact ⟨c, hg, hx⟩
    have hpk := hP p
    have hrv := opRev_strL (pick p s m)
    have hpl := pick_len (k := p) (s := s) (m := m)
    rw [sSeq_e]
    simp [-sSeq_e, hp]
    rw [sSeq_e]
    simp [-sSeq_e, hpk]
    rw [sSeq_e]
    by_cases c : p / 1024 % 2 = 1
    · simp [-sSeq_e, opEq_i, c, hrv]
      exact rest _ (by rw [List.length_reverse]; omega) fun x hx => pick_sub x (List.mem_reverse.mp hx)
    · simp [-sSeq_e, opEq_i, c]
      exact rest _ (by omega) pick_sub
  · rintro e ⟨Gs, rfl, hz, hG⟩
    rw [rng_len] at hz
    exact ⟨Gs, by simp, by omega, hG⟩
end S3
namespace S3
open PySem
theorem sing_comp {xs : List Str} {e : Env} (he : ∀ n : Str, slot (e.set 3 (.fz (.str n))) 3 = .fz (.str n)) : lcL (.one 3) tYesS (eDisp mkLst (aKeep (eSlot 3) aNil)) (strL xs) e [] = some (xs.map fun x => .lst (strL [x])) := by
  unfold strL
  rw [lcL_mp (fun x => .lst [.str x]) (fun x hx => ?_), List.nil_append]
  · rfl
  · have h1 := he x
    simp [lc1, h1]
theorem lists_comp {Gs : List (List Str)} {i : Nat} {e : Env} (he : ∀ d, slot (e.set i (.fz d)) i = .fz d) : lcL (.one i) tYesS (eOp1 opList (eSlot i)) (Gs.map fun g => .lst (strL g)) e [] = some (Gs.map fun g => .lst (strL g)) := by
  rw [lcL_mp (fun g => .lst (strL g)) (fun g hg => ?_), List.nil_append]
  have h1 := he (.lst (strL g))
  have ho : opList (.lst (strL g)) = some (.nw (.lst (strL g))) := rfl
  simp [lc1, h1, ho]
theorem set_map {α β : Type} (f : α → β) (l : List α) (i : Nat) (x : α) : (l.map f).set i (f x) = (l.set i x).map f := by rw [List.map_set]
theorem opCutLo_strL {xs : List Str} {lo : Int} (h0 : 0 ≤ lo) : opCutLo (.lst (strL xs)) (.int lo) = some (.nw (.lst (strL (xs.drop lo.toNat)))) := by
  show some (RV.nw (D.lst (cutD (strL xs) (some lo) none))) = _
  congr 3
  unfold cutD
  have e1 : HT.sIx (strL xs).length 0 (some lo) = min lo.toNat xs.length := by
    have := HT.sIx_nat (strL xs).length 0 lo.toNat
    rw [Int.toNat_of_nonneg h0] at this
    rw [this, strL_len]
  rw [e1]
  show ((strL xs).drop (min lo.toNat xs.length)).take ((strL xs).length - min lo.toNat xs.length) = _
  rw [List.take_of_length_le (by rw [List.length_drop]; omega)]
  unfold strL
  rw [List.map_drop]
  by_cases c : lo.toNat ≤ xs.length
  · rw [Nat.min_eq_left c]
  · rw [Nat.min_eq_right (by omega), List.drop_of_length_le (by rw [List.length_map]; omega), List.drop_of_length_le (by rw [List.length_map]; omega)]

end S3
namespace S3
open PySem
theorem mask_ex (p : Nat → Bool) : ∀ n : Nat, ∃ k : Nat, k < 2 ^ n ∧ ∀ i, i < n → bitAt (k : Int) i = p i := by
  have cast : ∀ (k i : Nat), bitAt (k : Int) i = decide (k / 2 ^ i % 2 = 1) := fun k i => by
    unfold bitAt
    rw [Bool.eq_iff_iff, decide_eq_true_iff, decide_eq_true_iff]
    have : ((k : Int) / 2 ^ i % 2) = ((k / 2 ^ i % 2 : Nat) : Int) := by norm_cast
    rw [this]
    omega
  intro n
  induction n with
  | zero => exact ⟨0, by decide, fun i h => absurd h (Nat.not_lt_zero _)⟩
  | succ n ih =>
    obtain ⟨k, h1, h2⟩ := ih
    cases hp : p n with
    | false =>
      refine ⟨k, by rw [Nat.pow_succ]; omega, fun i hi => ?_⟩
      by_cases e : i = n
      · subst e
        rw [cast, hp, Nat.div_eq_of_lt h1]
        rfl
      · exact h2 i (by omega)
    | true =>
      refine ⟨k + 2 ^ n, by rw [Nat.pow_succ]; omega, fun i hi => ?_⟩
      by_cases e : i = n
      · subst e
        rw [cast, hp, Nat.add_div_right _ (Nat.two_pow_pos i), Nat.div_eq_of_lt h1]
        rfl
      · have hi' : i < n := by omega
        rw [← h2 i hi', cast, cast]
        have e1 : 2 ^ n = 2 ^ i * (2 * 2 ^ (n - i - 1)) := by
          rw [← Nat.pow_succ', ← Nat.pow_add]
          congr 1
          omega
        rw [e1, Nat.add_mul_div_left _ _ (Nat.two_pow_pos i)]
        congr 2
        omega
theorem nmU_nodup {m : Nat} {s : Int} (s0 : 0 ≤ s) (hm : m ≤ 16) : (nmU m s).Nodup := by
  unfold nmU
  refine List.Pairwise.map _ (R := fun a b => a < m ∧ b < m ∧ a ≠ b) (fun a b h e => ?_) ?_
  · have := nm_inj (by omega) (by omega) (by omega) (by omega) s0 e
    omega
  · refine List.Pairwise.imp_of_mem (R := fun a b => a ≠ b) (fun {a b} ha hb h => ⟨List.mem_range.mp ha, List.mem_range.mp hb, h⟩) List.nodup_range
theorem pick_nodup {k : Int} {m : Nat} {s : Int} (s0 : 0 ≤ s) (hm : m ≤ 16) : (pick k s m).Nodup := by
  have h := nmU_nodup s0 hm
  unfold nmU at h
  unfold pick
  exact List.Pairwise.sublist (List.Sublist.map _ List.filter_sublist) h
theorem pick_any {m : Nat} {s : Int} (s0 : 0 ≤ s) (hm : m ≤ 16) {L : List Str} (hn : L.Nodup) (hL : ∀ x ∈ L, x ∈ nmU m s) : ∃ k : Nat, k < 2 ^ m ∧ (∀ x, x ∈ pick k s m ↔ x ∈ L) ∧ (pick k s m).length = L.length := by
  obtain ⟨k, h1, h2⟩ := mask_ex (fun i => decide (nmS (i : Int) s ∈ L)) m
  have hmem : ∀ x, x ∈ pick k s m ↔ x ∈ L := fun x => by
    unfold pick
    rw [List.mem_map]
    constructor
    · rintro ⟨i, hi, rfl⟩
      obtain ⟨q1, q2⟩ := List.mem_filter.mp hi
      rw [h2 i (List.mem_range.mp q1)] at q2
      exact of_decide_eq_true q2
    · intro hx
      obtain ⟨i, hi, e⟩ := List.mem_map.mp (hL x hx)
      refine ⟨i, List.mem_filter.mpr ⟨hi, ?_⟩, e⟩
      rw [h2 i (List.mem_range.mp hi)]
      exact decide_eq_true (by rw [e]; exact hx)
  exact ⟨k, h1, hmem, ((List.perm_ext_iff_of_nodup (pick_nodup s0 hm) hn).mpr hmem).length_eq⟩
theorem least_is {Gs : List (List Str)} {m : Nat} {s : Int} {M : Nat} {L : List Str} (s0 : 0 ≤ s) (hm : m ≤ 7) (hG : GrOK m s Gs) (b : Best Gs L) (l : Least Gs m s 128 M) : L.length = M := by
  have hU : Covers (nmU m s) Gs := fun g hg => by
    obtain ⟨h1, _, h3⟩ := hG g hg
    cases g with
    | nil => exact (h1 rfl).elim
    | cons x xs => exact hitB_iff.mpr ⟨x, by simp, h3 x (by simp)⟩
  have hLU : ∀ x ∈ L, x ∈ nmU m s := fun x hx => by
    obtain ⟨g, hg, hxg⟩ := b.2.2.2 x hx
    exact (hG g hg).2.2 x hxg
  obtain ⟨k, k1, k2, k3⟩ := pick_any s0 (by omega) b.1 hLU
  have p7 : 2 ^ m ≤ 2 ^ 7 := Nat.pow_le_pow_right (by omega) hm
  have h1 := l.a k (by omega) (Nat.div_eq_of_lt k1) (b.2.1.mono fun x hx => (k2 x).mpr hx)
  have h2 : L.length ≤ M := by
    rcases l.b with e | ⟨j, j1, j2⟩
    · have := b.2.2.1 _ hU
      unfold nmU at this
      rw [List.length_map, List.length_range] at this
      omega
    · rw [← j2]; exact b.2.2.1 _ j1
  omega
theorem gr_U {Gs : List (List Str)} {m : Nat} {s : Int} (hG : GrOK m s Gs) : Covers (nmU m s) Gs := fun g hg => by
  obtain ⟨h1, _, h3⟩ := hG g hg
  cases g with
  | nil => exact (h1 rfl).elim
  | cons x xs => exact hitB_iff.mpr ⟨x, by simp, h3 x (by simp)⟩

end S3
namespace S3
open PySem
/-! the refutation as a tree -/
def RefT (Gs : List (List Str)) : Nat → List Str → D → Prop
  | 0, C, d => ∃ (i : Nat) (g : List Str), Gs[i]? = some g ∧ hitB C g = false ∧ d = .tup [.int i, .ob (.lst [])]
  | k + 1, C, d => ∃ (i : Nat) (g : List Str) (ts : List D), Gs[i]? = some g ∧ hitB C g = false ∧ ts.length = g.length ∧ (∀ (j : Nat) (x : Str), g[j]? = some x → ∃ t, ts[j]? = some (.ob (.tup [.str x, .ob t])) ∧ RefT Gs k (C ++ [x]) t) ∧ d = .tup [.int i, .ob (.lst ts)]
theorem unbL_len : ∀ ds : List D, (unbL ds).length = ds.length
  | [] => rfl
  | d :: ds => by
    show (d.sb :: unbL ds).length = _
    rw [List.length_cons, unbL_len ds, List.length_cons]
/-- the tree as it is read -/
theorem ref_sb (i : Nat) (ts : List D) : D.sbT (.tup [.int i, .ob (.lst ts)]) = .tup [.int i, .lst (unbL ts)] := rfl
theorem br_sb (x : Str) (t : D) : D.sbT (.tup [.str x, .ob t]) = .tup [.str x, t.sbT] := by
  show D.tup [.str x, D.sb (.ob t)] = _
  cases t <;> rfl
theorem add10 (xs ys : List Str) (h : xs.length + ys.length ≤ 100000) : opAdd (.lst (strL xs)) (.lst (strL ys)) = some (.nw (.lst (strL (xs ++ ys)))) := by
  rw [opAdd_l, if_pos (by rw [strL_len, strL_len]; show _ ≤ 16777216; omega)]
  unfold strL
  rw [List.map_append]
theorem eqi10 (a b : Int) : opEq (.int a) (.int b) = some (.fz (.bl (decide (a = b)))) := opEq_enc a b
theorem nes10 (x y : Str) : opNe (.str x) (.str y) = some (.fz (.bl (!decide (x = y)))) := opNe_enc x y
def tD (i : Nat) (ts : List D) : D := .tup [.int i, .ob (.lst ts)]
@[simp] theorem tD_sb (i : Nat) (ts : List D) : (tD i ts).sbT = .tup [.int i, .lst (unbL ts)] := rfl
def env10 (i : Nat) (ts : List D) (Gs : List (List Str)) (k : Int) (C : List Str) (a b c : Sl) : Env := [.dp false (tD i ts), .bo (grD Gs), .bo (.int k), .bo (.lst (strL C)), a, b, c]
def s101 : SV := sIf (tLeaf (tOrS (tNotS (tTru (eOp1 (opIsTy "tuple") (eSlot 0)))) (tOrS (tVal (eOp2 opNe (eOp1 opLen (eSlot 0)) (eC (.int 2)))) (tNotS (tTru (eOp1 (opIsTy "list") (eOp2 opIx (eSlot 0) (eC (.int 1))))))))) (sRet (eC (.bl false))) (sNx)
def s102 : SV := sIf (tLeaf (tOrS (tNotS (tTru (eOp1 (opIsTy "int") (eOp2 opIx (eSlot 0) (eC (.int 0)))))) (tTru (eOp1 (opIsTy "bool") (eOp2 opIx (eSlot 0) (eC (.int 0))))))) (sRet (eC (.bl false))) (sNx)
def s103 : SV := sIf (tLeaf (tOrS (tVal (eOp2 opLt (eOp2 opIx (eSlot 0) (eC (.int 0))) (eC (.int 0)))) (tVal (eOp2 opGe (eOp2 opIx (eSlot 0) (eC (.int 0))) (eOp1 opLen (eSlot 1)))))) (sRet (eC (.bl false))) (sNx)
def s104 : SV := sSet 4 (eOp2 opIx (eSlot 1) (eLeafT (eOp2 opIx (eSlot 0) (eC (.int 0)))))
def s105 (phi : String → List D → RC) : SV := sIf (tTru (eCall (phi "_law_hits") [.r, .r] (aCons (eSlot 3) (aCons (eDisp mkLst (aKeep (eSlot 4) (aNil))) (aNil))))) (sRet (eC (.bl false))) (sNx)
def s106 : SV := sIf (tVal (eOp2 opEq (eSlot 2) (eC (.int 0)))) (sSeq (sIf (tLeaf (tVal (eOp2 opNe (eOp2 opIx (eSlot 0) (eC (.int 1))) (eDisp mkLst (aNil))))) (sRet (eC (.bl false))) (sNx)) (sSeq (sExpr (eAppP (pIx (pSlot 0) (eC (.int 1))) (eC (.str "zz9")))) (sRet (eC (.bl true))))) (sNx)
def s107 : SV := sIf (tLeaf (tVal (eOp2 opNe (eOp1 opLen (eOp2 opIx (eSlot 0) (eC (.int 1)))) (eOp1 opLen (eSlot 4))))) (sRet (eC (.bl false))) (sNx)
def s108a : SV := sTakeP 6 (pIx (pSlot 0) (eC (.int 1))) (eSlot 5)
def s108b : SV := sIf (tLeaf (tOrS (tNotS (tTru (eOp1 (opIsTy "tuple") (eSlot 6)))) (tOrS (tVal (eOp2 opNe (eOp1 opLen (eSlot 6)) (eC (.int 2)))) (tVal (eOp2 opNe (eOp2 opIx (eSlot 6) (eC (.int 0))) (eOp2 opIx (eSlot 4) (eSlot 5))))))) (sRet (eC (.bl false))) (sNx)
def s108c (phi : String → List D → RC) : SV := sIf (tNotS (tTru (eCallD (phi "_law_refutes") (gPt (pSlot 6) (eC (.int 1))) [.sl 1, .ev (eOp2 opSub (eSlot 2) (eC (.int 1))), .ev (eOp2 opAdd (eSlot 3) (eDisp mkLst (aKeep (eOp2 opIx (eSlot 4) (eSlot 5)) (aNil))))]))) (sRet (eC (.bl false))) (sNx)
def s108 (phi : String → List D → RC) : SV := sFor [5, 6] (.one 5) (wR1 (eOp1 opLen (eSlot 4))) (sSeq s108a (sSeq s108b (s108c phi)))
def s109 : SV := sExpr (eAppP (pIx (pSlot 0) (eC (.int 1))) (eC (.str "zz9")))
def s110 : SV := sRet (eC (.bl true))
theorem s10_eq (phi : String → List D → RC) : b__law_refutes phi = sGive (sSeq s101 (sSeq s102 (sSeq s103 (sSeq s104 (sSeq (s105 phi) (sSeq s106 (sSeq s107 (sSeq (s108 phi) (sSeq s109 s110))))))))) := rfl
section
variable {i : Nat} {ts : List D} {Gs : List (List Str)} {k : Int} {C g : List Str} {a b c : Sl}
theorem ty_int (j : Int) : opIsTy "int" (.int j) = some (.fz (.bl true)) := rfl
theorem ty_bool (j : Int) : opIsTy "bool" (.int j) = some (.fz (.bl false)) := rfl
theorem ty_tup (xs : List D) : opIsTy "tuple" (.tup xs) = some (.fz (.bl true)) := rfl
theorem tyl10 (xs : List D) : opIsTy "list" (.lst xs) = some (.fz (.bl true)) := rfl
theorem ix_t0 (x y : D) : L2.atI [x, y] 0 = some x := rfl
theorem ix_t1 (x y : D) : L2.atI [x, y] 1 = some y := rfl
theorem len_t (x y : D) : opLen (.tup [x, y]) = some (.fz (.int 2)) := rfl
theorem s101_at : s101 (env10 i ts Gs k C a b c) = .nx (env10 i ts Gs k C a b c) := by
  unfold s101 env10
  simp [tLeaf, ty_tup, ix_t1, len_t, tyl10, opNe_i]
theorem s102_at : s102 (env10 i ts Gs k C a b c) = .nx (env10 i ts Gs k C a b c) := by
  unfold s102 env10
  simp [tLeaf, ty_int, ix_t0, ty_bool]
theorem s103_at (h : i < Gs.length) : s103 (env10 i ts Gs k C a b c) = .nx (env10 i ts Gs k C a b c) := by
  unfold s103 env10
  have := grD_len Gs
  have h1 : ¬ (i : Int) < 0 := by omega
  have h2 : ¬ (Gs.length : Int) ≤ i := by omega
  simp [tLeaf, ix_t0, this, h1, h2]
theorem s104_at (h : Gs[i]? = some g) : s104 (env10 i ts Gs k C a b c) = .nx (env10 i ts Gs k C (.fz (.lst (strL g))) b c) := by
  unfold s104 env10
  have := grD_ix h
  simp [eLeafT, leafT, ix_t0, this]
theorem s105_at (phi : String → List D → RC) (h : phi "_law_hits" [.lst (strL C), grD [g]] = .ok false (.bl false) []) : s105 phi (env10 i ts Gs k C (.fz (.lst (strL g))) b c) = .nx (env10 i ts Gs k C (.fz (.lst (strL g))) b c) := by
  unfold s105 env10
  have h : phi "_law_hits" [.lst (strL C), .lst [.lst (strL g)]] = .ok false (.bl false) [] := h
  simp [h]
theorem s106_0 (h : ts = []) : s106 (env10 i ts Gs 0 C a b c) = .rt (.fz (.bl true)) (env10 i [.str "zz9"] Gs 0 C a b c) := by
  subst h
  unfold s106 env10
  have n0 : opNe (.lst []) (.lst []) = some (.fz (.bl false)) := opNe_strL [] []
  have u0 : unbL [] = [] := rfl
  simp [tLeaf, ref_sb, eqi10, ix_t1, n0, u0, eAppP, pIx, pSlot, eLeaf, tD]
theorem s106_k (h : k ≠ 0) : s106 (env10 i ts Gs k C a b c) = .nx (env10 i ts Gs k C a b c) := by
  unfold s106 env10
  simp [eqi10, h]
theorem s107_at (h : ts.length = g.length) : s107 (env10 i ts Gs k C (.fz (.lst (strL g))) b c) = .nx (env10 i ts Gs k C (.fz (.lst (strL g))) b c) := by
  unfold s107 env10
  have l1 : opLen (.lst (strL g)) = some (.fz (.int g.length)) := by rw [opLen_l, strL_len]
  have l2 : opLen (.lst (unbL ts)) = some (.fz (.int g.length)) := by rw [opLen_l, unbL_len, h]
  simp [-opLen_l, tLeaf, ix_t1, l1, l2, opNe_i]
theorem s108a_at {j : Nat} {t : D} (h : ts[j]? = some (.ob t)) : s108a (env10 i ts Gs k C a (.fz (.int j)) c) = .nx (env10 i (ts.set j .any) Gs k C a (.fz (.int j)) (.dp false t)) := by
  unfold s108a env10
  have hj : (0 : Int) ≤ (j : Int) := by omega
  simp [sTakeP, pIx, pSlot, eLeaf, tD, h, hj]
theorem s108b_at {j : Nat} {x : Str} {t : D} (h : g[j]? = some x) : s108b (env10 i ts Gs k C (.fz (.lst (strL g))) (.fz (.int j)) (.dp false (.tup [.str x, .ob t]))) = .nx (env10 i ts Gs k C (.fz (.lst (strL g))) (.fz (.int j)) (.dp false (.tup [.str x, .ob t]))) := by
  unfold s108b env10
  have xj : L2.atI (strL g) (j : Int) = some (.str x) := strL_get (by omega) (by rw [Int.toNat_natCast]; exact h)
  have ne := nes10 x x
  simp [tLeaf, ne, br_sb, ty_tup, len_t, ix_t0, opNe_i, xj]
theorem s108c_at (phi : String → List D → RC) {j : Nat} {x : Str} {t : D} (h : g[j]? = some x) (hC : C.length ≤ 1000) (hp : phi "_law_refutes" [.ob t, grD Gs, .int (k - 1), .lst (strL (C ++ [x]))] = .ok false (.bl true) []) :
    s108c phi (env10 i ts Gs k C (.fz (.lst (strL g))) (.fz (.int j)) (.dp false (.tup [.str x, .ob t]))) = .nx (env10 i ts Gs k C (.fz (.lst (strL g))) (.fz (.int j)) (.dp false (.tup [.str x, .any]))) := by
  unfold s108c env10
  have xj : L2.atI (strL g) (j : Int) = some (.str x) := strL_get (by omega) (by rw [Int.toNat_natCast]; exact h)
  have ad : opAdd (.lst (strL C)) (.lst [.str x]) = some (.nw (.lst (strL (C ++ [x])))) := add10 C [x] (by show C.length + 1 ≤ 100000; omega)
  simp [eCallD, gPt, pSlot, eLeaf, argsX, xj, ad, hp]
end
theorem for_res10 {tmp : List Nat} {t : Tg} {w : WV} {b : SV} {e e0 : Env} {ds : List D} (hw : w e = .ok ds e0) (I : Nat → Env → Prop) (h0 : I 0 e0)
    (hs : ∀ i d e, ds[i]? = some d → I i e → ∃ e1 e2, tgt t d e = some e1 ∧ b e1 = .nx e2 ∧ I (i + 1) (wipeE e2 tmp)) : ∃ e', sFor tmp t w b e = .nx e' ∧ I ds.length e' := by
  rw [sFor_e, hw]
  exact forL_inv (R := fun r => ∃ e', r = .nx e' ∧ I ds.length e') I h0 (fun i d e h1 h2 => by
    obtain ⟨e1, e2, a, b', c⟩ := hs i d e h1 h2
    exact ⟨e1, a, by rw [b', turnP_nx]; exact c⟩) fun e h => ⟨e, rfl, h⟩
theorem give10 (f : SV) (i : Nat) (ts : List D) (Gs : List (List Str)) (K : Int) (C : List Str) : sGive f [.fz (.ob (tD i ts)), .bo (grD Gs), .bo (.int K), .bo (.lst (strL C)), .no, .no, .no] = f (env10 i ts Gs K C .no .no .no) := rfl
theorem run10 (phi : String → List D → RC) (i : Nat) (ts : List D) (Gs : List (List Str)) (K : Int) (C : List Str) : T__law_refutes.run phi [.ob (tD i ts), grD Gs, .int K, .lst (strL C)] = finish [.v, .r, .r, .r] (b__law_refutes phi [.fz (.ob (tD i ts)), .bo (grD Gs), .bo (.int K), .bo (.lst (strL C)), .no, .no, .no]) := run_is rfl
theorem fin10 (i : Nat) (ts : List D) (Gs : List (List Str)) (K : Int) (C : List Str) (a b c : Sl) : finish [.v, .r, .r, .r] (.rt (.fz (.bl true)) (env10 i ts Gs K C a b c)) = .ok false (.bl true) [] := rfl
theorem s110_at (i : Nat) (ts : List D) (Gs : List (List Str)) (K : Int) (C : List Str) (a b c : Sl) : s110 (env10 i ts Gs K C a b c) = .rt (.fz (.bl true)) (env10 i ts Gs K C a b c) := rfl
theorem s109_at (i : Nat) (ts : List D) (Gs : List (List Str)) (K : Int) (C : List Str) (a b c : Sl) (lb : ts.length < BIG) : s109 (env10 i ts Gs K C a b c) = .nx (env10 i (ts ++ [.str "zz9"]) Gs K C a b c) := by
  unfold s109 env10
  simp [eAppP, pIx, pSlot, eLeaf, tD, lb]
theorem wipe10 (i : Nat) (ts : List D) (Gs : List (List Str)) (K : Int) (C : List Str) (a b c : Sl) : wipeE (env10 i ts Gs K C a b c) [5, 6] = env10 i ts Gs K C a .no .no := rfl
theorem tgt10 (i : Nat) (ts : List D) (Gs : List (List Str)) (K : Int) (C : List Str) (a b c : Sl) (d : D) : tgt (.one 5) d (env10 i ts Gs K C a b c) = some (env10 i ts Gs K C a (.fz d) c) := rfl

end S3
namespace S3
open PySem
/-! _law_refutes over a tree -/
theorem refutes_0 (phi : String → List D → RC) {Gs : List (List Str)} {C g : List Str} {i : Nat} (hg : Gs[i]? = some g) (hits : phi "_law_hits" [.lst (strL C), grD [g]] = .ok false (.bl false) []) :
    T__law_refutes.run phi [.ob (tD i []), grD Gs, .int 0, .lst (strL C)] = .ok false (.bl true) [] := by
  have hi : i < Gs.length := (List.getElem?_eq_some_iff.mp hg).1
  rw [run10, s10_eq, give10, sSeq_e, s101_at]
  dsimp only
  rw [sSeq_e, s102_at]
  dsimp only
  rw [sSeq_e, s103_at hi]
  dsimp only
  rw [sSeq_e, s104_at hg]
  dsimp only
  rw [sSeq_e, s105_at phi hits]
  dsimp only
  rw [sSeq_e, s106_0 rfl]
  dsimp only
  rw [fin10]
theorem refutes_lp (phi : String → List D → RC) {Gs : List (List Str)} {C g : List Str} {i : Nat} {ts : List D} {K : Int} (hC : C.length ≤ 1000) (hgl : g.length ≤ 1000) (hl : ts.length = g.length)
    (hb : ∀ (j : Nat) (x : Str), g[j]? = some x → ∃ t, ts[j]? = some (.ob (.tup [.str x, .ob t])) ∧ phi "_law_refutes" [.ob t, grD Gs, .int (K - 1), .lst (strL (C ++ [x]))] = .ok false (.bl true) []) :
    ∃ ts', ts'.length = g.length ∧ s108 phi (env10 i ts Gs K C (.fz (.lst (strL g))) .no .no) = .nx (env10 i ts' Gs K C (.fz (.lst (strL g))) .no .no) := by
  unfold s108
  have l1 : opLen (.lst (strL g)) = some (.fz (.int g.length)) := by rw [opLen_l, strL_len]
  obtain ⟨e', q1, ts', q2, _, rfl⟩ := for_res10 (tmp := [5, 6]) (t := .one 5) (w := wR1 (eOp1 opLen (eSlot 4))) (b := sSeq s108a (sSeq s108b (s108c phi))) (e := env10 i ts Gs K C (.fz (.lst (strL g))) .no .no) (e0 := env10 i ts Gs K C (.fz (.lst (strL g))) .no .no) (ds := rng 0 g.length) (by
      unfold env10
      simp [-opLen_l, l1]
      omega)
    (fun j e => ∃ ts', ts'.length = g.length ∧ (∀ l, j ≤ l → ts'[l]? = ts[l]?) ∧ e = env10 i ts' Gs K C (.fz (.lst (strL g))) .no .no) ⟨ts, hl, fun _ _ => rfl, rfl⟩ (by
      rintro j d e hd ⟨ts', a1, a2, rfl⟩
      obtain ⟨rfl, hj⟩ := rng0_get hd
      have hx : g[j]? = some g[j] := List.getElem?_eq_getElem (by omega)
      obtain ⟨t, t1, t2⟩ := hb j _ hx
      refine ⟨env10 i ts' Gs K C (.fz (.lst (strL g))) (.fz (.int j)) .no, env10 i (ts'.set j .any) Gs K C (.fz (.lst (strL g))) (.fz (.int j)) (.dp false (.tup [.str g[j], .any])), tgt10 .., ?_, ts'.set j .any, by rw [List.length_set, a1], fun l hl => ?_, wipe10 ..⟩
      · rw [sSeq_e, s108a_at (t := .tup [.str g[j], .ob t]) (by rw [a2 j (by omega), t1])]
        dsimp only
        rw [sSeq_e, s108b_at hx]
        dsimp only
        exact s108c_at phi hx hC t2
      · rw [List.getElem?_set_ne (by omega), a2 l (by omega)])
  exact ⟨ts', q2, q1⟩
theorem refutes_k (phi : String → List D → RC) {Gs : List (List Str)} {C g : List Str} {i : Nat} {ts : List D} {K : Int} (hK : K ≠ 0) (hg : Gs[i]? = some g) (hits : phi "_law_hits" [.lst (strL C), grD [g]] = .ok false (.bl false) []) (hC : C.length ≤ 1000) (hgl : g.length ≤ 1000) (hl : ts.length = g.length)
    (hb : ∀ (j : Nat) (x : Str), g[j]? = some x → ∃ t, ts[j]? = some (.ob (.tup [.str x, .ob t])) ∧ phi "_law_refutes" [.ob t, grD Gs, .int (K - 1), .lst (strL (C ++ [x]))] = .ok false (.bl true) []) :
    T__law_refutes.run phi [.ob (tD i ts), grD Gs, .int K, .lst (strL C)] = .ok false (.bl true) [] := by
  have hi : i < Gs.length := (List.getElem?_eq_some_iff.mp hg).1
  obtain ⟨ts', h1, h2⟩ := refutes_lp phi (i := i) hC hgl hl hb
  have lb : ts'.length < BIG := by rw [h1]; show _ < 16777216; omega
  rw [run10, s10_eq, give10, sSeq_e, s101_at]
  dsimp only
  rw [sSeq_e, s102_at]
  dsimp only
  rw [sSeq_e, s103_at hi]
  dsimp only
  rw [sSeq_e, s104_at hg]
  dsimp only
  rw [sSeq_e, s105_at phi hits]
  dsimp only
  rw [sSeq_e, s106_k hK]
  dsimp only
  rw [sSeq_e, s107_at hl]
  dsimp only
  rw [sSeq_e, h2]
  dsimp only
  rw [sSeq_e, s109_at _ _ _ _ _ _ _ _ lb]
  dsimp only
  rw [s110_at, fin10]

end S3
namespace S3
open PySem
theorem refutes_sem : ∀ (k n : Nat) (Gs : List (List Str)) (C : List Str) (d : D), (∀ g ∈ Gs, g.length ≤ 1000) → C.length + k ≤ 1000 → RefT Gs k C d → sem tab (k + 2 + n) "_law_refutes" [.ob d, grD Gs, .int k, .lst (strL C)] = .ok false (.bl true) [] := by
  have hits : ∀ (n : Nat) (C g : List Str), hitB C g = false → sem tab (n + 1) "_law_hits" [.lst (strL C), grD [g]] = .ok false (.bl false) [] := fun n C g hh => by
    rw [sem_st rfl, hits_run]
    have : coversB C [g] = false := by unfold coversB; simp [hh]
    rw [this]
  intro k
  induction k with
  | zero =>
    rintro n Gs C d hz hC ⟨i, g, hg, hh, rfl⟩
    rw [show 0 + 2 + n = (n + 1) + 1 by omega, sem_st rfl, show (((0 : Nat) : Int)) = 0 from rfl]
    have h := hits n C g hh
    generalize sem tab (n + 1) = phi at h
    exact refutes_0 phi hg h
  | succ k ih =>
    rintro n Gs C d hz hC ⟨i, g, ts, hg, hh, hl, hb, rfl⟩
    have h := hits (k + 1 + n) C g hh
    rw [show k + 1 + n + 1 = k + 2 + n by omega] at h
    have hgl := hz g (List.mem_of_getElem? hg)
    rw [show k + 1 + 2 + n = (k + 2 + n) + 1 by omega, sem_st rfl]
    have ih := fun x t => ih n Gs (C ++ [x]) t hz (by rw [List.length_append]; show C.length + 1 + k ≤ 1000; omega)
    generalize sem tab (k + 2 + n) = phi at h ih
    refine refutes_k phi (by omega) hg h (by omega) hgl hl fun j x hx => ?_
    obtain ⟨t, t1, t2⟩ := hb j x hx
    refine ⟨t, t1, ?_⟩
    rw [show ((k + 1 : Nat) : Int) - 1 = (k : Int) by omega]
    exact ih x t t2
/-! _refuted -/
theorem cpLO {f : EV} {i : Nat} {e : Env} : ∀ (xs : List Str) (acc : List D) (ts : List D), xs.length = ts.length → acc.length + xs.length ≤ 100000 → (∀ (j : Nat) (x : Str) (t : D), xs[j]? = some x → ts[j]? = some (.ob t) → ∃ e1, f (e.set i (.fz (.str x))) = .ok (.dn t) e1) → (∀ (j : Nat) (t : D), ts[j]? = some t → ∃ t', t = .ob t') →
    cpG (.one i) tYesS (bdLO f) (strL xs) e acc = some (acc ++ ts)
  | [], acc, ts, hl, _, _, _ => by
    have : ts = [] := List.length_eq_zero_iff.mp hl.symm
    subst this
    simp [strL, cpG]
  | x :: xs, acc, [], hl, _, _, _ => by cases hl
  | x :: xs, acc, t :: ts, hl, hz, hf, ho => by
    obtain ⟨t', rfl⟩ := ho 0 t rfl
    obtain ⟨e1, h1⟩ := hf 0 x t' rfl rfl
    have lt : acc.length < BIG := by
      rw [List.length_cons] at hz
      show _ < 16777216
      omega
    have ih := cpLO (f := f) (i := i) (e := e) xs (acc ++ [.ob t']) ts (by simpa using hl) (by rw [List.length_append]; rw [List.length_cons] at hz; show acc.length + 1 + _ ≤ _; omega) (fun j y u a b => hf (j + 1) y u a b) (fun j u a => ho (j + 1) u a)
    have e0 : strL (x :: xs) = .str x :: strL xs := rfl
    have tg : tgt (.one i) (.str x) e = some (e.set i (.fz (.str x))) := rfl
    have bd : bdLO f (e.set i (.fz (.str x))) acc = some (acc ++ [.ob t']) := by
      unfold bdLO
      rw [h1]
      show (if decide (acc.length < BIG) then some (acc ++ [D.ob t']) else none) = _
      rw [decide_eq_true lt]
      rfl
    rw [e0, cpG, tg]
    dsimp only [tYesS]
    rw [bd]
    dsimp only
    rw [ih, List.append_assoc]
    rfl
theorem nodes : ∀ (n : Nat) (f : Nat → D → Prop), (∀ j, j < n → ∃ t, f j t) → ∃ ts : List D, ts.length = n ∧ ∀ j, j < n → ∃ t, ts[j]? = some (.ob t) ∧ f j t
  | 0, f, _ => ⟨[], rfl, fun j h => absurd h (Nat.not_lt_zero _)⟩
  | n + 1, f, h => by
    obtain ⟨ts, h1, h2⟩ := nodes n f fun j hj => h j (by omega)
    obtain ⟨t, ht⟩ := h n (by omega)
    refine ⟨ts ++ [.ob t], by rw [List.length_append, h1]; rfl, fun j hj => ?_⟩
    by_cases c : j < n
    · obtain ⟨u, u1, u2⟩ := h2 j c
      exact ⟨u, by rw [List.getElem?_append_left (by omega)]; exact u1, u2⟩
    · have : j = n := by omega
      subst this
      exact ⟨t, by rw [List.getElem?_append_right (by omega), h1]; simp, ht⟩
def rf1 (phi : String → List D → RC) : SV := sSet 3 (eCall (phi "_missed") [.r, .r] (aCons (eSlot 0) (aCons (eSlot 2) (aNil))))
def rf2 : SV := sIf (tVal (eOp2 opEq (eSlot 1) (eC (.int 0)))) (sRet (eDispO D.tup [eSlot 3, eDisp mkLst (aNil)])) (sNx)
def rfB (phi : String → List D → RC) : EV := eDispO D.tup [eSlot 4, eCall (phi "_refuted") [.r, .r, .r] (aCons (eSlot 0) (aCons (eOp2 opSub (eSlot 1) (eC (.int 1))) (aCons (eDisp mkLst (aStar (eSlot 2) (aKeep (eSlot 4) (aNil)))) (aNil))))]
def rf3 (phi : String → List D → RC) : SV := sRet (eDispO D.tup [eSlot 3, eLcO [4] (.one 4) (wAny (eOp2 opIx (eSlot 0) (eSlot 3))) (tYesS) (rfB phi)])
theorem rf_eq (phi : String → List D → RC) : b__refuted phi = sSeq (rf1 phi) (sSeq rf2 (rf3 phi)) := rfl
def envR (Gs : List (List Str)) (k : Int) (C : List Str) (a b : Sl) : Env := [.bo (grD Gs), .bo (.int k), .bo (.lst (strL C)), a, b]
section
variable {Gs : List (List Str)} {k : Int} {C g : List Str} {a b : Sl} {i : Nat}
theorem rf_run (phi : String → List D → RC) : T__refuted.run phi [grD Gs, .int k, .lst (strL C)] = finish [.r, .r, .r] (b__refuted phi (envR Gs k C .no .no)) := run_is rfl
theorem rf1_at (phi : String → List D → RC) (h : phi "_missed" [grD Gs, .lst (strL C)] = .ok false (.int i) []) : rf1 phi (envR Gs k C a b) = .nx (envR Gs k C (.fz (.int i)) b) := by
  unfold rf1 envR
  simp [h]
theorem rf2_0 : rf2 (envR Gs 0 C (.fz (.int i)) b) = .rt (.dn (tD i [])) (envR Gs 0 C (.fz (.int i)) b) := by
  unfold rf2 envR
  simp [eqi10, eDispO, aOwn, tD]
theorem rf2_k (h : k ≠ 0) : rf2 (envR Gs k C a b) = .nx (envR Gs k C a b) := by
  unfold rf2 envR
  simp [eqi10, h]
theorem rfB_at (phi : String → List D → RC) {x : Str} {t : D} (hC : C.length ≤ 1000) (h : phi "_refuted" [grD Gs, .int (k - 1), .lst (strL (C ++ [x]))] = .dp t []) : rfB phi (envR Gs k C a (.fz (.str x))) = .ok (.dn (.tup [.str x, .ob t])) (envR Gs k C a (.fz (.str x))) := by
  have hlen : (strL C ++ [D.str x]).length ≤ 16777216 := by rw [List.length_append, strL_len]; show C.length + 1 ≤ _; omega
  have e1 : strL C ++ [D.str x] = strL (C ++ [x]) := by unfold strL; rw [List.map_append]; rfl
  have hd : eDisp mkLst (aStar (eSlot 2) (aKeep (eSlot 4) aNil)) (envR Gs k C a (.fz (.str x))) = .ok (.nw (.lst (strL (C ++ [x])))) (envR Gs k C a (.fz (.str x))) := by
    unfold envR
    rw [eDisp_e]
    simp [-eDisp_e, fzs_app, hlen, e1]
    have := hlen
    rw [List.length_append, strL_len] at this
    rw [strL_len]
    simpa using this
  unfold rfB
  unfold envR at *
  simp [-eDisp_e, eDispO, aOwn, hd, h]
end

end S3
namespace S3
open PySem
theorem lockR (Gs : List (List Str)) (k : Int) (C : List Str) (d : D) (b : Sl) : wipeE (lock (envR Gs k C (.fz d) b)) [4] = envR Gs k C (.fz d) .no := rfl
theorem rf3_at (phi : String → List D → RC) {Gs : List (List Str)} {k : Int} {C g : List Str} {i : Nat} {ts : List D} (hg : Gs[i]? = some g) (hgl : g.length ≤ 1000) (hl : ts.length = g.length) (hC : C.length ≤ 1000)
    (hb : ∀ (j : Nat) (x : Str), g[j]? = some x → ∃ t, ts[j]? = some (.ob (.tup [.str x, .ob t])) ∧ phi "_refuted" [grD Gs, .int (k - 1), .lst (strL (C ++ [x]))] = .dp t []) :
    rf3 phi (envR Gs k C (.fz (.int i)) .no) = .rt (.dn (tD i ts)) (envR Gs k C (.fz (.int i)) .no) := by
  have cp := cpLO (f := rfB phi) (i := 4) (e := envR Gs k C (.fz (.int i)) .no) g [] ts hl.symm (by simpa using by omega) (fun j x t h1 h2 => by
    obtain ⟨t', q1, q2⟩ := hb j x h1
    rw [h2] at q1
    cases q1
    exact ⟨_, rfB_at phi hC q2⟩) (fun j t h => by
    have hj : j < g.length := by have := (List.getElem?_eq_some_iff.mp h).1; omega
    obtain ⟨t', q1, _⟩ := hb j _ (List.getElem?_eq_getElem hj)
    rw [h] at q1
    cases q1
    exact ⟨_, rfl⟩)
  rw [List.nil_append] at cp
  have ix := grD_ix hg
  have lw : wAny (eOp2 opIx (eSlot 0) (eSlot 3)) (envR Gs k C (.fz (.int i)) .no) = .ok (strL g) (envR Gs k C (.fz (.int i)) .no) := by
    unfold envR
    simp [ix]
  have lc : eLcO [4] (.one 4) (wAny (eOp2 opIx (eSlot 0) (eSlot 3))) tYesS (rfB phi) (envR Gs k C (.fz (.int i)) .no) = .ok (.dn (.lst ts)) (envR Gs k C (.fz (.int i)) .no) := by
    unfold eLcO
    rw [lw]
    dsimp only
    rw [lockR, cp]
  unfold rf3 eDispO
  have s3 : eSlot 3 (envR Gs k C (.fz (.int i)) .no) = .ok (.fz (.int i)) (envR Gs k C (.fz (.int i)) .no) := rfl
  simp only [sRet_e, aOwn, s3, lc, chd_fz, chd_dn]
  rfl
theorem fin_dn (Gs : List (List Str)) (k : Int) (C : List Str) (a b : Sl) (d : D) : finish [.r, .r, .r] (.rt (.dn d) (envR Gs k C a b)) = .dp d [] := rfl
theorem refuted_0 (phi : String → List D → RC) {Gs : List (List Str)} {C : List Str} {i : Nat} (hm : phi "_missed" [grD Gs, .lst (strL C)] = .ok false (.int i) []) :
    T__refuted.run phi [grD Gs, .int 0, .lst (strL C)] = .dp (tD i []) [] := by
  rw [rf_run, rf_eq, sSeq_e, rf1_at phi hm]
  dsimp only
  rw [sSeq_e, rf2_0]
  dsimp only
  rw [fin_dn]
theorem refuted_k (phi : String → List D → RC) {Gs : List (List Str)} {k : Int} {C g : List Str} {i : Nat} {ts : List D} (hK : k ≠ 0) (hm : phi "_missed" [grD Gs, .lst (strL C)] = .ok false (.int i) []) (hg : Gs[i]? = some g) (hgl : g.length ≤ 1000) (hl : ts.length = g.length) (hC : C.length ≤ 1000)
    (hb : ∀ (j : Nat) (x : Str), g[j]? = some x → ∃ t, ts[j]? = some (.ob (.tup [.str x, .ob t])) ∧ phi "_refuted" [grD Gs, .int (k - 1), .lst (strL (C ++ [x]))] = .dp t []) :
    T__refuted.run phi [grD Gs, .int k, .lst (strL C)] = .dp (tD i ts) [] := by
  rw [rf_run, rf_eq, sSeq_e, rf1_at phi hm]
  dsimp only
  rw [sSeq_e, rf2_k hK]
  dsimp only
  rw [rf3_at phi hg hgl hl hC hb, fin_dn]
theorem refuted_sem : ∀ (k n : Nat) (Gs : List (List Str)) (C : List Str), (∀ g ∈ Gs, g.length ≤ 1000) → C.length + k ≤ 1000 → (∀ E : List Str, E.length ≤ k → ¬ Covers (C ++ E) Gs) →
    ∃ d, sem tab (k + 2 + n) "_refuted" [grD Gs, .int k, .lst (strL C)] = .dp d [] ∧ RefT Gs k C d := by
  have missed : ∀ (n : Nat) (Gs : List (List Str)) (C : List Str), (∀ g ∈ Gs, g.length ≤ 1000) → ¬ Covers C Gs → ∃ (i : Nat) (g : List Str), sem tab (n + 1) "_missed" [grD Gs, .lst (strL C)] = .ok false (.int i) [] ∧ Gs[i]? = some g ∧ hitB C g = false := fun n Gs C hz hc => by
    obtain ⟨om, hm, m1, m2⟩ := missed_run (sem tab n) (Gs := Gs) (C := C) hz
    cases om with
    | none => exact absurd (m1 rfl) hc
    | some i =>
      obtain ⟨g, hg, hh⟩ := m2 i rfl
      exact ⟨i, g, by rw [sem_st rfl]; exact hm, hg, hh⟩
  intro k
  induction k with
  | zero =>
    intro n Gs C hz hC hE
    obtain ⟨i, g, hm, hg, hh⟩ := missed n Gs C hz (by have := hE [] (by simp); simpa using this)
    rw [show 0 + 2 + n = (n + 1) + 1 by omega, sem_st rfl, show (((0 : Nat) : Int)) = 0 from rfl]
    generalize sem tab (n + 1) = phi at hm
    exact ⟨_, refuted_0 phi hm, i, g, hg, hh, rfl⟩
  | succ k ih =>
    intro n Gs C hz hC hE
    obtain ⟨i, g, hm, hg, hh⟩ := missed (k + 1 + n) Gs C hz (by have := hE [] (by simp); simpa using this)
    rw [show k + 1 + n + 1 = k + 2 + n by omega] at hm
    have hgl := hz g (List.mem_of_getElem? hg)
    rw [show k + 1 + 2 + n = (k + 2 + n) + 1 by omega, sem_st rfl]
    have ih := fun x => ih n Gs (C ++ [x]) hz (by rw [List.length_append]; show C.length + 1 + k ≤ 1000; omega) (fun E hl => by
      have := hE (x :: E) (by rw [List.length_cons]; omega)
      rwa [List.append_assoc])
    generalize sem tab (k + 2 + n) = phi at hm ih
    obtain ⟨ts, hl, hb⟩ := nodes g.length (fun j d => ∃ x t, g[j]? = some x ∧ d = .tup [.str x, .ob t] ∧ phi "_refuted" [grD Gs, .int k, .lst (strL (C ++ [x]))] = .dp t [] ∧ RefT Gs k (C ++ [x]) t) fun j hj => by
      obtain ⟨t, t1, t2⟩ := ih g[j]
      exact ⟨_, _, t, List.getElem?_eq_getElem hj, rfl, t1, t2⟩
    have hb : ∀ (j : Nat) (x : Str), g[j]? = some x → ∃ t, ts[j]? = some (.ob (.tup [.str x, .ob t])) ∧ phi "_refuted" [grD Gs, .int k, .lst (strL (C ++ [x]))] = .dp t [] ∧ RefT Gs k (C ++ [x]) t := fun j x hx => by
      obtain ⟨d, d1, y, t, d2, rfl, d3, d4⟩ := hb j (List.getElem?_eq_some_iff.mp hx).1
      rw [hx] at d2
      cases d2
      exact ⟨t, d1, d3, d4⟩
    refine ⟨tD i ts, refuted_k phi (by omega) hm hg hgl hl (by omega) fun j x hx => ?_, i, g, ts, hg, hh, hl, fun j x hx => ?_, rfl⟩
    · obtain ⟨t, t1, t2, _⟩ := hb j x hx
      refine ⟨t, t1, ?_⟩
      rw [show ((k + 1 : Nat) : Int) - 1 = (k : Int) by omega]
      exact t2
    · obtain ⟨t, t1, _, t3⟩ := hb j x hx
      exact ⟨t, t1, t3⟩
/-! refutation -/
def NoCov (Gs : List (List Str)) (k : Nat) : Prop := ∀ E : List Str, E.length ≤ k → ¬ Covers E Gs
theorem refutation_run (phi : String → List D → RC) {Gs : List (List Str)} {k : Nat} {o : Option (List Str)} (h1 : phi "_covering" [grD Gs, .int k, .lst []] = .ok false (oL o) []) {d : D} (h2 : o = none → phi "_refuted" [grD Gs, .int k, .lst []] = .dp d []) :
    T_refutation.run phi [grD Gs, .int k] = (match o with | none => .dp d [] | some _ => .ok false .non []) := by
  rw [run_is rfl]
  show finish [.r, .r] (b_refutation phi [.bo (grD Gs), .bo (.int k)]) = _
  unfold b_refutation
  cases o with
  | none =>
    have i1 : opIsNot (oL none) .non = some (.fz (.bl false)) := rfl
    have h2 := h2 rfl
    rw [sSeq_e]
    simp [-sSeq_e, h1, i1, h2]
    rfl
  | some L =>
    have i1 : opIsNot (oL (some L)) .non = some (.fz (.bl true)) := rfl
    rw [sSeq_e]
    simp [-sSeq_e, h1, i1]
theorem refutation_sem (k n : Nat) (Gs : List (List Str)) (hz : ∀ g ∈ Gs, g.length ≤ 1000) (hk : k ≤ 1000) :
    ((∃ L : List Str, Covers L Gs ∧ L.length ≤ k) ∧ sem tab (k + 3 + n) "refutation" [grD Gs, .int k] = .ok false .non []) ∨
    (NoCov Gs k ∧ ∃ d, sem tab (k + 3 + n) "refutation" [grD Gs, .int k] = .dp d [] ∧ RefT Gs k [] d) := by
  obtain ⟨o, h1, h2⟩ := covering_sem k n Gs [] hz (by simpa using hk)
  rw [show k + 3 + n = (k + 2 + n) + 1 by omega, sem_st rfl]
  cases o with
  | some L =>
    obtain ⟨q1, q2, _, _⟩ := h2.a L rfl
    refine .inl ⟨⟨L, q1, by simpa using q2⟩, ?_⟩
    rw [refutation_run (o := some L) (d := .non) _ h1 (fun h => by cases h)]
  | none =>
    have nc : NoCov Gs k := fun E hE => by have := h2.b rfl E hE; rwa [List.nil_append] at this
    obtain ⟨d, d1, d2⟩ := refuted_sem k n Gs [] hz (by simpa using hk) (fun E hE => by rw [List.nil_append]; exact nc E hE)
    refine .inr ⟨nc, d, ?_, d2⟩
    rw [refutation_run (o := none) (d := d) _ h1 (fun _ => d1)]
theorem nodup_sub_len10 : ∀ {N E : List Str}, N.Nodup → (∀ x ∈ N, x ∈ E) → N.length ≤ E.length
  | [], E, _, _ => Nat.zero_le _
  | x :: N, E, hn, h => by
    have hx := h x List.mem_cons_self
    have := nodup_sub_len10 (N := N) (E := E.erase x) hn.tail fun y hy => (List.mem_erase_of_ne (fun e => by
      subst e
      exact (List.nodup_cons.mp hn).1 hy)).mpr (h y (List.mem_cons_of_mem _ hy))
    rw [List.length_erase_of_mem hx] at this
    have : 0 < E.length := List.length_pos_of_mem hx
    rw [List.length_cons]
    omega

end S3
namespace S3
open PySem
/-! the wide groups -/
structure Ref10 (phi : String → List D → RC) : Prop where
  yes : ∀ (k : Nat) (Gs : List (List Str)) (L : List Str), k ≤ 8 → (∀ g ∈ Gs, g.length ≤ 1000) → Covers L Gs → L.length ≤ k → phi "refutation" [grD Gs, .int k] = .ok false .non []
  no : ∀ (k : Nat) (Gs : List (List Str)), k ≤ 8 → (∀ g ∈ Gs, g.length ≤ 1000) → NoCov Gs k → ∃ d, phi "refutation" [grD Gs, .int k] = .dp d [] ∧ phi "_law_refutes" [.ob d, grD Gs, .int k, .lst []] = .ok false (.bl true) []
theorem wide10_run (phi : String → List D → RC) {N : List Str} {a : Int} (hl : N.length = 8) (hN : N.Nodup) (ha0 : 0 ≤ a) (ha : a < 48) (R : Ref10 phi) :
    T__law_wide_right.run phi [.lst (strL N), .int a] = .ok false (.bl true) [] := by
  rw [run_is rfl]
  show finish [.r, .v] (b__law_wide_right phi [.bo (.lst (strL N)), .fz (.int a), .no, .no, .no, .no, .no]) = _
  unfold b__law_wide_right
  -- one group of one name each
  have hz1 : ∀ g ∈ N.map (fun x => [x]), g.length ≤ 1000 := fun g hg => by obtain ⟨x, hx, rfl⟩ := List.mem_map.mp hg; simp
  have r1 := R.yes 8 (N.map fun x => [x]) N (by omega) hz1 (fun g hg => by obtain ⟨x, hx, rfl⟩ := List.mem_map.mp hg; exact hitB_iff.mpr ⟨x, by simp, hx⟩) (by omega)
  obtain ⟨d, r2, r3⟩ := R.no 7 (N.map fun x => [x]) (by omega) hz1 (fun E hE hc => by
    have sub : ∀ x ∈ N, x ∈ E := fun x hx => by
      obtain ⟨y, h1, h2⟩ := hitB_iff.mp (hc [x] (List.mem_map.mpr ⟨x, hx, rfl⟩))
      rw [List.mem_singleton.mp h1] at h2
      exact h2
    have := nodup_sub_len10 hN sub
    omega)
  have g1 : D.lst (N.map fun x => .lst (strL [x])) = grD (N.map fun x => [x]) := by unfold grD; rw [List.map_map]; rfl
  have l1 := eLc_ok (own := [3]) (w := wAny (eSlot 0)) (e := [.bo (.lst (strL N)), .fz (.int a), .no, .no, .no, .no, .no]) (e1 := [.bo (.lst (strL N)), .fz (.int a), .no, .no, .no, .no, .no]) (by simp) (sing_comp (xs := N) (e := wipeE (lock [.bo (.lst (strL N)), .fz (.int a), .no, .no, .no, .no, .no]) [3]) (fun _ => rfl)) (by rw [strL_len]; omega)
  rw [g1] at l1
  have l2 := eLc_ok (own := [3]) (w := wAny (eSlot 0)) (e := lock [.bo (.lst (strL N)), .fz (.int a), .ow (grD (N.map fun x => [x])), .no, .no, .no, .no]) (e1 := lock [.bo (.lst (strL N)), .fz (.int a), .ow (grD (N.map fun x => [x])), .no, .no, .no, .no]) (by simp) (sing_comp (xs := N) (e := wipeE (lock (lock [.bo (.lst (strL N)), .fz (.int a), .ow (grD (N.map fun x => [x])), .no, .no, .no, .no])) [3]) (fun _ => rfl)) (by rw [strL_len]; omega)
  rw [g1] at l2
  rw [sSeq_e, sSet_e, l1]
  simp [-sSeq_e]
  generalize N.map (fun x => [x]) = G1 at *
  have in0 : opIsNot .non .non = some (.fz (.bl false)) := rfl
  have r1 : phi "refutation" [grD G1, .int 8] = .ok false .non [] := r1
  have r2 : phi "refutation" [grD G1, .int 7] = .dp d [] := r2
  have r3 : phi "_law_refutes" [.ob d, grD G1, .int 7, .lst []] = .ok false (.bl true) [] := r3
  rw [sSeq_e]
  simp [-sSeq_e, r1, in0]
  rw [sSeq_e]
  simp [-sSeq_e, eCallD, gEx, r2, argsX, -lock_cons]
  rw [l2]
  dsimp only
  rw [r3]
  simp [-sSeq_e]
  -- the wide groups
  have e7 : N.take 7 ++ N.drop 7 = N := List.take_append_drop 7 N
  have hd7 : (N.drop 7).length = 1 := by rw [List.length_drop, hl]
  obtain ⟨b, hb⟩ := List.length_eq_one_iff.mp hd7
  have ht7 : (N.take 7).length = 7 := by rw [List.length_take, hl]; rfl
  have hnd : b ∉ N.take 7 := fun h => by
    rw [← e7, hb, List.nodup_append] at hN
    exact hN.2.2 b h b (by simp) rfl
  have c1 := opCutHi_strL (xs := N) (i := 7) (by decide)
  have c2 := opCutLo_strL (xs := N) (lo := 7) (by decide)
  have t7 : (7 : Int).toNat = 7 := rfl
  rw [t7] at c1 c2
  rw [hb] at c2
  obtain ⟨a0, ha0m⟩ : ∃ x, x ∈ (N.take 7).reverse := by
    cases q : N.take 7 with
    | nil => rw [q] at ht7; cases ht7
    | cons x xs => exact ⟨x, by simp⟩
  have rv := opRev_strL (N.take 7)
  have hnd' : b ∉ (N.take 7).reverse := fun h => hnd (List.mem_reverse.mp h)
  have hAl : (N.take 7).reverse.length ≤ 1000 := by rw [List.length_reverse, ht7]; omega
  have lc3 : lcL (.one 5) tYesS (eOp1 opRev (eOp2 opCutHi (eSlot 0) (eI (eC (.int 7))))) (rng 0 48) (wipeE (lock [.bo (.lst (strL N)), .fz (.int a), .ow (grD G1), .no, .no, .no, .no]) [5]) [] = some ((List.range 48).map fun _ => .lst (strL (N.take 7).reverse)) :=
    lcL_rng (a := 0) (b := 48) (fun _ => .lst (strL (N.take 7).reverse)) fun i hi => by simp [lc1, c1, rv]
  have l3 := eLc_ok (own := [5]) (w := wR1 (eC (.int 48))) (e := [.bo (.lst (strL N)), .fz (.int a), .ow (grD G1), .no, .no, .no, .no]) (e1 := [.bo (.lst (strL N)), .fz (.int a), .ow (grD G1), .no, .no, .no, .no]) (by simp) lc3 (by rw [rng_len]; decide)
  generalize (N.take 7).reverse = A at *
  have g3 : D.lst ((List.range 48).map fun _ => .lst (strL A)) = grD ((List.range 48).map fun _ => A) := by unfold grD; rw [List.map_map]; rfl
  rw [g3] at l3
  rw [sSeq_e, sSet_e, l3]
  simp [-sSeq_e]
  have hpm : mPutL (grD ((List.range 48).map fun _ => A)) (.int a) (.lst (strL [b])) = some (grD (((List.range 48).map fun _ => A).set a.toNat [b])) := by
    unfold grD
    show (L2.ixN _ a).map _ = _
    have : L2.ixN (((List.range 48).map fun _ => A).map fun g => D.lst (strL g)).length a = some a.toNat := by
      unfold L2.ixN
      rw [if_pos ha0, if_pos (by rw [List.length_map, List.length_map, List.length_range]; omega)]
    rw [this]
    show some (D.lst _) = _
    rw [set_map (fun g => D.lst (strL g))]
  rw [sSeq_e]
  simp [-sSeq_e, c2, hpm]
  have all2 : ∀ g ∈ (((List.range 48).map fun _ => A).set a.toNat [b]), g = A ∨ g = [b] := fun g hg => by
    rcases List.mem_or_eq_of_mem_set hg with h | h
    · obtain ⟨_, _, rfl⟩ := List.mem_map.mp h; exact .inl rfl
    · exact .inr h
  have mB : [b] ∈ (((List.range 48).map fun _ => A).set a.toNat [b]) := List.mem_of_getElem? (i := a.toNat) (by rw [List.getElem?_set_self (by rw [List.length_map, List.length_range]; omega)])
  have mA : A ∈ (((List.range 48).map fun _ => A).set a.toNat [b]) := by
    obtain ⟨j, j1, j2⟩ : ∃ j, j < 48 ∧ a.toNat ≠ j := by
      by_cases z : a.toNat = 0
      · exact ⟨1, by omega, by omega⟩
      · exact ⟨0, by omega, z⟩
    refine List.mem_of_getElem? (i := j) ?_
    rw [List.getElem?_set_ne j2, List.getElem?_map, List.getElem?_range j1]
    rfl
  have zl : (((List.range 48).map fun _ => A).set a.toNat [b]).length = 48 := by rw [List.length_set, List.length_map, List.length_range]
  generalize (((List.range 48).map fun _ => A).set a.toNat [b]) = G2 at all2 mB mA zl ⊢
  have hz2 : ∀ g ∈ G2, g.length ≤ 1000 := fun g hg => by
    rcases all2 g hg with rfl | rfl
    · exact hAl
    · simp
  have r4 : phi "refutation" [grD G2, .int 2] = .ok false .non [] := R.yes 2 G2 [a0, b] (by omega) hz2 (fun g hg => by
    rcases all2 g hg with rfl | rfl
    · exact hitB_iff.mpr ⟨a0, ha0m, by simp⟩
    · exact hitB_iff.mpr ⟨b, by simp, by simp⟩) (by simp)
  obtain ⟨d2, r5, r6⟩ := R.no 1 G2 (by omega) hz2 (fun E hE hc => by
    obtain ⟨x, x1, x2⟩ := hitB_iff.mp (hc A mA)
    obtain ⟨y, y1, y2⟩ := hitB_iff.mp (hc [b] mB)
    rw [List.mem_singleton.mp y1] at y2
    cases E with
    | nil => cases x2
    | cons z E =>
      have : E = [] := List.length_eq_zero_iff.mp (by rw [List.length_cons] at hE; omega)
      subst this
      rw [List.mem_singleton] at x2 y2
      subst x2
      subst y2
      exact hnd' x1)
  have r5 : phi "refutation" [grD G2, .int 1] = .dp d2 [] := r5
  have r6 : phi "_law_refutes" [.ob d2, grD G2, .int 1, .lst []] = .ok false (.bl true) [] := r6
  have l4 := eLc_ok (own := [6]) (w := wAny (eSlot 4)) (e := [.bo (.lst (strL N)), .fz (.int a), .ow (grD G1), .no, .ow (grD G2), .no, .no]) (e1 := [.bo (.lst (strL N)), .fz (.int a), .ow (grD G1), .no, .fz (grD G2), .no, .no]) (xs := G2.map fun g => .lst (strL g)) (by unfold grD; simp) (lists_comp (Gs := G2) (i := 6) (e := wipeE (lock [.bo (.lst (strL N)), .fz (.int a), .ow (grD G1), .no, .fz (grD G2), .no, .no]) [6]) (fun _ => rfl)) (by rw [List.length_map]; omega)
  have l4 : eLc [6] (.one 6) (wAny (eSlot 4)) tYesS (eOp1 opList (eSlot 6)) [.bo (.lst (strL N)), .fz (.int a), .ow (grD G1), .no, .ow (grD G2), .no, .no] = .ok (.nw (grD G2)) [.bo (.lst (strL N)), .fz (.int a), .ow (grD G1), .no, .fz (grD G2), .no, .no] := l4
  have l5 := eLc_ok (own := [6]) (w := wAny (eSlot 4)) (e := [.bo (.lst (strL N)), .fz (.int a), .ow (grD G1), .no, .fz (grD G2), .no, .no]) (e1 := [.bo (.lst (strL N)), .fz (.int a), .ow (grD G1), .no, .fz (grD G2), .no, .no]) (xs := G2.map fun g => .lst (strL g)) (by unfold grD; simp) (lists_comp (Gs := G2) (i := 6) (e := wipeE (lock [.bo (.lst (strL N)), .fz (.int a), .ow (grD G1), .no, .fz (grD G2), .no, .no]) [6]) (fun _ => rfl)) (by rw [List.length_map]; omega)
  have l5 : eLc [6] (.one 6) (wAny (eSlot 4)) tYesS (eOp1 opList (eSlot 6)) [.bo (.lst (strL N)), .fz (.int a), .ow (grD G1), .no, .fz (grD G2), .no, .no] = .ok (.nw (grD G2)) [.bo (.lst (strL N)), .fz (.int a), .ow (grD G1), .no, .fz (grD G2), .no, .no] := l5
  rw [sSeq_e]
  simp [-sSeq_e, l4, r4, in0]
  simp [l5, eCallD, gEx, r5, argsX, r6]

end S3
namespace S3
open PySem
/-! the law -/
theorem best_ex {Gs : List (List Str)} (hz : ∀ g ∈ Gs, g.length ≤ 1000) : ∀ k : Nat, k ≤ 1000 → (∃ L : List Str, Covers L Gs ∧ L.length ≤ k) → ∃ L, Best Gs L
  | 0, _, ⟨L, h1, h2⟩ => by
    have : L = [] := List.length_eq_zero_iff.mp (by omega)
    subst this
    exact ⟨[], by simp, h1, fun C _ => Nat.zero_le _, fun x h => by cases h⟩
  | k + 1, hk, h => by
    by_cases c : ∃ L : List Str, Covers L Gs ∧ L.length ≤ k
    · exact best_ex hz k (by omega) c
    · obtain ⟨o, _, o2⟩ := covering_sem (k + 1) 0 Gs [] hz (by simpa using hk)
      cases o with
      | none =>
        obtain ⟨L, h1, h2⟩ := h
        exact absurd (by rwa [List.nil_append]) (o2.b rfl L h2)
      | some L =>
        obtain ⟨q1, q2, q3, q4⟩ := o2.a L rfl
        refine ⟨L, q3 (by simp), q1, fun C hC => ?_, fun x hx => (q4 x hx).resolve_left (by simp)⟩
        have : ¬ C.length ≤ k := fun z => c ⟨C, hC, z⟩
        have : L.length ≤ 0 + (k + 1) := q2
        omega
def lb1 (phi : String → List D → RC) : SV := sSet 9 (eLc [11] (.one 11) (wAny (eSlot 5)) (tYesS) (eOp1 opList (eSlot 11)))
def lb2 (phi : String → List D → RC) : SV := sSet 10 (eCall (phi "refutation") [.r, .r] (aCons (eSlot 9) (aCons (eSlot 7) (aNil))))
def lb3 : SV := sIf (tVal (eOp2 opNe (eSlot 9) (eSlot 5))) (sRet (eC (.bl false))) (sNx)
def lb4 : SV := sIf (tLeaf (tAndS (tVal (eOp2 opGe (eSlot 7) (eSlot 6))) (tVal (eOp2 opIsNot (eSlot 10) (eC .non))))) (sRet (eC (.bl false))) (sNx)
def lb5 (phi : String → List D → RC) : SV := sIf (tAndS (tVal (eOp2 opLt (eSlot 7) (eSlot 6))) (tNotS (tTru (eCallD (phi "_law_refutes") (gSl 10) [.sl 5, .sl 7, .ev (eDisp mkLst (aNil))])))) (sRet (eC (.bl false))) (sNx)
def lbB (phi : String → List D → RC) : SV := sSeq (lb1 phi) (sSeq (lb2 phi) (sSeq lb3 (sSeq lb4 (lb5 phi))))
def lbF (phi : String → List D → RC) : SV := sFor [7, 8, 9, 10, 11] (.one 7) (wR1 (eOp2 opAdd (eSlot 2) (eC (.int 2)))) (sFor [8, 9, 10, 11] (.one 8) (wR1 (eC (.int 2))) (lbB phi))
def envL (S : List D) (ps : List Int) (m : Nat) (s : Int) (M : Nat) (l5 a7 a8 a9 a10 : Sl) : Env := [.fz (.scr S), .ow (lints ps), .fz (.int m), .fz (.int s), .no, l5, .fz (.int M), a7, a8, a9, a10, .no]
section
variable {S : List D} {ps : List Int} {m M : Nat} {s : Int} {l5 a7 a8 a9 a10 : Sl} {Gs : List (List Str)}
theorem lb1_at (phi : String → List D → RC) (h5 : l5 = .ow (grD Gs) ∨ l5 = .fz (grD Gs)) (hl : Gs.length ≤ 100) : lb1 phi (envL S ps m s M l5 a7 a8 .no .no) = .nx (envL S ps m s M (.fz (grD Gs)) a7 a8 (.ow (grD Gs)) .no) := by
  have l8 : eLc [11] (.one 11) (wAny (eSlot 5)) tYesS (eOp1 opList (eSlot 11)) (envL S ps m s M l5 a7 a8 .no .no) = .ok (.nw (grD Gs)) (envL S ps m s M (.fz (grD Gs)) a7 a8 .no .no) := by
    refine eLc_ok (xs := Gs.map fun g => .lst (strL g)) ?_ (lists_comp (Gs := Gs) (i := 11) (fun _ => rfl)) (by rw [List.length_map]; omega)
    unfold envL
    rcases h5 with rfl | rfl <;> (unfold grD; simp)
  unfold lb1
  rw [sSet_e, l8]
  rfl
theorem lb2_non (phi : String → List D → RC) {k : Nat} (h : phi "refutation" [grD Gs, .int k] = .ok false .non []) : lb2 phi (envL S ps m s M l5 (.fz (.int k)) a8 (.ow (grD Gs)) .no) = .nx (envL S ps m s M l5 (.fz (.int k)) a8 (.ow (grD Gs)) (.fz .non)) := by
  unfold lb2 envL
  simp [h]
theorem lb2_dp (phi : String → List D → RC) {k : Nat} {d : D} (h : phi "refutation" [grD Gs, .int k] = .dp d []) : lb2 phi (envL S ps m s M l5 (.fz (.int k)) a8 (.ow (grD Gs)) .no) = .nx (envL S ps m s M l5 (.fz (.int k)) a8 (.ow (grD Gs)) (.dp true d)) := by
  unfold lb2 envL
  simp [h]
theorem lb3_at : lb3 (envL S ps m s M (.fz (grD Gs)) a7 a8 (.ow (grD Gs)) a10) = .nx (envL S ps m s M (.fz (grD Gs)) a7 a8 (.ow (grD Gs)) a10) := by
  have qG : opNe (grD Gs) (grD Gs) = some (.fz (.bl (!decide (Gs = Gs)))) := opNe_enc Gs Gs
  unfold lb3 envL
  simp [qG]
theorem lb4_non {k : Nat} : lb4 (envL S ps m s M l5 (.fz (.int k)) a8 a9 (.fz .non)) = .nx (envL S ps m s M l5 (.fz (.int k)) a8 a9 (.fz .non)) := by
  have in0 : opIsNot .non .non = some (.fz (.bl false)) := rfl
  unfold lb4 envL
  by_cases c : M ≤ k <;> simp [tLeaf, in0, c]
theorem lb4_dp {k : Nat} (h : k < M) : lb4 (envL S ps m s M l5 (.fz (.int k)) a8 a9 a10) = .nx (envL S ps m s M l5 (.fz (.int k)) a8 a9 a10) := by
  have c : ¬ M ≤ k := by omega
  unfold lb4 envL
  simp [tLeaf, c]
theorem lb5_ge (phi : String → List D → RC) {k : Nat} (h : M ≤ k) : lb5 phi (envL S ps m s M l5 (.fz (.int k)) a8 a9 a10) = .nx (envL S ps m s M l5 (.fz (.int k)) a8 a9 a10) := by
  have c : ¬ k < M := by omega
  unfold lb5 envL
  simp [c]
theorem lb5_lt (phi : String → List D → RC) {k : Nat} {d : D} {g : Bool} (h : k < M) (hp : phi "_law_refutes" [.ob d, grD Gs, .int k, .lst []] = .ok false (.bl true) []) : lb5 phi (envL S ps m s M (.fz (grD Gs)) (.fz (.int k)) a8 a9 (.dp g d)) = .nx (envL S ps m s M (.fz (grD Gs)) (.fz (.int k)) a8 a9 .no) := by
  unfold lb5 envL
  simp [h, eCallD, gSl, argsX, hp]
theorem lbB_at (phi : String → List D → RC) {k : Nat} (h5 : l5 = .ow (grD Gs) ∨ l5 = .fz (grD Gs)) (hl : Gs.length ≤ 100) (h : (M ≤ k ∧ phi "refutation" [grD Gs, .int k] = .ok false .non []) ∨ (k < M ∧ ∃ d, phi "refutation" [grD Gs, .int k] = .dp d [] ∧ phi "_law_refutes" [.ob d, grD Gs, .int k, .lst []] = .ok false (.bl true) [])) :
    ∃ x, lbB phi (envL S ps m s M l5 (.fz (.int k)) a8 .no .no) = .nx (envL S ps m s M (.fz (grD Gs)) (.fz (.int k)) a8 (.ow (grD Gs)) x) := by
  unfold lbB
  rcases h with ⟨h1, h2⟩ | ⟨h1, d, h2, h3⟩
  · refine ⟨.fz .non, ?_⟩
    rw [sSeq_e, lb1_at phi h5 hl]
    dsimp only
    rw [sSeq_e, lb2_non phi h2]
    dsimp only
    rw [sSeq_e, lb3_at]
    dsimp only
    rw [sSeq_e, lb4_non]
    dsimp only
    rw [lb5_ge phi h1]
  · refine ⟨.no, ?_⟩
    rw [sSeq_e, lb1_at phi h5 hl]
    dsimp only
    rw [sSeq_e, lb2_dp phi h2]
    dsimp only
    rw [sSeq_e, lb3_at]
    dsimp only
    rw [sSeq_e, lb4_dp h1]
    dsimp only
    rw [lb5_lt phi h1 h3]
theorem lbF_at (phi : String → List D → RC) (hm : m ≤ 7) (hl : Gs.length ≤ 100) (h : ∀ k : Nat, k ≤ 8 → (M ≤ k ∧ phi "refutation" [grD Gs, .int k] = .ok false .non []) ∨ (k < M ∧ ∃ d, phi "refutation" [grD Gs, .int k] = .dp d [] ∧ phi "_law_refutes" [.ob d, grD Gs, .int k, .lst []] = .ok false (.bl true) [])) :
    ∃ x, lbF phi (envL S ps m s M (.ow (grD Gs)) .no .no .no .no) = .nx (envL S ps m s M x .no .no .no .no) := by
  unfold lbF
  obtain ⟨e', q1, x, _, rfl⟩ := for_res10 (tmp := [7, 8, 9, 10, 11]) (t := .one 7) (w := wR1 (eOp2 opAdd (eSlot 2) (eC (.int 2)))) (b := sFor [8, 9, 10, 11] (.one 8) (wR1 (eC (.int 2))) (lbB phi)) (e := envL S ps m s M (.ow (grD Gs)) .no .no .no .no) (e0 := envL S ps m s M (.ow (grD Gs)) .no .no .no .no) (ds := rng 0 (m + 2)) (by
      unfold envL
      simp
      omega)
    (fun _ e => ∃ x, (x = .ow (grD Gs) ∨ x = .fz (grD Gs)) ∧ e = envL S ps m s M x .no .no .no .no) ⟨_, .inl rfl, rfl⟩ (by
      rintro k d e hd ⟨x, hx, rfl⟩
      obtain ⟨rfl, hk⟩ := rng0_get hd
      obtain ⟨e2, q1, y, hy, rfl⟩ := for_res10 (tmp := [8, 9, 10, 11]) (t := .one 8) (w := wR1 (eC (.int 2))) (b := lbB phi) (e := envL S ps m s M x (.fz (.int k)) .no .no .no) (e0 := envL S ps m s M x (.fz (.int k)) .no .no .no) (ds := rng 0 2) (by
          unfold envL
          simp)
        (fun _ e => ∃ x, (x = .ow (grD Gs) ∨ x = .fz (grD Gs)) ∧ e = envL S ps m s M x (.fz (.int k)) .no .no .no) ⟨x, hx, rfl⟩ (by
          rintro j d e hd ⟨x, hx, rfl⟩
          obtain ⟨rfl, hj⟩ := rng0_get hd
          obtain ⟨z, hz⟩ := lbB_at (S := S) (ps := ps) (m := m) (s := s) (a8 := .fz (.int j)) phi hx hl (h k (by omega))
          exact ⟨envL S ps m s M x (.fz (.int k)) (.fz (.int j)) .no .no, _, rfl, hz, .fz (grD Gs), .inr rfl, rfl⟩)
      exact ⟨envL S ps m s M x (.fz (.int k)) .no .no .no, _, rfl, q1, y, hy, rfl⟩)
  exact ⟨x, q1⟩
end
theorem law10 (phi : String → List D → RC) (ns : List Int) {ps : List Int} (h3 : 3 ≤ ps.length) (hr : InR ps) (hD : phi "_law_draws_of" [.scr (ns.map .int)] = .ok true (lints ps) [])
    (hN : ∀ k s : Int, 0 ≤ k → k < 30 → 0 ≤ s → s < 65536 → phi "_law_named" [.int k, .int s] = .ok false (.str (nmS k s)) [])
    (hW : ∀ (N : List Str) (a : Int), N.length = 8 → N.Nodup → 0 ≤ a → a < 48 → phi "_law_wide_right" [.lst (strL N), .int a] = .ok false (.bl true) [])
    (hG : ∀ (m : Nat) (s : Int), m ≤ 30 → 0 ≤ s → s < 65536 → ∃ Gs, phi "_law_groups_of" [lints ps, .int m, .int s, .int 8] = .ok true (grD Gs) [] ∧ Gs.length ≤ 100 ∧ GrOK m s Gs)
    (hM : ∀ (Gs : List (List Str)) (m : Nat) (s : Int), m ≤ 8 → 0 ≤ s → s < 65536 → ∃ M, phi "_law_least" [grD Gs, .int m, .int s] = .ok false (.int (M : Nat)) [] ∧ Least Gs m s 128 M)
    (R : Ref10 phi) :
    T_law.run phi [.scr (ns.map .int)] = .ok false (.bl true) [] := by
  rw [run_is rfl]
  show finish [.v] (b_law phi [.fz (.scr (ns.map .int)), .no, .no, .no, .no, .no, .no, .no, .no, .no, .no, .no]) = _
  unfold b_law
  obtain ⟨p0, p00, p01, i0⟩ := lints_get hr (i := 0) (by decide) (by omega)
  obtain ⟨p2, p20, p21, i2⟩ := lints_get hr (i := 2) (by decide) (by omega)
  generalize ns.map D.int = S at hD
  have s0 : 0 ≤ p0 / 6 := by omega
  have s1 : p0 / 6 < 65536 := by omega
  obtain ⟨m, hm⟩ : ∃ m : Nat, (m : Int) = 1 + p0 % 6 := ⟨(1 + p0 % 6).toNat, by omega⟩
  have m1 : m ≤ 7 := by omega
  rw [sSeq_e]
  simp [hD, -sSeq_e]
  rw [sSeq_e]
  simp [i0, -sSeq_e]
  rw [sSeq_e]
  simp [i0, -sSeq_e]
  rw [← hm]
  generalize p0 / 6 = s at s0 s1 ⊢
  have lc : lcL (.one 4) tYesS (eCall (phi "_law_named") [.r, .r] (aCons (eSlot 4) (aCons (eSlot 3) aNil))) (rng 0 8) (wipeE (lock [.fz (.scr S), .ow (lints ps), .fz (.int m), .fz (.int s), .no, .no, .no, .no, .no, .no, .no, .no]) [4]) [] = some ((List.range 8).map fun i : Nat => .str (nmS (i : Int) s)) :=
    lcL_rng (a := 0) (b := 8) (fun i : Nat => .str (nmS (i : Int) s)) fun i hi => by
      have := hN i s (by omega) (by omega) s0 s1
      simp [lc1, this]
  have hc := eLc_ok (own := [4]) (w := wR1 (eC (.int 8))) (e := [.fz (.scr S), .ow (lints ps), .fz (.int m), .fz (.int s), .no, .no, .no, .no, .no, .no, .no, .no]) (e1 := [.fz (.scr S), .ow (lints ps), .fz (.int m), .fz (.int s), .no, .no, .no, .no, .no, .no, .no, .no]) (by simp) lc (by rw [rng_len]; decide)
  have hn8 : D.lst ((List.range 8).map fun i : Nat => .str (nmS (i : Int) s)) = .lst (strL (nmU 8 s)) := by unfold nmU strL; rw [List.map_map]; rfl
  rw [hn8] at hc
  have hw := hW (nmU 8 s) (p2 % 48) (by unfold nmU; rw [List.length_map, List.length_range]) (nmU_nodup s0 (by omega)) (by omega) (by omega)
  rw [sSeq_e]
  simp [i2, hc, hw, -sSeq_e]
  obtain ⟨Gs, hG1, hG2, hG3⟩ := hG m s (by omega) s0 s1
  rw [sSeq_e]
  simp [hG1, -sSeq_e]
  obtain ⟨M, hM1, hM2⟩ := hM Gs m s (by omega) s0 s1
  rw [sSeq_e]
  simp [hM1, -sSeq_e]
  have hz : ∀ g ∈ Gs, g.length ≤ 1000 := fun g hg => (hG3 g hg).2.1
  obtain ⟨L, hL⟩ := best_ex hz 8 (by omega) ⟨nmU m s, gr_U hG3, by unfold nmU; rw [List.length_map, List.length_range]; omega⟩
  have hLM := least_is s0 m1 hG3 hL hM2
  obtain ⟨x, hx⟩ := lbF_at (S := S) (ps := ps) (m := m) (M := M) (s := s) (Gs := Gs) phi m1 hG2 fun k hk => by
    by_cases c : M ≤ k
    · exact .inl ⟨c, R.yes k Gs L hk hz hL.2.1 (by omega)⟩
    · refine .inr ⟨by omega, R.no k Gs hk hz fun E hE hc => ?_⟩
      have := hL.2.2.1 E hc
      omega
  show finish [.v] (sSeq (lbF phi) (sRet (eC (.bl true))) (envL S ps m s M (.ow (grD Gs)) .no .no .no .no)) = _
  rw [sSeq_e, hx]
  rfl
theorem sol (ns : List Int) (hn : ns.length ≤ 63) : sem tab 40 "law" [.scr (ns.map .int)] = .ok false (.bl true) [] := by
  obtain ⟨ps, h3, h4, hr, hd⟩ := draws_run (sem tab 38) ns hn
  have named : ∀ n (k s : Int), 0 ≤ k → k < 30 → 0 ≤ s → s < 65536 → sem tab (n + 1) "_law_named" [.int k, .int s] = .ok false (.str (nmS k s)) [] := fun n k s a b c d => by
    rw [sem_st rfl]; exact named_run _ a b c d
  have picked : ∀ n (mask : Int) (m : Nat) (s : Int), m ≤ 30 → 0 ≤ s → s < 65536 → sem tab (n + 2) "_law_picked" [.int mask, .int m, .int s] = .ok true (.lst (strL (pick mask s m))) [] := fun n mask m s a b c => by
    rw [sem_st (k := n + 1) rfl]
    have := picked_run (sem tab (n + 1)) (mask := mask) (m := (m : Int)) (s := s) (by omega) (by omega) fun k x y => named n k s x y b c
    rwa [Int.toNat_natCast] at this
  have hits : ∀ n (C : List Str) (Gs : List (List Str)), sem tab (n + 1) "_law_hits" [.lst (strL C), grD Gs] = .ok false (.bl (coversB C Gs)) [] := fun n C Gs => by rw [sem_st rfl]; exact hits_run _ C Gs
  have ref : ∀ n, Ref10 (sem tab (n + 11)) := fun n => by
    constructor
    · intro k Gs L hk hz hc hl
      have := refutation_sem k (n + 8 - k) Gs hz (by omega)
      rw [show k + 3 + (n + 8 - k) = n + 11 by omega] at this
      rcases this with ⟨_, h⟩ | ⟨h, _⟩
      · exact h
      · exact absurd hc (h L hl)
    · intro k Gs hk hz hc
      have := refutation_sem k (n + 8 - k) Gs hz (by omega)
      rw [show k + 3 + (n + 8 - k) = n + 11 by omega] at this
      rcases this with ⟨⟨L, h1, h2⟩, _⟩ | ⟨_, d, h1, h2⟩
      · exact absurd h1 (hc L h2)
      · refine ⟨d, h1, ?_⟩
        have r := refutes_sem k (n + 9 - k) Gs [] d hz (by simpa using by omega) h2
        rwa [show k + 2 + (n + 9 - k) = n + 11 by omega] at r
  rw [sem_st (k := 39) rfl]
  refine law10 _ ns h3 hr ?_ (fun k s a b c d => named 38 k s a b c d) (fun N a hl hN a0 a1 => ?_) (fun m s a b c => ?_) (fun Gs m s a b c => ?_) (ref 28)
  · rw [sem_st (k := 38) rfl]; exact hd
  · rw [sem_st (k := 38) rfl]
    exact wide10_run _ hl hN a0 a1 (ref 27)
  · rw [sem_st (k := 38) rfl]
    refine groups_run _ hr h3 a (by omega) (by omega) (fun k x y => ?_) (fun mask => picked 36 mask m s a b c)
    rw [sem_st (k := 37) rfl]
    exact nth_run _ hr h3 x y
  · rw [sem_st (k := 38) rfl]
    exact least_run _ a (fun mask => picked 36 mask m s (by omega) b c) (fun C => hits 37 C Gs)

end S3
open PySem PySem.W PyProof.Rows
set_option maxRecDepth 100000 in
set_option maxHeartbeats 0 in
theorem hh : PySem.Challenge.rw_letforget_k10_refutations.Holds := by
  w_on; o_law
  refine HandSHeadRun.head_any (r := HR.R) (q := HR.qv) (H := HR.hk) (ob := HR.ob) (M := 20000) (loose := HR.names) (d := HR.dL) (kwd := []) HR.ob_eq
    (by kernel_rfl) (fun s => by kernel_rfl) HR.run (by kernel_rfl) (by kernel_rfl) (by kernel_rfl) (by rfl) (by first | assumption | decide +kernel) (by decide +kernel) ⟨rfl, rfl, rfl, rfl, rfl, by decide +kernel⟩ ?hw ?hc
  case hw => w_witness2
  case hc =>
  refine S3.lawWalk S3.sol (K := HR.kk.heap_1) (l := PySem.Challenge.rw_letforget_k10_refutations) rfl HR.dL_dfl (fun w h Y => PySem.W.kIn_of Y) ?F
  case F =>
    intro w mg fa h KX G hmg0
    have hmg : mg ("law" : PySem.Str) = some (.ref fa) := by
      rw [← HR.dL_name]
      exact hmg0
    k_fill
    refine' S3.all_mk KX G hmg ?z_enumerate ?z_any ?z_len ?z_int ?z_abs ?z_range ?z_str ?z_isinstance ?z_tuple ?z_list ?z_bool ?a0 ?l0 ?d0 ?k0 ?a1 ?l1 ?d1 ?k1 ?a2 ?l2 ?d2 ?k2 ?a3 ?l3 ?d3 ?k3 ?a4 ?l4 ?d4 ?k4 ?a5 ?l5 ?d5 ?k5 ?a6 ?l6 ?d6 ?k6 ?a7 ?l7 ?d7 ?k7 ?a8 ?l8 ?d8 ?k8 ?a9 ?l9 ?d9 ?k9 ?a10 ?l10 ?d10 ?k10 ?a11 ?l11 ?d11 ?k11 ?a12 ?l12 ?d12 ?k12 ?a13 ?l13 ?d13 ?k13
    (case z_enumerate => k_is)
    (case z_any => k_is)
    (case z_len => k_is)
    (case z_int => k_is)
    (case z_abs => k_is)
    (case z_range => k_is)
    (case z_str => k_is)
    (case z_isinstance => k_is)
    (case z_tuple => k_is)
    (case z_list => k_is)
    (case z_bool => k_is)
    (case a0 => k_is)
    (case l0 => k_is)
    (case d0 => k_is)
    (case k0 => k_is)
    (case a1 => k_is)
    (case l1 => k_is)
    (case d1 => k_is)
    (case k1 => k_is)
    (case a2 => k_is)
    (case l2 => k_is)
    (case d2 => k_is)
    (case k2 => k_is)
    (case a3 => k_is)
    (case l3 => k_is)
    (case d3 => k_is)
    (case k3 => k_is)
    (case a4 => k_is)
    (case l4 => k_is)
    (case d4 => k_is)
    (case k4 => k_is)
    (case a5 => k_is)
    (case l5 => k_is)
    (case d5 => k_is)
    (case k5 => k_is)
    (case a6 => k_is)
    (case l6 => k_is)
    (case d6 => k_is)
    (case k6 => k_is)
    (case a7 => k_is)
    (case l7 => k_is)
    (case d7 => k_is)
    (case k7 => k_is)
    (case a8 => k_is)
    (case l8 => k_is)
    (case d8 => k_is)
    (case k8 => k_is)
    (case a9 => k_is)
    (case l9 => k_is)
    (case d9 => k_is)
    (case k9 => k_is)
    (case a10 => k_is)
    (case l10 => k_is)
    (case d10 => k_is)
    (case k10 => k_is)
    (case a11 => k_is)
    (case l11 => k_is)
    (case d11 => k_is)
    (case k11 => k_is)
    (case a12 => k_is)
    (case l12 => k_is)
    (case d12 => k_is)
    (case k12 => k_is)
    (case a13 => k_is)
    (case l13 => k_is)
    (case d13 => k_is)
    (case k13 => k_is)

theorem PySem.Challenge.cw_letforget_k10_refutations_holds : PySem.Challenge.rw_letforget_k10_refutations.Holds := by
  exact hh
