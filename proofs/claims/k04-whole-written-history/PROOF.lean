import PyProof.Rows.All
import PySem.PyData
import PyProof.P3Statements
import HandS.List
import HandS.Text
import Wide.All
import OpenK.AllK
import Wide.FinOn
import HandS.Set
import HandS.SetBool
import HandS.SetKeys
import HandS.SetIn
import HandS.SetFor
import HandS.Strs
import PyProof.Rows.SortShellAny
import HandS.Comp
import HandS.ForMost
import HandS.ForExc
import HandS.CallSlots
import HandS.Deep
import HandS.IsInst
import HandS.RaiseMore
import HandS.HotCalls
import HandS.Style
import HandS.Flow
import HandS.TupAny
import HandS.Star
import KE.KExcSuper
import HandS.ExcInit
import HandS.ExcIs
import KE.KExcIs
import HandS.RaiseFrom
import HandS.ExcValue
import PyProof.RulesMatchSeq
import HandS.Property
import OpenK.KMeth
import HandS.SlotsOwn
import HandS.TupSets
import HandS.DictComp
import PyProof.SeqIndex
import HandS.DeepEq
import HandS.More
import HandS.ExcCtx
import HandS.FStr
import KE.KxField
import PyProof.FString3
import HandS.ReplaceLit
import HandS.ClsMeth
import HandS.Defaults
import KE.KCallOwn
import HandS.Conv
import HandS.MakeKwOnly
import HandS.OwnIter
import HandS.IterNext
import HandS.TryElse
import HandS.GenList
import HandS.New0
import KE.GoesEnumKw
import KE.KStateDown
import HandS.Head0
import HandS.Head1
import HandS.Head2
import PySem.Challenge.RW_letforget_k04_whole_written_history
set_option Elab.async false
set_option linter.all false
set_option maxRecDepth 100000
namespace HR
open PySem PySem.W PySem.Calls PyProof.Rows
/-! the written part of the heap: k_head's own, kept by its name -/
local macro_rules | `(tactic| o_head $h) => `(tactic| assumption)
abbrev R : OpenRow := OpenLaw.row PySem.Challenge.rw_letforget_k04_whole_written_history
theorem kk (h : R.Holds) : R.Holds := by k_head
abbrev qv : Program := view R.prog [29]
def nm0 : List PySem.Str := ["__name__", "KeeperError", "InvalidStep", "InvalidLine", "LETTERS", "DIGITS", "LONGEST", "valid_name", "_is_name", "_are_things", "valid_step", "format_step", "_step_of", "format_history", "parse_history"]
def nm1 : List PySem.Str := ["_law_draws_of", "_law_nth", "_law_named", "_law_is_name", "_law_is_step", "_law_good_step", "_law_text_of", "_law_words_of", "_law_parsed", "_law_lines", "_law_right", "_law_written"]
def names : List PySem.Str := nm0 ++ nm1
def as0 : List Addr := [2, 3, 15, 22, 23, 24, 25, 28, 31, 36, 37, 39, 40, 42, 43, 44, 45, 46, 49, 52, 57, 58, 60, 61, 63, 64, 65, 66, 67, 70]
def as1 : List Addr := [73, 74, 75, 77, 78, 80, 81, 82, 85, 86, 87, 90, 91, 92, 94, 95, 97, 98, 99, 101, 102, 104, 105, 106, 109, 110, 111, 113, 114, 116]
def as2 : List Addr := [117, 118, 120, 121, 123, 124, 125, 127, 128, 130, 131, 132, 134, 135, 137, 138, 139, 141, 142, 144, 145, 146, 148, 149, 151, 152, 153, 155, 156, 158]
def as3 : List Addr := [159, 160, 162, 163, 165, 166, 167, 169, 170, 172, 173, 174, 176, 177, 179, 180, 181, 183, 184, 186, 187, 188, 191, 192, 193, 196, 197, 198, 201, 202]
def asL : List Addr := as0 ++ (as1 ++ (as2 ++ (as3)))
theorem asL_eq (P : Params) : asL = (HR.kk.heap_1 P).map (fun p => p.1) := by kernel_rfl
noncomputable abbrev hk : Hook := kHook HR.kk.heap_1 asL asL_eq
noncomputable def ob (s : SharedT) : hk.α := asL.map (HandSHeadRun.getT s)
theorem ob_eq (s : SharedT) : ob s = hk.obs s.abs := List.map_congr_left fun a _ => HandSHeadRun.getT_eq s a
set_option maxHeartbeats 0 in
theorem runF (w : World) : HandSHeadRun.RunEq R qv hk ob 20000 names (w.withFollow "special-get-raises" false) := by
  intro os
  kernel_rfl
set_option maxHeartbeats 0 in
theorem runT (w : World) : HandSHeadRun.RunEq R qv hk ob 20000 names (w.withFollow "special-get-raises" true) := by
  intro os
  kernel_rfl
theorem run (w : World) : HandSHeadRun.RunEq R qv hk ob 20000 names w := byRow2 "special-get-raises" (P := HandSHeadRun.RunEq R qv hk ob 20000 names) runF runT w
abbrev dL : DefRec := HandSHeadRun.topDef R.prog 29
theorem dL_name : dL.name = ("law" : PySem.Str) := by kernel_rfl
theorem dL_dfl : dL.params.defaults = [] := by kernel_rfl
end HR

/-! A1: a small language of values as trees, its flows and its words (no heap, no program in sight). -/
namespace S3
open PySem

abbrev Key := Sum Int Str

def kIn (k : Key) (xs : List Key) : Bool := xs.any fun j => decide (j = k)
/-- values as trees -/
inductive D where
  | non | bl (b : Bool) | int (i : Int) | str (x : Str)
  | lst (xs : List D) | tup (xs : List D)
  | dk (kvs : List (Key × D)) | dt (kvs : List (List Key × D))
  | st (xs : List Key)
  | obj (c : Str) (fs : List (Str × D))
  | scr (xs : List D)
  | kt (xs : List D)
  | xn (c : Str) (fs : List (Str × D))
  | xv (c : Str) (fs : List (Str × D))
  | cl (c : Str)
  | ob (d : D)
  | any

/-! owned parts (ob) made frozen: a part; what stands at a place -/
mutual
def D.sb : D → D
  | .ob d => d.sbT
  | d => d
def D.sbT : D → D
  | .lst xs => .lst (unbL xs)
  | .tup xs => .tup (unbL xs)
  | .dk kvs => .dk (unbK kvs)
  | .obj c fs => .obj c (unbF fs)
  | d => d
def unbL : List D → List D
  | [] => []
  | d :: ds => d.sb :: unbL ds
def unbK : List (Key × D) → List (Key × D)
  | [] => []
  | (k, d) :: ds => (k, d.sb) :: unbK ds
def unbF : List (Str × D) → List (Str × D)
  | [] => []
  | (k, d) :: ds => (k, d.sb) :: unbF ds
end
/-- a slot: without a value; frozen; owned; lent to be read; lent to be changed; a deep tree (f: new in this frame) -/
inductive Sl where
  | no | fz (d : D) | ow (d : D) | bo (d : D) | mu (d : D) | dp (f : Bool) (d : D)
abbrev Env := List Sl
/-- what an expression gives: a frozen value, a new object, the object that stands at a slot -/
inductive RV where
  | fz (d : D) | nw (d : D) | at (i : Nat) | dn (d : D)
/-- an exception: its class, its fields -/
structure Exn where
  c : Str
  fs : List (Str × D)
inductive RE where
  | ok (r : RV) (e : Env) | ex (x : Exn) (e : Env) | no
inductive RT where
  | ok (b : Bool) (e : Env) | ex (x : Exn) (e : Env) | no
inductive RA where
  | ok (rs : List RV) (e : Env) | ex (x : Exn) (e : Env) | no
inductive RS where
  | nx (e : Env) | rt (r : RV) (e : Env) | bk (e : Env) | ct (e : Env) | ex (x : Exn) (e : Env) | no
/-- a call's end: is the value new; the value; the lent parameters' values behind it -/
inductive RC where
  | ok (n : Bool) (d : D) (outs : List D) | ex (x : Exn) (outs : List D) | no | dp (d : D) (outs : List D)
inductive Md where
  | v | r | m
abbrev EV := Env → RE
abbrev TV := Env → RT
abbrev AV := Env → RA
abbrev SV := Env → RS

def Sl.val : Sl → Option D
  | .no => none | .fz d => some d | .ow d => some d | .bo d => some d | .mu d => some d | .dp _ _ => none
def slot (e : Env) (i : Nat) : Sl := e.getD i .no
/-- to be read -/
def rd : RV → Env → Option D
  | .fz d, _ => some d
  | .nw d, _ => some d
  | .at i, e => (slot e i).val
  | .dn _, _ => none
/-- to be kept: frozen -/
def stl : RV → Env → Option (D × Env)
  | .fz d, e => some (d, e)
  | .nw d, e => some (d, e)
  | .at i, e => (match slot e i with
    | .fz d => some (d, e)
    | .ow d => some (d, e.set i (.fz d))
    | .dp true d => some (d.sbT, e.set i (.fz d.sbT))
    | _ => none)
  | .dn d, e => some (d.sbT, e)

/-! ### expressions -/
def eBind (f : EV) (k : RV → EV) : EV := fun e => match f e with
  | .ok r e1 => k r e1
  | .ex x e1 => .ex x e1
  | .no => .no
def eC (d : D) : EV := fun e => .ok (.fz d) e
def eSlot (i : Nat) : EV := fun e => match slot e i with
  | .no => .no
  | .fz d => .ok (.fz d) e
  | _ => .ok (.at i) e
def ofOp (o : Option RV) (e : Env) : RE := match o with
  | some r => .ok r e
  | none => .no
/-- one value read -/
def eOp1 (op : D → Option RV) (f : EV) : EV := eBind f fun r e => match rd r e with
  | some x => ofOp (op x) e
  | none => .no
/-- two values read -/
def eOp2 (op : D → D → Option RV) (f g : EV) : EV := eBind f fun r => eBind g fun q e => match rd r e, rd q e with
  | some x, some y => ofOp (op x y) e
  | _, _ => .no
def eOp3 (op : D → D → D → Option RV) (f g h : EV) : EV := eBind f fun r => eBind g fun q => eBind h fun p e => match rd r e, rd q e, rd p e with
  | some x, some y, some z => ofOp (op x y z) e
  | _, _, _ => .no

/-- an int, known as it comes -/
def eI (f : EV) : EV := eBind f fun r e => match r with
  | .fz (.int i) => .ok (.fz (.int i)) e
  | _ => .no
/-! arguments: from the left; kept values are frozen as they come -/
def aNil : AV := fun e => .ok [] e
def aCons (f : EV) (g : AV) : AV := fun e => match f e with
  | .ok r e1 => (match g e1 with
    | .ok rs e2 => .ok (r :: rs) e2
    | .ex x e2 => .ex x e2
    | .no => .no)
  | .ex x e1 => .ex x e1
  | .no => .no
/-- kept -/
def aKeep (f : EV) (g : AV) : AV := fun e => match f e with
  | .ok r e1 => (match stl r e1 with
    | some (d, e1') => (match g e1' with
      | .ok rs e2 => .ok (.fz d :: rs) e2
      | .ex x e2 => .ex x e2
      | .no => .no)
    | none => .no)
  | .ex x e1 => .ex x e1
  | .no => .no
def fzs : List RV → Option (List D)
  | [] => some []
  | .fz d :: r => (fzs r).map (d :: ·)
  | _ :: _ => none
/-- a display: all items kept -/
def eDisp (mk : List D → RV) (a : AV) : EV := fun e => match a e with
  | .ok rs e1 => (match fzs rs with
    | some ds => if ds.length ≤ 16777216 then .ok (mk ds) e1 else .no
    | none => .no)
  | .ex x e1 => .ex x e1
  | .no => .no

/-! calls -/
/-- the arguments' values by the parameters' modes -/
def argD : List Md → List RV → Env → Option (List D)
  | [], [], _ => some []
  | .v :: ms, .fz d :: rs, e => (argD ms rs e).map (d :: ·)
  | .r :: ms, r :: rs, e => (match rd r e with
    | some d => (argD ms rs e).map (d :: ·)
    | none => none)
  | .m :: ms, .at i :: rs, e => (match slot e i with
    | .ow d => (argD ms rs e).map (d :: ·)
    | .mu d => (argD ms rs e).map (d :: ·)
    | _ => none)
  | _, _, _ => none
/-- the places of the changed ones; all places that are handed on -/
def mutIx : List Md → List RV → List Nat
  | .m :: ms, .at i :: rs => i :: mutIx ms rs
  | _ :: ms, _ :: rs => mutIx ms rs
  | _, _ => []
def atIx : List RV → List Nat
  | .at i :: rs => i :: atIx rs
  | _ :: rs => atIx rs
  | [] => []
/-- no changed place is handed on twice -/
def apart (ms : List Md) (rs : List RV) : Bool := (mutIx ms rs).all fun i => (atIx rs).count i == 1
/-- the changed ones written back -/
def wback : List Nat → List D → Env → Option Env
  | [], [], e => some e
  | i :: is, d :: ds, e => (match slot e i with
    | .ow _ => wback is ds (e.set i (.ow d))
    | .mu _ => wback is ds (e.set i (.mu d))
    | _ => none)
  | _, _, _ => none
def rv (n : Bool) (d : D) : RV := if n then .nw d else .fz d
def eCall (phi : List D → RC) (ms : List Md) (a : AV) : EV := fun e => match a e with
  | .ok rs e1 => (match argD ms rs e1 with
    | some ds => if apart ms rs then (match phi ds with
        | .ok n d outs => (match wback (mutIx ms rs) outs e1 with
          | some e2 => .ok (rv n d) e2
          | none => .no)
        | .ex x outs => (match wback (mutIx ms rs) outs e1 with
          | some e2 => .ex x e2
          | none => .no)
        | .dp d outs => (match wback (mutIx ms rs) outs e1 with
          | some e2 => .ok (.dn d) e2
          | none => .no)
        | .no => .no)
      else .no
    | none => .no)
  | .ex x e1 => .ex x e1
  | .no => .no
def isLst : D → Bool
  | .lst _ => true | _ => false
def mine (k : D → Bool) : Sl → Bool
  | .ow d => k d | .mu d => k d | _ => false
def reown (s : Sl) (d : D) : Sl := match s with
  | .mu _ => .mu d | _ => .ow d
/-- a call that changes the object at a slot: x.append(..); k: its kind -/
def eMut (i : Nat) (k : D → Bool) (op : D → List D → Option (D × RV)) (a : AV) : EV := fun e => if mine k (slot e i) then (match a e with
  | .ok rs e1 => (match fzs rs with
    | some ds => if mine k (slot e1 i) then (match (slot e1 i).val with
      | some d => (match op d ds with
        | some (d', r) => .ok r (e1.set i (reown (slot e1 i) d'))
        | none => .no)
      | none => .no) else .no
    | none => .no)
  | .ex x e1 => .ex x e1
  | .no => .no) else .no

/-! truth, and, or, not -/
def truth : D → Option Bool
  | .non => some false
  | .bl b => some b
  | .int i => some (i != 0)
  | .str x => some (x.length != 0)
  | .lst xs => some (!xs.isEmpty)
  | .tup xs => some (!xs.isEmpty)
  | _ => none
def asBool : D → Option Bool
  | .bl b => some b
  | _ => none
def tRd (p : D → Option Bool) (f : EV) : TV := fun e => match f e with
  | .ok r e1 => (match rd r e1 with
    | some d => (match p d with
      | some b => .ok b e1
      | none => .no)
    | none => .no)
  | .ex x e1 => .ex x e1
  | .no => .no
/-- an expression that gives True or False; any value by its truth -/
def tVal : EV → TV := tRd asBool
def tTru : EV → TV := tRd truth
def tAndS (f g : TV) : TV := fun e => match f e with
  | .ok true e1 => g e1
  | r => r
def tOrS (f g : TV) : TV := fun e => match f e with
  | .ok false e1 => g e1
  | r => r
def tNotS (f : TV) : TV := fun e => match f e with
  | .ok b e1 => .ok (!b) e1
  | r => r
/-- x and y, x or y as values -/
def eAnd (f g : EV) : EV := eBind f fun r e => match rd r e with
  | some d => (match truth d with
    | some true => g e
    | some false => .ok r e
    | none => .no)
  | none => .no
def eOr (f g : EV) : EV := eBind f fun r e => match rd r e with
  | some d => (match truth d with
    | some true => .ok r e
    | some false => g e
    | none => .no)
  | none => .no
/-! ### statements -/
def sBind (f : SV) (k : SV) : SV := fun e => match f e with
  | .nx e1 => k e1
  | r => r
def sNx : SV := fun e => .nx e
def sSeq (f g : SV) : SV := sBind f g
def sE (f : EV) (k : RV → SV) : SV := fun e => match f e with
  | .ok r e1 => k r e1
  | .ex x e1 => .ex x e1
  | .no => .no
def sExpr (f : EV) : SV := sE f fun _ e => .nx e
/-- handed back: a new object, or one of one's own, or a frozen value -/
def ret (r : RV) (e : Env) : RS := match r with
  | .fz d => .rt (.fz d) e
  | .nw d => .rt (.nw d) e
  | .at i => (match slot e i with
    | .fz d => .rt (.fz d) e
    | .ow d => .rt (.nw d) (e.set i .no)
    | .dp true d => .rt (.dn d) (e.set i .no)
    | _ => .no)
  | .dn d => .rt (.dn d) e
def sRet (f : EV) : SV := sE f ret
def sIf (c : TV) (f g : SV) : SV := fun e => match c e with
  | .ok true e1 => f e1
  | .ok false e1 => g e1
  | .ex x e1 => .ex x e1
  | .no => .no
/-- name = value: a new object is owned -/
def setS (i : Nat) (r : RV) (e : Env) : Option Env := match r with
  | .fz d => some (e.set i (.fz d))
  | .nw d => some (e.set i (.ow d))
  | .at _ => (stl r e).map fun p => p.2.set i (.fz p.1)
  | .dn d => some (e.set i (.dp true d))
def sSet (i : Nat) (f : EV) : SV := sE f fun r e => match setS i r e with
  | some e1 => .nx e1
  | none => .no
/-- names = the items of a frozen tuple -/
def setAll : List Nat → List D → Env → Option Env
  | [], [], e => some e
  | i :: is, d :: ds, e => setAll is ds (e.set i (.fz d))
  | _, _, _ => none
/-- a loop's target: a name; names -/
inductive Tg where
  | one (i : Nat) | tup (is : List Nat)
def tgt : Tg → D → Env → Option Env
  | .one i, d, e => some (e.set i (.fz d))
  | .tup is, .tup ds, e => setAll is ds e
  | _, _, _ => none
def sUnp (is : List Nat) (f : EV) : SV := sE f fun r e => match stl r e with
  | some (.tup ds, e1) => (match setAll is ds e1 with
    | some e2 => .nx e2
    | none => .no)
  | _ => .no
/-- slots forgotten -/
def wipeE (e : Env) : List Nat → Env
  | [] => e
  | i :: is => (wipeE e is).set i .no
/-- the turns of a loop; tmp: the slots forgotten behind each turn -/
def forL (tmp : List Nat) (t : Tg) (b : SV) : List D → SV
  | [], e => .nx e
  | d :: ds, e => (match tgt t d e with
    | some e1 => (match b e1 with
      | .nx e2 => forL tmp t b ds (wipeE e2 tmp)
      | .ct e2 => forL tmp t b ds (wipeE e2 tmp)
      | .bk e2 => .nx (wipeE e2 tmp)
      | .rt r e2 => .rt r e2
      | .ex x e2 => .ex x e2
      | .no => .no)
    | none => .no)
/-- what is walked: the items of a value -/
def items : D → Option (List D)
  | .lst xs => some xs
  | .tup xs => some xs
  | .scr xs => some xs
  | .str x => some (x.cps.toList.map fun c => .str ⟨#[c]⟩)
  | _ => none
/-- walked: the value is frozen, or lent to be read -/
def walk (r : RV) (e : Env) : Option (D × Env) := match r with
  | .fz d => some (d, e)
  | .nw d => some (d, e)
  | .at i => (match slot e i with
    | .fz d => some (d, e)
    | .ow d => some (d, e.set i (.fz d))
    | .bo d => some (d, e)
    | .dp true d => some (d.sbT, e.set i (.fz d.sbT))
    | _ => none)
  | .dn d => some (d.sbT, e)
/-- what is walked: the items -/
inductive RW where
  | ok (xs : List D) (e : Env) | ex (x : Exn) (e : Env) | no
abbrev WV := Env → RW
def wE (f : EV) (k : RV → WV) : WV := fun e => match f e with
  | .ok r e1 => k r e1
  | .ex x e1 => .ex x e1
  | .no => .no
def wAny (f : EV) : WV := wE f fun r e => match walk r e with
  | some (d, e1) => (match items d with
    | some xs => .ok xs e1
    | none => .no)
  | none => .no
def rng (a b : Int) : List D := (List.range (b - a).toNat).map fun i => .int (a + (i : Nat))
/-- range(b), range(a, b) -/
def wR1 (g : EV) : WV := wE (eI g) fun q e => match q with
  | .fz (.int y) => if -(2 ^ 62) ≤ y ∧ y < 2 ^ 62 then .ok (rng 0 y) e else .no
  | _ => .no
def sFor (tmp : List Nat) (t : Tg) (w : WV) (b : SV) : SV := fun e => match w e with
  | .ok xs e1 => forL tmp t b xs e1
  | .ex x e1 => .ex x e1
  | .no => .no
/-! ### comprehensions -/
/-- within: what is owned or lent to be changed is lent to be read; the block's own names forgotten -/
def Sl.lock : Sl → Sl
  | .ow d => .bo d
  | .mu d => .bo d
  | .dp _ _ => .no
  | s => s
def lock (e : Env) : Env := e.map Sl.lock
/-- the items made; nothing may be raised -/
def lcL (t : Tg) (c : TV) (f : EV) : List D → Env → List D → Option (List D)
  | [], _, acc => some acc
  | d :: ds, e, acc => (match tgt t d e with
    | some e1 => (match c e1 with
      | .ok true e2 => (match f e2 with
        | .ok r e3 => (match stl r e3 with
          | some (x, _) => lcL t c f ds e (acc ++ [x])
          | none => none)
        | _ => none)
      | .ok false _ => lcL t c f ds e acc
      | _ => none)
    | none => none)
def tYesS : TV := fun e => .ok true e
/-- [f for t in w if c] -/
def eLc (own : List Nat) (t : Tg) (w : WV) (c : TV) (f : EV) : EV := fun e => match w e with
  | .ok xs e1 => (match lcL t c f xs (wipeE (lock e1) own) [] with
    | some ys => if xs.length ≤ 16777216 then .ok (.nw (.lst ys)) e1 else .no
    | none => .no)
  | .ex x e1 => .ex x e1
  | .no => .no

/-! ### a def -/
def startE (ms : List Md) (ds : List D) (n : Nat) : Env :=
  (ms.zip ds).map (fun p => match p.1 with | .v => Sl.fz p.2 | .r => Sl.bo p.2 | .m => Sl.mu p.2) ++ List.replicate (n - ds.length) Sl.no
/-- the lent parameters' values at the end -/
def outsE : List Md → Env → Option (List D)
  | [], _ => some []
  | .m :: ms, .mu d :: e => (outsE ms e).map (d :: ·)
  | .m :: _, _ => none
  | _ :: ms, _ :: e => outsE ms e
  | _ :: _, [] => none
def finish (ms : List Md) : RS → RC
  | .nx e => (match outsE ms e with
    | some o => .ok false .non o
    | none => .no)
  | .rt r e => (match r with
    | .fz d => (match outsE ms e with
      | some o => .ok false d o
      | none => .no)
    | .nw d => (match outsE ms e with
      | some o => .ok true d o
      | none => .no)
    | .dn d => (match outsE ms e with
      | some o => .dp d o
      | none => .no)
    | .at _ => .no)
  | .ex x e => (match outsE ms e with
    | some o => .ex x o
    | none => .no)
  | _ => .no
/-- a def's text: its parameters' modes, the number of its slots, its body over what the others do -/
structure Def where
  ms : List Md
  n : Nat
  body : (String → List D → RC) → SV
def Def.run (f : Def) (phi : String → List D → RC) (ds : List D) : RC :=
  if ds.length = f.ms.length then finish f.ms (f.body phi (startE f.ms ds f.n)) else .no
/-- all defs, by their names, to a depth of calls -/
def sem (tab : String → Option Def) : Nat → String → List D → RC
  | 0, _, _ => .no
  | k + 1, g, ds => match tab g with
    | some f => f.run (sem tab k) ds
    | none => .no
end S3

/-! A2: what the operators and the built-ins give, on trees. -/
namespace S3
open PySem

abbrev BIG : Nat := 16777216
/-- plain data, to a depth -/
def okD : Nat → D → Bool
  | _, .non => true
  | _, .bl _ => true
  | _, .int _ => true
  | _, .str _ => true
  | n + 1, .lst xs => xs.all (okD n)
  | n + 1, .tup xs => xs.all (okD n)
  | _, _ => false
def py : Nat → D → PyData
  | _, .bl b => .bool b
  | _, .int i => .int i
  | _, .str x => .str x
  | n + 1, .lst xs => .list (xs.map (py n))
  | n + 1, .tup xs => .tuple (xs.map (py n))
  | _, _ => .none
/-- x == y -/
def dEq (x y : D) : Option Bool := if okD 6 x && okD 6 y then some (PyData.eqv (py 6 x) (py 6 y)) else none
def bRV (o : Option Bool) : Option RV := o.map fun b => .fz (.bl b)
def opEq (x y : D) : Option RV := bRV (dEq x y)
def opNe (x y : D) : Option RV := bRV ((dEq x y).map not)
def opLt : D → D → Option RV
  | .int i, .int j => some (.fz (.bl (decide (i < j))))
  | .str x, .str y => some (.fz (.bl (decide (x.cps.toList < y.cps.toList))))
  | _, _ => none
def opLe : D → D → Option RV
  | .int i, .int j => some (.fz (.bl (decide (i ≤ j))))
  | .str x, .str y => some (.fz (.bl (!decide (y.cps.toList < x.cps.toList))))
  | _, _ => none
def opGt : D → D → Option RV
  | .int i, .int j => some (.fz (.bl (decide (j < i))))
  | .str x, .str y => some (.fz (.bl (decide (y.cps.toList < x.cps.toList))))
  | _, _ => none
def dIs : D → D → Option Bool
  | x, .non => some (match x with | .non => true | _ => false)
  | .bl a, .bl b => some (decide (a = b))
  | _, _ => none
def opIs (x y : D) : Option RV := bRV (dIs x y)
/-- a dict's or set's key -/
def toKey : D → Option Key
  | .int i => some (.inl i)
  | .str x => some (.inr x)
  | _ => none
def toKeys : List D → Option (List Key)
  | [] => some []
  | d :: ds => match toKey d, toKeys ds with
    | some k, some ks => some (k :: ks)
    | _, _ => none
section
variable {κ : Type} [DecidableEq κ]
def dVal (kvs : List (κ × D)) (k : κ) : Option D := (kvs.find? fun kv => decide (kv.1 = k)).map (·.2)
end
def dGet (x y : D) : Option (Option D) := match x, y with
  | .dk kvs, y => (toKey y).map fun k => dVal kvs k
  | .dt kvs, .tup ys => (toKeys ys).map fun k => dVal kvs k
  | _, _ => none
def dIn (x y : D) : Option Bool := match y with
  | .lst ys => if okD 6 x && ys.all (okD 5) then some (ys.any fun z => PyData.eqv (py 6 z) (py 6 x)) else none
  | .tup ys => if okD 0 x && ys.all (okD 0) then some (ys.any fun z => PyData.eqv (py 0 z) (py 0 x)) else none
  | .str z => match x with
    | .str c => if c.cps.size = 1 then some (decide (c.cps.getD 0 0 ∈ z.cps.toList)) else none
    | _ => none
  | .st ks => (toKey x).map fun k => kIn k ks
  | y => (dGet y x).map (·.isSome)
def opIn (x y : D) : Option RV := bRV (dIn x y)
def opNotIn (x y : D) : Option RV := bRV ((dIn x y).map not)

def opAdd : D → D → Option RV
  | .int i, .int j => some (.fz (.int (i + j)))
  | .str x, .str y => if x.length + y.length ≤ BIG then some (.fz (.str (x ++ y))) else none
  | .lst xs, .lst ys => if xs.length + ys.length ≤ BIG then some (.nw (.lst (xs ++ ys))) else none
  | .tup xs, .tup ys => if xs.length + ys.length ≤ BIG then some (.fz (.tup (xs ++ ys))) else none
  | _, _ => none
def opSub : D → D → Option RV
  | .int i, .int j => some (.fz (.int (i - j)))
  | _, _ => none
def strRep (x : Str) (n : Int) : Str := ⟨(List.replicate n.toNat x.cps.toList).flatten.toArray⟩
def opMul : D → D → Option RV
  | .str x, .int n => if -1000 ≤ n ∧ n ≤ 1000 ∧ x.length ≤ 1000 then some (.fz (.str (strRep x n))) else none
  | .int i, .int j => if (-(2 ^ 64) < i ∧ i < 2 ^ 64) ∨ (-(2 ^ 64) < j ∧ j < 2 ^ 64) then some (.fz (.int (i * j))) else none
  | _, _ => none
def opMod : D → D → Option RV
  | .int i, .int j => if 0 < j then some (.fz (.int (i % j))) else none
  | _, _ => none
def opDiv : D → D → Option RV
  | .int i, .int j => if 0 < j ∧ j < 1073741824 then some (.fz (.int (i / j))) else none
  | _, _ => none
def opPow : D → D → Option RV
  | .int i, .int j => if 0 ≤ j ∧ j ≤ 1000000 ∧ i.natAbs < 2 ^ 64 then some (.fz (.int (i ^ j.toNat))) else none
  | _, _ => none
def opNeg : D → Option RV
  | .int i => some (.fz (.int (-i)))
  | _ => none
/-- x[i] -/
def opIx : D → D → Option RV
  | .lst xs, .int i => (L2.atI xs i).map .fz
  | .tup xs, .int i => (L2.atI xs i).map .fz
  | .str z, .int i => (L2.atI z.cps.toList i).map fun c => .fz (.str ⟨#[c]⟩)
  | x, y => (dGet x y).join.map .fz
/-- x[lo:hi] -/
def cutD (xs : List D) (lo hi : Option Int) : List D := (xs.drop (HT.sIx xs.length 0 lo)).take (HT.sIx xs.length xs.length hi - HT.sIx xs.length 0 lo)
def dCut (x : D) (l h : Option Int) : Option RV := match x with
  | .lst xs => some (.nw (.lst (cutD xs l h)))
  | .str z => some (.fz (.str (L2.cutS z l h)))
  | .tup xs => some (.fz (.tup (cutD xs l h)))
  | _ => none
def opCut : D → D → D → Option RV
  | x, .int i, .int j => dCut x (some i) (some j)
  | _, _, _ => none
def opCutLo : D → D → Option RV
  | x, .int i => dCut x (some i) none
  | _, _ => none
def opCutHi : D → D → Option RV
  | x, .int j => dCut x none (some j)
  | _, _ => none
/-! built-ins -/
def opLen : D → Option RV
  | .str x => some (.fz (.int x.length))
  | .lst xs => some (.fz (.int xs.length))
  | .tup xs => some (.fz (.int xs.length))
  | .dk xs => some (.fz (.int xs.length))
  | .st xs => some (.fz (.int xs.length))
  | _ => none
def opInt : D → Option RV
  | .int i => some (.fz (.int i))
  | .bl b => some (.fz (.int (if b then 1 else 0)))
  | _ => none
def opAbs : D → Option RV
  | .int i => some (.fz (.int (if i < 0 then -i else i)))
  | _ => none
def toBools : List D → Option (List Bool)
  | [] => some []
  | .bl b :: r => (toBools r).map (b :: ·)
  | _ :: _ => none
def opAll : D → Option RV
  | .lst xs => (toBools xs).map fun bs => .fz (.bl (bs.all id))
  | _ => none
/-- isinstance(x, T), T a built-in class -/
def tyN : D → Option String
  | .non => some "NoneType" | .bl _ => some "bool" | .int _ => some "int" | .str _ => some "str" | .lst _ => some "list" | .tup _ => some "tuple" | .dk _ => some "dict" | _ => none
def subT (t T : String) : Bool := t == T || (t == "bool" && T == "int")
def isTy (T : String) (d : D) : Option Bool := (tyN d).map fun t => subT t T
def opIsTy (T : String) (x : D) : Option RV := bRV (isTy T x)
def opList : D → Option RV
  | .lst xs => some (.nw (.lst xs))
  | .tup xs => some (.nw (.lst xs))
  | _ => none
def opTuple : D → Option RV
  | .lst xs => some (.fz (.tup xs))
  | .tup xs => some (.fz (.tup xs))
  | _ => none
def opStr : D → Option RV
  | .str x => some (.fz (.str x))
  | .int i => if i.natAbs.log2 < 1900 then some (.fz (.str (toString i : String))) else none
  | _ => none
/-! displays, changes -/
def mkLst (xs : List D) : RV := .nw (.lst xs)
def mkTup (xs : List D) : RV := .fz (.tup xs)
def mAppend : D → List D → Option (D × RV)
  | .lst xs, [y] => if xs.length < BIG then some (.lst (xs ++ [y]), .fz .non) else none
  | _, _ => none
end S3

/-! SG: sets of any kind of key, with their members in some order; made, added to, taken from, gathered, sorted. -/
namespace S3
open PySem PySem.Spec PyProof.Rows L2
section
variable {P : Program} {w : World} {κ : Type} [DecidableEq κ]
open Classical in
noncomputable def kOf (knd : PySem.KeyKind P w κ) (v : Value) : Option κ := if h : ∃ k, knd.is k v = true then some h.choose else none
theorem kOf_is {knd : PySem.KeyKind P w κ} {k : κ} {v : Value} (h : knd.is k v = true) : kOf knd v = some k := by
  unfold kOf
  have e : ∃ k, knd.is k v = true := ⟨k, h⟩
  rw [dif_pos e]
  exact congrArg some (knd.inj v _ _ e.choose_spec h)
/-- the set at a: its members are ks, in some order; its table rises and can be walked -/
def SetG (knd : PySem.KeyKind P w κ) (h : Heap) (a : Addr) (ks : List κ) : Prop :=
  ∃ o es ep t, h.get? a = some o ∧ o.ExactSet ∧ o.data = .set es ep t ∧ ElemsOf knd es.toList ∧ (es.toList.map fun e => kOf knd e.2).Perm (ks.map some) ∧ ks.Nodup ∧
    es.size < scanBound ∧ t.fits es.size = true ∧ Ris t.place.toList ∧ (w.params.followText "set-order" = true ∨ t.led = true)
variable {knd : PySem.KeyKind P w κ} {h h' : Heap} {a : Addr} {ks : List κ}
theorem SetG.at (R : SetG knd h a ks) (k : ∀ o, h.get? a = some o → h'.get? a = some o) : SetG knd h' a ks := by
  obtain ⟨o, es, ep, t, ho, r⟩ := R
  exact ⟨o, es, ep, t, k o ho, r⟩
theorem elems_is {es : List (Int × Value)} (g : ElemsOf knd es) {e : Int × Value} (he : e ∈ es) {k : κ} : knd.is k e.2 = true ↔ kOf knd e.2 = some k := by
  refine ⟨kOf_is, fun q => ?_⟩
  obtain ⟨⟨j, hj, _⟩, _⟩ := g e he
  rw [kOf_is hj] at q
  cases q
  exact hj
theorem elems_mem {es : List (Int × Value)} (g : ElemsOf knd es) (p : (es.map fun e => kOf knd e.2).Perm (ks.map some)) {k : κ} : k ∈ ks ↔ ∃ e ∈ es, knd.is k e.2 = true := by
  have q : some k ∈ ks.map some ↔ some k ∈ es.map fun e => kOf knd e.2 := p.symm.mem_iff
  constructor
  · intro hk
    obtain ⟨e, he, q⟩ := List.mem_map.mp (q.mp (List.mem_map.mpr ⟨k, hk, rfl⟩))
    exact ⟨e, he, (elems_is g he).mpr q⟩
  · rintro ⟨e, he, q2⟩
    obtain ⟨j, hj, e2⟩ := List.mem_map.mp (q.mpr (List.mem_map.mpr ⟨e, he, (elems_is g he).mp q2⟩))
    cases e2
    exact hj
theorem SetG.len {es : Array (Int × Value)} (p : (es.toList.map fun e => kOf knd e.2).Perm (ks.map some)) : es.size = ks.length := by
  have := p.length_eq
  rw [List.length_map, List.length_map, Array.length_toList] at this
  exact this
theorem SetG.setOf (R : SetG knd h a ks) : h.SetOf knd a (fun k => decide (k ∈ ks)) ks.length := by
  obtain ⟨o, es, ep, t, ho, hx, hd, g, pm, nd, hb, hf, _⟩ := R
  exact ⟨o, es, ep, t, ho, hx, hd, g, fun k => (decide_eq_true_iff).trans (elems_mem g pm), hb, hf, SetG.len pm⟩
end
section
variable {P : Program} {w : World} {κ : Type} [DecidableEq κ] {knd : PySem.KeyKind P w κ} {A : Around} {E : Value → Shared → Prop} {s : Shared} {a : Addr} {ks : List κ}
theorem setG_add_tail {g : Bool → Sem Unit} (hg : ∀ (b : Bool) (s₁ : Shared) (Q' : Unit → Shared → Prop), Q' () s₁ → wpAny (model P w) A (g b) Q' E s₁)
    {o : Obj} {es : Array (Int × Value)} {ep : Nat} {t : SetTable} (ho : s.heap.get? a = some o) (hex : o.ExactSet) (hd : o.data = .set es ep t)
    {es1 : Array (Int × Value)} {t2 : SetTable} (g1 : ElemsOf knd es1.toList) (p1 : (es1.toList.map fun e => kOf knd e.2).Perm (ks.map some)) (nd : ks.Nodup)
    (hb1 : es1.size < scanBound) (hf2 : t2.fits es1.size = true) (hr : Ris t2.place.toList) (hl : w.params.followText "set-order" = true ∨ t2.led = true) {wasDummy : Bool} {R : Option Bool → Shared → Prop}
    (hR : ∀ h', Heap.SameBut a s.heap h' → SetG knd h' a ks → R (some true) { s with heap := h' }) :
    wpAny (model P w) A (do
        storeSet a es1 t2
        if (!wasDummy && t2.tooFull) = true then do
            g (relayAll t2 es1 (SetTable.grown es1.size)).2.2
            storeSet a (relayAll t2 es1 (SetTable.grown es1.size)).1 (relayAll t2 es1 (SetTable.grown es1.size)).2.1
            pure (some true)
          else pure (some true)) R E s := by
  refine wpAny_bind (wpAny_storeSet_of ho hd ?_ (fits_of_scanBound hb1))
  have ho1 := store_at (es' := es1) (t' := t2) ho hd
  have sb1 := Heap.SameBut.update s.heap a (Obj.putSet es1 t2)
  split
  · have pm := relayAll_perm t2 es1 (SetTable.grown es1.size)
    have hf3 := relayAll_fits t2 es1 (SetTable.grown es1.size)
    have hr3 := relayAll_ris t2 es1 (SetTable.grown es1.size)
    have hl3 := relayAll_led t2 es1 (SetTable.grown es1.size)
    generalize relayAll t2 es1 (SetTable.grown es1.size) = Z at pm hf3 hr3 hl3 ⊢
    obtain ⟨es2, t3, gave⟩ := Z
    dsimp only at pm hf3 hr3 hl3 ⊢
    have hsz : es2.size = es1.size := by rw [← Array.length_toList, pm.length_eq, Array.length_toList]
    have hb2 : es2.size < scanBound := by rw [hsz]; exact hb1
    refine wpAny_bind (hg _ _ _ ?_)
    refine wpAny_bind (wpAny_storeSet_of ho1 rfl ?_ (fits_of_scanBound hb2))
    have ho2 := store_at (es' := es2) (t' := t3) ho1 rfl
    refine wpAny_pure (hR _ (sb1.trans (Heap.SameBut.update _ a _)) ?_)
    exact ⟨_, es2, _, t3, ho2, hex, rfl, fun e he => g1 e (pm.mem_iff.mp he), (pm.map _).trans p1, nd, hb2, hf3, hr3, hl.imp id fun z => by rw [hl3]; exact z⟩
  · exact wpAny_pure (hR _ sb1 ⟨_, es1, _, t2, ho1, hex, rfl, g1, p1, nd, hb1, hf2, hr, hl⟩)
def addK (ks : List κ) (k : κ) : List κ := if k ∈ ks then ks else ks ++ [k]
theorem addK_nodup {k : κ} (nd : ks.Nodup) : (addK ks k).Nodup := by
  unfold addK
  split
  · exact nd
  · rename_i h
    rw [List.nodup_append]
    exact ⟨nd, by simp, fun x hx y hy e => h (by rw [List.mem_singleton] at hy; rw [← hy, ← e]; exact hx)⟩
theorem addK_len (k : κ) : (addK ks k).length ≤ ks.length + 1 := by
  unfold addK
  split
  · omega
  · simp
theorem setG_add_hashed {k : κ} {v : Value} {Q : Bool → Shared → Prop} (hkey : knd.is k v = true) (hsc : v.scannable = true) (R : SetG knd s.heap a ks) (room : ks.length + 1 < scanBound)
    (hQ : ∀ h' b, Heap.SameBut a s.heap h' → SetG knd h' a (addK ks k) → Q b { s with heap := h' }) :
    wpAny (model P w) A (setAddHashed a v (knd.hash k)) Q E s := by
  obtain ⟨o, es, ep, t, ho, hex, hd, hel, pm0, nd, hb, hf, hr, hl⟩ := R
  have hn := SetG.len pm0
  unfold setAddHashed setAddHashedIn
  refine wpAny_holding (wpAny_bind (wpAny_setState_of ho hd hf ?_))
  dsimp only
  rw [byScan_of hsc hb hel]
  simp only [↓reduceIte]
  unfold setAddByScan
  refine wpAny_bind ?_
  refine wpAny_bind (wpAny_rule ?_)
  refine wpAny_bind (wpAny_setScan_of hkey ho hd hf hel ?_)
  cases hfi : List.findIdx? (fun e => knd.is k e.2) es.toList with
  | some j =>
    dsimp only
    obtain ⟨hj, pj, _⟩ := List.findIdx?_eq_some_iff_getElem.mp hfi
    have hSk : k ∈ ks := (elems_mem hel pm0).mpr ⟨es.toList[j], List.getElem_mem hj, pj⟩
    refine wpAny_pure (wpAny_pure ?_)
    refine hQ s.heap _ (Heap.SameBut.refl a s.heap) ?_
    unfold addK
    rw [if_pos hSk]
    exact ⟨o, es, ep, t, ho, hex, hd, hel, pm0, nd, hb, hf, hr, hl⟩
  | none =>
    dsimp only
    have hnk : k ∉ ks := fun z => by
      obtain ⟨e, he, q⟩ := (elems_mem hel pm0).mp z
      have c := List.findIdx?_eq_none_iff.mp hfi e he
      rw [q] at c
      cases c
    have eadd : addK ks k = ks ++ [k] := if_neg hnk
    have hgw : ∀ (b : Bool) {s₁ : Shared} {Q' : Unit → Shared → Prop}, Q' () s₁ → wpAny (model P w) A (match b with | true => rule "set.scan.the-table-gave-way" | false => pure ()) Q' E s₁ :=
      fun b s₁ Q' q => by cases b <;> first | exact wpAny_pure q | exact wpAny_rule q
    have pm := layNew_perm t es (knd.hash k) v
    have hf1 := layNew_fits t es (knd.hash k) v
    have hr1 := layNew_ris t es (knd.hash k) v hr
    have hl1 := layNew_led t es (knd.hash k) v
    generalize layNew t es (knd.hash k) v = Z at pm hf1 hr1 hl1 ⊢
    obtain ⟨es1, t1, wasDummy, gave⟩ := Z
    dsimp only at pm hf1 hr1 hl1 ⊢
    rw [Array.toList_push] at pm
    have g1 : ElemsOf knd es1.toList := fun e he => by
      rcases List.mem_append.mp (pm.mem_iff.mp he) with z | z
      · exact hel e z
      · rw [List.mem_singleton.mp z]; exact ⟨⟨k, hkey, rfl⟩, hsc⟩
    have p1 : (es1.toList.map fun e => kOf knd e.2).Perm ((addK ks k).map some) := by
      refine (pm.map _).trans ?_
      rw [eadd, List.map_append, List.map_append]
      refine List.Perm.append pm0 ?_
      show [kOf knd v].Perm [some k]
      rw [kOf_is hkey]
    have nd1 : (addK ks k).Nodup := addK_nodup nd
    have hsz : es1.size = ks.length + 1 := by rw [SetG.len p1, eadd, List.length_append]; rfl
    have hb1 : es1.size < scanBound := by rw [hsz]; exact room
    have hled : w.params.followText "set-order" = true ∨ t1.led = true := hl.imp id fun z => by rw [hl1]; exact z
    refine wpAny_bind (hgw _ ?_)
    split
    · refine wpAny_bind ?_
      rw [hashByValue_scannable 8 hsc]
      refine wpAny_pure ?_
      refine setG_add_tail ?_ ho hex hd g1 p1 nd1 hb1 ?_ ?_ ?_ ?_
      · intro b s₁ Q' q; cases b <;> first | exact wpAny_pure q | exact wpAny_rule q
      · first | (split <;> first | exact hf1 | exact SetTable.fits_plain_off hf1) | exact hf1
      · first | (split <;> exact hr1) | exact hr1
      · first | (split <;> exact hled) | exact hled
      · intro h' sb r; dsimp only; exact wpAny_pure (hQ _ _ sb r)
    · refine wpAny_bind (wpAny_pure ?_)
      simp only [↓reduceIte]
      refine setG_add_tail ?_ ho hex hd g1 p1 nd1 hb1 hf1 hr1 hled ?_
      · intro b s₁ Q' q; cases b <;> first | exact wpAny_pure q | exact wpAny_rule q
      · intro h' sb r; dsimp only; exact wpAny_pure (hQ _ _ sb r)
theorem setG_addv {k : κ} {v : Value} {Q : Bool → Shared → Prop} (hkey : knd.is k v = true) (hsc : v.scannable = true) (R : SetG knd s.heap a ks) (room : ks.length + 1 < scanBound)
    (hQ : ∀ h' b, Heap.SameBut a s.heap h' → SetG knd h' a (addK ks k) → Q b { s with heap := h', toks := s.toks + 1 }) :
    wpAny (model P w) A (setAdd a v) Q E s := by
  unfold setAdd
  refine wpAny_holding (wpAny_bind (knd.pyHash hkey ?_))
  exact setG_add_hashed (s := { s with toks := s.toks + 1 }) hkey hsc R room hQ
/-- found.add(k) -/
theorem setG_add {k : κ} {v : Value} {Q : Value → Shared → Prop} (hkey : knd.is k v = true) (hsc : v.scannable = true) (R : SetG knd s.heap a ks) (room : ks.length + 1 < scanBound)
    (hQ : ∀ h', Heap.SameBut a s.heap h' → SetG knd h' a (addK ks k) → Q .none { s with heap := h', toks := s.toks + 1 }) :
    wpAny (model P w) A (call (.builtin "set.add") [.ref a, v]) Q E s := by
  have hS := R.setOf
  refine wpAny_call_entry F.slot_set_add hS.typeIs F.entry_set_add ?_ (F.args_set_add_2 _ _)
  unfold Builtin.«set.add» Builtin.Frozenset.oneOther
  simp only [List.isEmpty_nil, bind_assoc]
  unfold Builtin.Frozenset.addrOf
  refine wpAny_bind (wpAny_pure ?_)
  try dsimp only
  refine wpAny_bind (wpAny_pure ?_)
  try dsimp only
  refine wpAny_bind (setG_addv hkey hsc R room fun h' b sb r => ?_)
  show wpAny _ _ (PySem.ret Value.none) _ _ _
  exact wpAny_pure ⟨_, rfl, hQ h' sb r⟩
/-! discard -/
end
/-! as tracked things -/
theorem kIn_iff {k : Key} {ks : List Key} : kIn k ks = true ↔ k ∈ ks := by
  unfold kIn
  rw [List.any_eq_true]
  exact ⟨fun ⟨j, h1, h2⟩ => (of_decide_eq_true h2) ▸ h1, fun h => ⟨k, h, decide_eq_true rfl⟩⟩
theorem SetG.setOfK {P : Program} {w : World} {h : Heap} {a : Addr} {ks : List Key} (R : SetG (mixKind P w) h a ks) : h.SetOf (mixKind P w) a (fun k => kIn k ks) ks.length := by
  obtain ⟨o, es, ep, t, ho, hx, hd, g, pm, nd, hb, hf, _⟩ := R
  exact ⟨o, es, ep, t, ho, hx, hd, g, fun k => kIn_iff.trans (elems_mem g pm), hb, hf, SetG.len pm⟩
def SetGO (P : Program) (w : World) (a : Addr) (ks : List Key) : HO := .ext fun h => SetG (mixKind P w) h a ks
theorem setG_new {w : World} {P : Program} {H : Hp} {h : Heap} {a : Addr} {ks : List Key} (R : SetG (mixKind P w) h a ks) : ObjOk P w H h a (SetGO P w a ks) := by
  have ⟨o, _, _, _, ho, _⟩ := R
  exact ⟨R, ⟨o, ho⟩, fun h1 h2 p k => SetG.at p k⟩
section
variable {X : Cx}
theorem setG_get {pins : List (Addr × Obj)} {σ : L2.St} {H : Hp} {s : Shared} {a : Addr} {ks : List Key} (I : Inv X pins σ H s) (ha : H a = some (SetGO X.prog X.w a ks)) : SetG (mixKind X.prog X.w) s.heap a ks := (I.hok a _ ha).1
/-- k in found, k not in found -/
def rSInG (P : Program) (w : World) (neg : Bool) : V → V → Hp → VK → Prop := fun x y H Q => ∃ (k : Key) (a : Addr) (ks : List Key), x = kV k ∧ y = V.ref a ∧ H a = some (SetGO P w a ks) ∧ Q (.bl (if neg then !kIn k ks else kIn k ks)) H
theorem or_sinG : OpR X (compareOp .In) (rSInG X.prog X.w false) := by
  intro pins s σ H x y v u Q I rx ry h
  obtain ⟨k, a, ks, rfl, rfl, ha, q⟩ := h
  cases ry
  exact wpAny_inSet_of (kV_is rx) (key_scan rx) (setG_get I ha).setOfK ⟨.bl (kIn k ks), H, I.tok _, rfl, q⟩
theorem or_snotinG : OpR X (compareOp .NotIn) (rSInG X.prog X.w true) := by
  intro pins s σ H x y v u Q I rx ry h
  obtain ⟨k, a, ks, rfl, rfl, ha, q⟩ := h
  cases ry
  exact wpAny_notInSet_of (kV_is rx) (key_scan rx) (setG_get I ha).setOfK ⟨.bl (!kIn k ks), H, I.tok _, rfl, q⟩
theorem call_lenSetG : CallR X (.builtin "len") (fun xs H Q => ∃ a ks, xs = [V.ref a] ∧ H a = some (SetGO X.prog X.w a ks) ∧ Q (.int ks.length) H) := by
  intro pins s σ H xs us Q I r h
  obtain ⟨a, ks, rfl, ha, q⟩ := h
  have hr : us = [Value.ref a] := by cases r with | cons h t => cases t; cases h; rfl
  subst hr
  obtain ⟨o, es, ep, t, ho, hex, hd, _, _, hb, hf, hn⟩ := (setG_get I ha).setOf
  rw [← hn] at q
  have e : scanBound ≤ 2 ^ 63 := by decide +kernel
  exact call_len_set ho hex hd hf (by omega) ⟨.int es.size, H, I.tok _, ⟨_, rfl⟩, q⟩
end
end S3

/-! SG2: sets: discard, set(xs), sorted(s), {x}; as calls over the abstract heap. -/
namespace S3
open PySem PySem.Spec PyProof.Rows L2
section
variable {P : Program} {w : World} {κ : Type} [DecidableEq κ] {knd : PySem.KeyKind P w κ} {A : Around} {E : Value → Shared → Prop} {s : Shared} {a : Addr} {ks : List κ}
/-! set(xs) -/
def dedK (ks : List κ) : List κ := ks.foldl addK []
theorem setG_fresh {h : Heap} {a : Addr} (ho : h.get? a = some { cls := .type "set", dict := none, data := .set #[] 0 (.fresh 0 0 (!w.params.followText "set-order")) }) : SetG knd h a [] :=
  ⟨_, #[], 0, _, ho, ⟨rfl, rfl, rfl⟩, rfl, (fun e he => by simp at he), (by simp), (by simp), (by decide), (by rfl), List.Pairwise.nil, by
    show _ ∨ (!w.params.followText "set-order") = true
    cases w.params.followText "set-order"
    · exact .inr rfl
    · exact .inl rfl⟩
theorem dedK_take {ks : List κ} {i : Nat} {k : κ} (h : ks[i]? = some k) : dedK (ks.take (i + 1)) = addK (dedK (ks.take i)) k := by
  unfold dedK
  rw [List.take_add_one, h, List.foldl_append]
  rfl
theorem dedK_len (ks : List κ) : (dedK ks).length ≤ ks.length := by
  have : ∀ (ks acc : List κ), (ks.foldl addK acc).length ≤ acc.length + ks.length := by
    intro ks
    induction ks with
    | nil => intro acc; exact Nat.le_refl _
    | cons k ks ih =>
      intro acc
      have h1 := ih (addK acc k)
      have h2 := addK_len (ks := acc) k
      rw [List.foldl_cons, List.length_cons]
      omega
  have h := this ks []
  rw [List.length_nil] at h
  unfold dedK
  omega
theorem setG_update {I : Addr} {fp wr : List Addr} {G : Array GenState → Array GenState → Prop} {n : Nat} {Pv : Nat → Value → Prop} {St : Nat → Shared → Prop} {R : Result → Shared → Prop}
    (W : WalksS P w A.in1 I fp wr G n Pv St) (S : Addr) (hSf : S ∉ fp) (ns : List κ) (hn : n = ns.length) (hb : ns.length + 1 < scanBound) (hval : ∀ i v, Pv i v → ∃ k, ns[i]? = some k ∧ knd.is k v = true ∧ v.scannable = true) :
    ∀ (k i : Nat) (s : Shared), n - i = k → i ≤ n → St i s → SetG knd s.heap S (dedK (ns.take i)) →
      (∀ s', Moved (S :: wr) G s s' → SetG knd s'.heap S (dedK ns) → R (.ok (.ret .none)) s') →
      codeAny (model P w) A (.builtin "set.update.loop" ⟨[.ref S, .ref I], []⟩) R s := by
  have hSw : S ∉ wr := fun h => hSf (W.sub _ h)
  have hsub : ∀ b ∈ wr, b ∈ S :: wr := fun b hb => List.mem_cons_of_mem _ hb
  intro k
  induction k with
  | zero =>
    intro i s hk' hi hst hS hR
    have hin : i = n := by omega
    subst hin
    refine codeAny_builtin F.entry_set_update_loop ?_
    rw [Around.under_plainId F.plain_set_update_loop _]
    show wpAny _ A.in1 (pyNext (.ref I) >>= _) _ _ s
    refine wpAny_bind (W.done s _ _ hst fun s' hm => ?_)
    show wpAny _ A.in1 (PySem.ret Value.none) _ _ s'
    have e : ns.take i = ns := List.take_of_length_le (by omega)
    rw [e] at hS
    exact wpAny_pure (hR s' (hm.mono hsub) (hS.at fun o e => hm.heap S o hSw e))
  | succ k ih =>
    intro i s hk' hi hst hS hR
    have hlt : i < n := by omega
    refine codeAny_builtin F.entry_set_update_loop ?_
    rw [Around.under_plainId F.plain_set_update_loop _]
    show wpAny _ A.in1 (pyNext (.ref I) >>= _) _ _ s
    refine wpAny_bind (W.item i s _ _ hlt hst fun v s' hP hst' hm => ?_)
    obtain ⟨z, hz, hkey, hsc⟩ := hval i v hP
    have hS' : SetG knd s'.heap S (dedK (ns.take i)) := hS.at fun o e => hm.heap S o hSw e
    show wpAny _ A.in1 (holding [v] (setAdd S v) >>= _) _ _ s'
    refine wpAny_bind (wpAny_holding ?_)
    have hlen : (dedK (ns.take i)).length ≤ i := Nat.le_trans (dedK_len _) (by rw [List.length_take]; omega)
    refine setG_addv hkey hsc hS' (by omega) fun h' b hsb hS2 => ?_
    rw [← dedK_take hz] at hS2
    refine wpAny_pure ⟨plainId_quiet F.plain_set_update_loop _, ih (i + 1) _ (by omega) hlt (W.frame _ s' _ _ hst' (Nat.le_succ _) fun b hb o e => ?_) hS2 fun s'' hm'' hS'' => ?_⟩
    · rw [hsb.2 b (fun h : b = S => hSf (by rw [← h]; exact hb))]; exact e
    · refine hR s'' (Moved.trans W.gtrans ((hm.mono hsub).then_heap (Nat.le_succ _) fun b o hb e => ?_) hm'') hS''
      rw [hsb.2 b (fun h : b = S => hb (by rw [h]; exact List.mem_cons_self))]; exact e
end
end S3

/-! SG3: set(a tuple), set(a list). -/
namespace S3
open PySem PySem.Spec PyProof.Rows L2
section
variable {P : Program} {w : World} {κ : Type} [DecidableEq κ] {knd : PySem.KeyKind P w κ} {A : Around} {E : Value → Shared → Prop} {s : Shared} {a : Addr} {ks : List κ}
set_option maxRecDepth 100000 in
set_option maxHeartbeats 3200000 in
theorem call_set_tupG {l : Addr} {items : Array Value} (ns : List κ) {Q : Value → Shared → Prop} (hh : A.handled = none) (hl : s.heap.IsTuple l items) (hisz : items.size = ns.length) (hit : ∀ (i : Nat) (v : Value), items[i]? = some v → ∃ k, ns[i]? = some k ∧ knd.is k v = true ∧ v.scannable = true) (hb : ns.length + 1 < scanBound)
    (h : ∀ (h' : Heap) (tk : Nat), SetG knd h' s.heap.objs.size (dedK ns) → (∀ b o, s.heap.get? b = some o → h'.get? b = some o) → Q (.ref s.heap.objs.size) { s with heap := h', toks := tk }) :
    wpAny (model P w) A (call (.type "set") [.ref l]) Q E s := by
  obtain ⟨c, tl, hmro⟩ := F.called_set.mro
  have hmade := F.called_set.made
  have hsub := F.called_set.sub
  refine wpAny_call (codeAny_of_tree ?_)
  show wpAny _ _ (callAny (.type "set") _) _ _ _
  refine wpAny_pure ⟨Code.quiet_builtin _ (by decide +kernel), codeAny_builtin F.entry_type_call ?_⟩
  rw [Around.under_plain (weight_type_call_type "set" [.ref l] []) rfl]
  have h1 := F.called_set.notType
  have h2 := F.called_set.canCreate
  have hct := F.typeCall_set_1 (.ref l)
  repeat (any_goals (first | assumption | wp_step))

  refine codeAny_mono (code_set_led1 (.ref l) (E := E) (Q₁ := fun obj s₁ => obj = .ref s.heap.objs.size ∧ s₁ = { s with heap := s.heap.push { cls := .type "set", dict := none, data := .set #[] 0 (.fresh 0 0 (!w.params.followText "set-order")) } }) ⟨rfl, rfl⟩) fun r s₁ hr => ?_
  cases r with
  | error e => exact hr
  | ok fl =>
    cases fl with
    | ret obj =>
      obtain ⟨rfl, rfl⟩ := hr
      have hS : (s.heap.push { cls := .type "set", dict := none, data := .set #[] 0 (.fresh 0 0 (!w.params.followText "set-order")) }).get? s.heap.objs.size = some { cls := .type "set", dict := none, data := .set #[] 0 (.fresh 0 0 (!w.params.followText "set-order")) } := Heap.get?_push_size _ rfl
      have hT : Shared.TypeIs { s with heap := s.heap.push { cls := .type "set", dict := none, data := .set #[] 0 (.fresh 0 0 (!w.params.followText "set-order")) } } (.ref s.heap.objs.size) "set" := ⟨_, hS, rfl⟩
      have hli := F.called_set.init.lookup
      have hbi := F.called_set.init.bind (.ref s.heap.objs.size)
      repeat (any_goals (first | assumption | wp_step))

      refine codeAny_mono (codeAny_call_builtin (R := wants (fun r s₂ => r = .none ∧ ∃ h' tk, s₂ = { s with heap := h', toks := tk } ∧ SetG knd h' s.heap.objs.size (dedK ns) ∧
          (∀ b o, s.heap.get? b = some o → h'.get? b = some o)) E) F.called_set.init.plain F.entry_set_init (check_set_init_1 hT ?_)) fun r₂ s₂ hr₂ => ?_
      · obtain ⟨ol, hol, hcl, nl, hdl⟩ := hl
        obtain ⟨ocls, odict, odata, oslots⟩ := ol
        simp only at hcl hdl
        subst hcl; subst hdl
        have hol' : (s.heap.push { cls := .type "set", dict := none, data := .set #[] 0 (.fresh 0 0 (!w.params.followText "set-order")) }).get? l = some { cls := .type "tuple", dict := odict, data := .seq items nl, slots := oslots } := Heap.get?_push_of_some _ hol
        have hsls := F.sub_tuple_set
        have hslf := F.sub_tuple_frozenset
        have hne : (Value.type "tuple" == Value.type "dict") = false := by decide
        have hl1 : (s.heap.push { cls := .type "set", dict := none, data := .set #[] 0 (.fresh 0 0 (!w.params.followText "set-order")) }).IsTuple l items := ⟨_, hol', rfl, nl, rfl⟩
        unfold Builtin.«set.__init__» noKeywords Builtin.Frozenset.updateFrom
        generalize hPI : pyIter = PI
        wp_walk
        subst hPI

        refine wpAny_pyIter_tuple hl1 ?_
        refine wpAny_bind (wpAny_runValue ?_)
        have hlS : l < s.heap.objs.size := Heap.lt_size hol
        have hh3 : A.in1.in1.in1.handled = none := by simp [hh]
        have hz1 : (s.heap.push { cls := .type "set", dict := none, data := .set #[] 0 (.fresh 0 0 (!w.params.followText "set-order")) }).objs.size = s.heap.objs.size + 1 := Heap.size_push ..
        have hneI : l ≠ (s.heap.push { cls := .type "set", dict := none, data := .set #[] 0 (.fresh 0 0 (!w.params.followText "set-order")) }).objs.size := by
          rw [Heap.size_push]; exact Nat.ne_of_lt (Nat.lt_succ_of_lt hlS)
        have hSf : s.heap.objs.size ∉ [(s.heap.push { cls := .type "set", dict := none, data := .set #[] 0 (.fresh 0 0 (!w.params.followText "set-order")) }).objs.size, l] := by
          rw [Heap.size_push]; simp only [List.mem_cons, List.mem_singleton, List.not_mem_nil, or_false, not_or]
          exact ⟨Nat.ne_of_lt (Nat.lt_succ_self _), Nat.ne_of_gt hlS⟩
        have hval : ∀ (i : Nat) (v : Value), items[i]? = some v → ∃ k, ns[i]? = some k ∧ knd.is k v = true ∧ v.scannable = true := hit
        refine setG_update ((Walks.tuple hh3 _ l hneI items).toS) s.heap.objs.size
          hSf ns hisz hb hval (items.size - 0) 0 _ (by omega) (Nat.zero_le _)
          ⟨⟨_, Heap.get?_push_size _ rfl, rfl, rfl⟩, (hl1.push _)⟩ ?hS0 ?hR
        case hS0 =>
          have hget : ((s.heap.push { cls := .type "set", dict := none, data := .set #[] 0 (.fresh 0 0 (!w.params.followText "set-order")) }).push { cls := .type "tuple_iterator", data := .fields #[.ref l, .int 0 0] }).get? s.heap.objs.size
              = some { cls := .type "set", dict := none, data := .set #[] 0 (.fresh 0 0 (!w.params.followText "set-order")) } := Heap.get?_push_of_some _ hS
          exact setG_fresh hget
        case hR =>
          intro s' hm hS'
          obtain ⟨h', g2, d', tk', os'⟩ := s'
          have eg : g2 = s.gens := hm.gens
          have ed : d' = s.drawn := hm.drawn
          have eo : os' = s.os := hm.os
          subst eg; subst ed; subst eo
          show wpAny _ _ _ _ _ _
          refine wpAny_pure ?_
          show wpAny _ _ (PySem.ret Value.none) _ _ _
          refine wpAny_pure ⟨rfl, h', tk', rfl, hS', fun b o e => ?_⟩
          have hb0 : b < s.heap.objs.size := Heap.lt_size e
          have hb1 : b ≠ s.heap.objs.size := Nat.ne_of_lt hb0
          have hb2 : b ≠ (s.heap.push { cls := .type "set", dict := none, data := .set #[] 0 (.fresh 0 0 (!w.params.followText "set-order")) }).objs.size := by
            rw [Heap.size_push]; exact Nat.ne_of_lt (Nat.lt_succ_of_lt hb0)
          exact hm.heap b o (by simp only [List.mem_cons, List.mem_singleton, List.not_mem_nil, or_false, not_or]; exact ⟨hb1, hb2⟩) (Heap.get?_push_of_some _ (Heap.get?_push_of_some _ e))

      · cases r₂ with
        | error e => exact hr₂
        | ok fl₂ =>
          cases fl₂ with
          | ret r =>
            obtain ⟨rfl, h', tk, rfl, hS', hk'⟩ := hr₂
            repeat (any_goals (first | assumption | wp_step))
            exact h _ _ hS' hk'
          | _ => exact hr₂.elim
    | _ => exact hr.elim

set_option maxRecDepth 100000 in
set_option maxHeartbeats 3200000 in
theorem call_set_lstG {l : Addr} {items : Array Value} (ns : List κ) {Q : Value → Shared → Prop} (hh : A.handled = none) (hl : s.heap.IsList l items) (hisz : items.size = ns.length) (hit : ∀ (i : Nat) (v : Value), items[i]? = some v → ∃ k, ns[i]? = some k ∧ knd.is k v = true ∧ v.scannable = true) (hb : ns.length + 1 < scanBound)
    (h : ∀ (h' : Heap) (tk : Nat), SetG knd h' s.heap.objs.size (dedK ns) → (∀ b o, s.heap.get? b = some o → h'.get? b = some o) → Q (.ref s.heap.objs.size) { s with heap := h', toks := tk }) :
    wpAny (model P w) A (call (.type "set") [.ref l]) Q E s := by
  obtain ⟨c, tl, hmro⟩ := F.called_set.mro
  have hmade := F.called_set.made
  have hsub := F.called_set.sub
  refine wpAny_call (codeAny_of_tree ?_)
  show wpAny _ _ (callAny (.type "set") _) _ _ _
  refine wpAny_pure ⟨Code.quiet_builtin _ (by decide +kernel), codeAny_builtin F.entry_type_call ?_⟩
  rw [Around.under_plain (weight_type_call_type "set" [.ref l] []) rfl]
  have h1 := F.called_set.notType
  have h2 := F.called_set.canCreate
  have hct := F.typeCall_set_1 (.ref l)
  repeat (any_goals (first | assumption | wp_step))

  refine codeAny_mono (code_set_led1 (.ref l) (E := E) (Q₁ := fun obj s₁ => obj = .ref s.heap.objs.size ∧ s₁ = { s with heap := s.heap.push { cls := .type "set", dict := none, data := .set #[] 0 (.fresh 0 0 (!w.params.followText "set-order")) } }) ⟨rfl, rfl⟩) fun r s₁ hr => ?_
  cases r with
  | error e => exact hr
  | ok fl =>
    cases fl with
    | ret obj =>
      obtain ⟨rfl, rfl⟩ := hr
      have hS : (s.heap.push { cls := .type "set", dict := none, data := .set #[] 0 (.fresh 0 0 (!w.params.followText "set-order")) }).get? s.heap.objs.size = some { cls := .type "set", dict := none, data := .set #[] 0 (.fresh 0 0 (!w.params.followText "set-order")) } := Heap.get?_push_size _ rfl
      have hT : Shared.TypeIs { s with heap := s.heap.push { cls := .type "set", dict := none, data := .set #[] 0 (.fresh 0 0 (!w.params.followText "set-order")) } } (.ref s.heap.objs.size) "set" := ⟨_, hS, rfl⟩
      have hli := F.called_set.init.lookup
      have hbi := F.called_set.init.bind (.ref s.heap.objs.size)
      repeat (any_goals (first | assumption | wp_step))

      refine codeAny_mono (codeAny_call_builtin (R := wants (fun r s₂ => r = .none ∧ ∃ h' tk, s₂ = { s with heap := h', toks := tk } ∧ SetG knd h' s.heap.objs.size (dedK ns) ∧
          (∀ b o, s.heap.get? b = some o → h'.get? b = some o)) E) F.called_set.init.plain F.entry_set_init (check_set_init_1 hT ?_)) fun r₂ s₂ hr₂ => ?_
      · obtain ⟨ol, hol, hcl, nl, hdl⟩ := hl
        obtain ⟨ocls, odict, odata, oslots⟩ := ol
        simp only at hcl hdl
        subst hcl; subst hdl
        have hol' : (s.heap.push { cls := .type "set", dict := none, data := .set #[] 0 (.fresh 0 0 (!w.params.followText "set-order")) }).get? l = some { cls := .type "list", dict := odict, data := .seq items nl, slots := oslots } := Heap.get?_push_of_some _ hol
        have hsls := F.sub_list_set
        have hslf := F.sub_list_frozenset
        have hne : (Value.type "list" == Value.type "dict") = false := by decide
        have hl1 : (s.heap.push { cls := .type "set", dict := none, data := .set #[] 0 (.fresh 0 0 (!w.params.followText "set-order")) }).IsList l items := ⟨_, hol', rfl, nl, rfl⟩
        unfold Builtin.«set.__init__» noKeywords Builtin.Frozenset.updateFrom
        generalize hPI : pyIter = PI
        wp_walk
        subst hPI

        refine wpAny_pyIter_list hl1 ?_
        refine wpAny_bind (wpAny_runValue ?_)
        have hlS : l < s.heap.objs.size := Heap.lt_size hol
        have hh3 : A.in1.in1.in1.handled = none := by simp [hh]
        have hz1 : (s.heap.push { cls := .type "set", dict := none, data := .set #[] 0 (.fresh 0 0 (!w.params.followText "set-order")) }).objs.size = s.heap.objs.size + 1 := Heap.size_push ..
        have hneI : l ≠ (s.heap.push { cls := .type "set", dict := none, data := .set #[] 0 (.fresh 0 0 (!w.params.followText "set-order")) }).objs.size := by
          rw [Heap.size_push]; exact Nat.ne_of_lt (Nat.lt_succ_of_lt hlS)
        have hSf : s.heap.objs.size ∉ [(s.heap.push { cls := .type "set", dict := none, data := .set #[] 0 (.fresh 0 0 (!w.params.followText "set-order")) }).objs.size, l] := by
          rw [Heap.size_push]; simp only [List.mem_cons, List.mem_singleton, List.not_mem_nil, or_false, not_or]
          exact ⟨Nat.ne_of_lt (Nat.lt_succ_self _), Nat.ne_of_gt hlS⟩
        have hval : ∀ (i : Nat) (v : Value), items[i]? = some v → ∃ k, ns[i]? = some k ∧ knd.is k v = true ∧ v.scannable = true := hit
        refine setG_update ((Walks.list hh3 _ l hneI items).toS) s.heap.objs.size
          hSf ns hisz hb hval (items.size - 0) 0 _ (by omega) (Nat.zero_le _)
          ⟨⟨_, Heap.get?_push_size _ rfl, rfl, rfl⟩, (hl1.push _)⟩ ?hS0 ?hR
        case hS0 =>
          have hget : ((s.heap.push { cls := .type "set", dict := none, data := .set #[] 0 (.fresh 0 0 (!w.params.followText "set-order")) }).push { cls := .type "list_iterator", data := .fields #[.ref l, .int 0 0] }).get? s.heap.objs.size
              = some { cls := .type "set", dict := none, data := .set #[] 0 (.fresh 0 0 (!w.params.followText "set-order")) } := Heap.get?_push_of_some _ hS
          exact setG_fresh hget
        case hR =>
          intro s' hm hS'
          obtain ⟨h', g2, d', tk', os'⟩ := s'
          have eg : g2 = s.gens := hm.gens
          have ed : d' = s.drawn := hm.drawn
          have eo : os' = s.os := hm.os
          subst eg; subst ed; subst eo
          show wpAny _ _ _ _ _ _
          refine wpAny_pure ?_
          show wpAny _ _ (PySem.ret Value.none) _ _ _
          refine wpAny_pure ⟨rfl, h', tk', rfl, hS', fun b o e => ?_⟩
          have hb0 : b < s.heap.objs.size := Heap.lt_size e
          have hb1 : b ≠ s.heap.objs.size := Nat.ne_of_lt hb0
          have hb2 : b ≠ (s.heap.push { cls := .type "set", dict := none, data := .set #[] 0 (.fresh 0 0 (!w.params.followText "set-order")) }).objs.size := by
            rw [Heap.size_push]; exact Nat.ne_of_lt (Nat.lt_succ_of_lt hb0)
          exact hm.heap b o (by simp only [List.mem_cons, List.mem_singleton, List.not_mem_nil, or_false, not_or]; exact ⟨hb1, hb2⟩) (Heap.get?_push_of_some _ (Heap.get?_push_of_some _ e))

      · cases r₂ with
        | error e => exact hr₂
        | ok fl₂ =>
          cases fl₂ with
          | ret r =>
            obtain ⟨rfl, h', tk, rfl, hS', hk'⟩ := hr₂
            repeat (any_goals (first | assumption | wp_step))
            exact h _ _ hS' hk'
          | _ => exact hr₂.elim
    | _ => exact hr.elim

end
end S3

/-! SG4: sets over the abstract heap: add, discard, sorted, {x}; sorted of texts. -/
namespace S3
open PySem PySem.Spec PyProof.Rows L2
/-! ### the one order of texts -/
def addKey (ks : List Key) (k : Key) : List Key := if kIn k ks then ks else ks ++ [k]
theorem addKey_is (ks : List Key) (k : Key) : addK ks k = addKey ks k := by
  unfold addK addKey
  by_cases h : k ∈ ks
  · rw [if_pos h, if_pos (kIn_iff.mpr h)]
  · rw [if_neg h, if_neg (fun z => h (kIn_iff.mp z))]
def dedKey (ks : List Key) : List Key := ks.foldl addKey []
theorem dedKey_is (ks : List Key) : dedK ks = dedKey ks := by
  unfold dedK dedKey
  congr 1
  funext a b
  exact addKey_is a b
section
variable {X : Cx}
/-! ### add, discard -/
variable {o e : Expr} {es : List Expr} {to : TE} {t : TA} {apos cpos : Pos}
end
/-! ### sorted of a set of texts, of a list of texts -/
section
variable {P : Program} {w : World} {A : Around} {E : Value → Shared → Prop} {s : Shared} {a : Addr}
end
section
variable {X : Cx}
end
end S3

/-! SG5: set(xs), {x} over the abstract heap. -/
namespace S3
open PySem PySem.Spec PyProof.Rows L2
section
variable {X : Cx}
theorem vals_keys {ks : List Key} {its : List Value} (r : Vals (ks.map kV) its) : its.length = ks.length ∧ ∀ (i : Nat) (v : Value), its.toArray[i]? = some v → ∃ k, ks[i]? = some k ∧ (mixKind X.prog X.w).is k v = true ∧ v.scannable = true := by
  have hl := r.length
  rw [List.length_map] at hl
  refine ⟨hl.symm, fun i v h => ?_⟩
  have h' : its[i]? = some v := by simpa using h
  have hi : i < ks.length := by rw [hl]; exact (List.getElem?_eq_some_iff.mp h').1
  have g := List.getElem?_eq_getElem hi
  obtain ⟨u, h1, h2⟩ := Vals.get (i := i) r (by rw [List.getElem?_map, g]; rfl)
  rw [h'] at h1
  cases h1
  exact ⟨_, g, kV_is h2, key_scan h2⟩
def rSetG (K : PySem.W.Frag) (P : Program) (w : World) : List V → Hp → VK → Prop := fun vs H Q => ∃ (a : Addr) (ks : List Key), vs = [V.ref a] ∧ (SqL K H a (ks.map kV) ∨ SqT K H a (ks.map kV)) ∧ ks.length + 1 < scanBound ∧
  ∀ p, H p = none → Q (.ref p) (upd H p (SetGO P w p (dedKey ks)))
theorem cr_setG (hc : X.calm = true) : CallR X (.type "set") (rSetG X.K X.prog X.w) := by
  intro pins s σ H vs us Q I r h
  obtain ⟨a, ks, rfl, hs, hb, q⟩ := h
  rw [Vals.ref1 r]
  have fin : ∀ (h' : Heap) (tk : Nat), SetG (mixKind X.prog X.w) h' s.heap.objs.size (dedK ks) → (∀ b o, s.heap.get? b = some o → h'.get? b = some o) → EP X pins σ Q (.ref s.heap.objs.size) { s with heap := h', toks := tk } := fun h' tk R k => by
    rw [dedKey_is] at R
    have hn : H s.heap.objs.size = none := I.hok.fresh (Nat.le_refl _)
    exact ⟨.ref _, upd H s.heap.objs.size (SetGO X.prog X.w s.heap.objs.size (dedKey ks)), I.laid (t' := tk) k (Nat.le_refl _) (setG_new R), rfl, q _ hn⟩
  rcases hs with hs | hs
  · obtain ⟨its, rv, hl, _⟩ := I.list hs
    obtain ⟨h1, h2⟩ := vals_keys (X := X) rv
    exact call_set_lstG (knd := mixKind X.prog X.w) ks (I.ok.hd hc) hl.isList (by rw [List.size_toArray]; exact h1) h2 hb fin
  · obtain ⟨its, rv, hl, _⟩ := I.tuple hs
    obtain ⟨h1, h2⟩ := vals_keys (X := X) rv
    exact call_set_tupG (knd := mixKind X.prog X.w) ks (I.ok.hd hc) hl (by rw [List.size_toArray]; exact h1) h2 hb fin
end
/-! {x} -/
section
variable {prog : Program} {w : World} {A : Around} {E : Value → Shared → Prop} {s : Shared}
end
section
variable {X : Cx} {a : Expr} {ta : TE}
end
end S3

/-! SG6: set comprehensions of two clauses (the steps of HandS.Comp's two clauses and of HandS.SetBool's set, for any keys). -/
namespace SX
open PySem PySem.Spec PyProof.Rows L2
open S3 (SetGO setG_new setG_fresh setG_get setG_add addKey addKey_is)
section
variable {prog : Program} {w : World} {A : Around} {R : Result → Shared → Prop} {s : Shared} {elt t0 i0 t1 i1 : Expr} {ifs0 ifs1 : List Expr} {scope : Scope} {pos : Pos} {it acc : Value} {env : Env}
end

section
variable {X : Cx}
end
end SX

/-! B1: how trees lie on the abstract heap; slots; readings from the language of A1. -/
namespace S3
open PySem L2

abbrev LIM : Nat := 16777216
/-- a text as there can be -/
def sOk (x : Str) : Bool := decide (x.length ≤ LIM) && x.cps.all (· < 0x110000)
theorem sOk_len {x : Str} (h : sOk x = true) : x.length ≤ LIM := by unfold sOk at h; rw [Bool.and_eq_true] at h; exact of_decide_eq_true h.1
theorem sOk_cps {x : Str} (h : sOk x = true) : x.cps.all (· < 0x110000) = true := by unfold sOk at h; rw [Bool.and_eq_true] at h; exact h.2
theorem sOk_of {x : Str} (h1 : x.length ≤ LIM) (h2 : x.cps.all (· < 0x110000) = true) : sOk x = true := by unfold sOk; rw [decide_eq_true h1, h2]; rfl
/-- keys as there can be -/
def kOk (ks : List Key) : Prop := ∀ x : Str, Sum.inr x ∈ ks → sOk x = true
/-- what the trees hang on: the program, the world, the written part, the classes' places -/
structure Wd where
  P : Program
  w : World
  K : PySem.W.Frag
  ca : Str → Option Addr

/-- an exception as a value: its object, its fields lie in the dict d -/
def ExW (C : Addr) (d : Option Addr) (a : Addr) : HO := .ext fun h => ∃ oe vs, h.get? a = some oe ∧ Zc (.ref C) d oe ∧ oe.data = .fields vs
mutual
/-- v is the tree d, by the frozen part F of the heap -/
inductive Rp (Z : Wd) (F : Hp) : V → D → Prop
  | non : Rp Z F .non .non
  | bl (b : Bool) : Rp Z F (.bl b) (.bl b)
  | int (i : Int) : Rp Z F (.int i) (.int i)
  | str (x : Str) : sOk x = true → Rp Z F (.str x) (.str x)
  | lst {a : Addr} {xs : List V} {ds : List D} : F a = some (.lst xs) → RpA Z F xs ds → Rp Z F (.ref a) (.lst ds)
  | scr {a : Addr} {xs : List V} {ds : List D} : SqL Z.K F a xs → RpA Z F xs ds → Rp Z F (.ref a) (.scr ds)
  | tup {a : Addr} {xs : List V} {ds : List D} : F a = some (.tup xs) → RpA Z F xs ds → Rp Z F (.ref a) (.tup ds)
  | kt {a : Addr} {xs : List V} {ds : List D} : SqT Z.K F a xs → RpA Z F xs ds → Rp Z F (.ref a) (.kt ds)
  | dk {a : Addr} {xs : List (Key × V)} {ds : List (Key × D)} : L2.Rd F a (.dK xs) → kOk (ds.map (·.1)) → RpP Z F xs ds → Rp Z F (.ref a) (.dk ds)
  | dt {a : Addr} {xs : List (List Key × V)} {ds : List (List Key × D)} : L2.Rd F a (.dT xs) → (∀ p ∈ ds, kOk p.1) → RpP Z F xs ds → Rp Z F (.ref a) (.dt ds)
  | st {a : Addr} {xs : List Key} : F a = some (SetGO Z.P Z.w a xs) → kOk xs → Rp Z F (.ref a) (.st xs)
  | obj {a C dx : Addr} {c : Str} {xs : List (Str × V)} {ds : List (Str × D)} : Z.ca c = some C → F a = some (.ins C dx xs) → RpP Z F xs ds → Rp Z F (.ref a) (.obj c ds)
  | xn {a C : Addr} {c : Str} {xs : List (Str × V)} {ds : List (Str × D)} : Z.ca "" = some a → Z.ca "  " = some C → Z.ca c = some C → (c ≠ "" ∧ c ≠ " " ∧ c ≠ "  ") → ((ds = [] ∧ Z.ca " " = none) ∨ ∃ dd, Z.ca " " = some dd ∧ F dd = some (.xd xs)) → RpP Z F xs ds → Rp Z F (.ref a) (.xn c ds)
  | xv {a C : Addr} {c : Str} {d : Option Addr} {xs : List (Str × V)} {ds : List (Str × D)} : Z.ca c = some C → F a = some (ExW C d a) → ((ds = [] ∧ d = none) ∨ ∃ dd, d = some dd ∧ F dd = some (.xd xs)) → RpP Z F xs ds → Rp Z F (.ref a) (.xv c ds)
  | cl {C : Addr} {c : Str} : Z.ca c = some C → Rp Z F (.ref C) (.cl c)
  | any {a : Addr} : Rp Z F (.ref a) .any
inductive RpA (Z : Wd) (F : Hp) : List V → List D → Prop
  | nil : RpA Z F [] []
  | cons {v : V} {vs : List V} {d : D} {ds : List D} : Rp Z F v d → RpA Z F vs ds → RpA Z F (v :: vs) (d :: ds)
inductive RpP (Z : Wd) (F : Hp) : {κ : Type} → List (κ × V) → List (κ × D) → Prop
  | nil {κ : Type} : RpP Z F ([] : List (κ × V)) []
  | cons {κ : Type} {k : κ} {v : V} {vs : List (κ × V)} {d : D} {ds : List (κ × D)} : Rp Z F v d → RpP Z F vs ds → RpP Z F ((k, v) :: vs) ((k, d) :: ds)
end

mutual
/-- v is the tree d; its parts marked ob lie, each once, in the region R, outside of the frozen part F -/
inductive OwT (Z : Wd) (F H : Hp) : List Addr → V → D → Prop
  | fz {v : V} {d : D} : Rp Z F v d → OwT Z F H [] v d
  | lst {a : Addr} {R : List Addr} {xs : List V} {ds : List D} : F a = none → H a = some (.lst xs) → a ∉ R → OwA Z F H R xs ds → OwT Z F H (a :: R) (.ref a) (.ob (.lst ds))
  | tup {a : Addr} {R : List Addr} {xs : List V} {ds : List D} : H a = some (.tup xs) → OwA Z F H R xs ds → OwT Z F H R (.ref a) (.ob (.tup ds))
  | dk {a : Addr} {R : List Addr} {xs : List (Key × V)} {ds : List (Key × D)} : F a = none → H a = some (.dK xs) → kOk (ds.map (·.1)) → a ∉ R → OwP Z F H R xs ds → OwT Z F H (a :: R) (.ref a) (.ob (.dk ds))
  | obj {a C dx : Addr} {c : Str} {R : List Addr} {xs : List (Str × V)} {ds : List (Str × D)} : F a = none → Z.ca c = some C → H a = some (.ins C dx xs) → a ∉ R → OwP Z F H R xs ds → OwT Z F H (a :: R) (.ref a) (.ob (.obj c ds))
inductive OwA (Z : Wd) (F H : Hp) : List Addr → List V → List D → Prop
  | nil : OwA Z F H [] [] []
  | cons {R Q : List Addr} {v : V} {vs : List V} {d : D} {ds : List D} : OwT Z F H R v d → OwA Z F H Q vs ds → (∀ b ∈ R, b ∉ Q) → OwA Z F H (R ++ Q) (v :: vs) (d :: ds)
inductive OwP (Z : Wd) (F H : Hp) : {κ : Type} → List Addr → List (κ × V) → List (κ × D) → Prop
  | nil {κ : Type} : OwP Z F H [] ([] : List (κ × V)) []
  | cons {κ : Type} {k : κ} {R Q : List Addr} {v : V} {vs : List (κ × V)} {d : D} {ds : List (κ × D)} : OwT Z F H R v d → OwP Z F H Q vs ds → (∀ b ∈ R, b ∉ Q) → OwP Z F H (R ++ Q) ((k, v) :: vs) ((k, d) :: ds)
end
/-- not a tuple -/
def NT (u : HO) : Prop := ∀ xs, u ≠ .tup xs
/-- what a deep tree stands on is kept: the region, all tuples -/
def Kp (R : List Addr) (H H' : Hp) : Prop := ∀ b o, H b = some o → (b ∈ R ∨ ¬ NT o) → H' b = some o

section
variable {Z : Wd} {F F' H H' : Hp}
theorem Rd.mono {H H' : Hp} {a : Addr} {u : HO} (h : L2.Rd H a u) (e : Same H H') : L2.Rd H' a u := h.imp (e _ _) fun ⟨o, z⟩ => ⟨o, e _ _ z⟩
theorem SqT.same {K : PySem.W.Frag} {H H' : Hp} {a : Addr} {xs : List V} (e : Same H H') (h : SqT K H a xs) : SqT K H' a xs := by
  rcases h with (h | ⟨o, h⟩) | h
  · exact .inl (.inl (e _ _ h))
  · exact .inl (.inr ⟨o, e _ _ h⟩)
  · exact .inr h
mutual
theorem Rp.mono (e : Same F F') : ∀ {v : V} {d : D}, Rp Z F v d → Rp Z F' v d
  | _, _, .non => .non
  | _, _, .bl b => .bl b
  | _, _, .int i => .int i
  | _, _, .str x h => .str x h
  | _, _, .lst h r => .lst (e _ _ h) (RpA.mono e r)
  | _, _, .scr h r => .scr (Same.seq e h) (RpA.mono e r)
  | _, _, .tup h r => .tup (e _ _ h) (RpA.mono e r)
  | _, _, .kt h r => .kt (SqT.same e h) (RpA.mono e r)
  | _, _, .dk h q r => .dk (Rd.mono h e) q (RpP.mono e r)
  | _, _, .dt h q r => .dt (Rd.mono h e) q (RpP.mono e r)
  | _, _, .st h n => .st (e _ _ h) n
  | _, _, .obj c h r => .obj c (e _ _ h) (RpP.mono e r)
  | _, _, .xn a b c k h r => .xn a b c k (h.imp id fun ⟨dd, x, y⟩ => ⟨dd, x, e _ _ y⟩) (RpP.mono e r)
  | _, _, .xv c q h r => .xv c (e _ _ q) (h.imp id fun ⟨dd, x, y⟩ => ⟨dd, x, e _ _ y⟩) (RpP.mono e r)
  | _, _, .cl c => .cl c
  | _, _, .any => .any
theorem RpA.mono (e : Same F F') : ∀ {v : List V} {d : List D}, RpA Z F v d → RpA Z F' v d
  | _, _, .nil => .nil
  | _, _, .cons h r => .cons (Rp.mono e h) (RpA.mono e r)
theorem RpP.mono (e : Same F F') : ∀ {κ : Type} {v : List (κ × V)} {d : List (κ × D)}, RpP Z F v d → RpP Z F' v d
  | _, _, _, .nil => .nil
  | _, _, _, .cons h r => .cons (Rp.mono e h) (RpP.mono e r)
end

theorem Kp.sub {R Q : List Addr} (k : Kp R H H') (s : ∀ b ∈ Q, b ∈ R) : Kp Q H H' := fun b o h m => k b o h (m.imp (s b) id)
theorem nt_tup {xs : List V} : ¬ NT (.tup xs) := fun h => h xs rfl
mutual
theorem OwT.mono (e : Same F F') : ∀ {R : List Addr} {v : V} {d : D}, OwT Z F H R v d → (∀ b ∈ R, F' b = none) → Kp R H H' → OwT Z F' H' R v d
  | _, _, _, .fz r, _, _ => .fz (r.mono e)
  | _, _, _, .lst f h n r, g, k => .lst (g _ List.mem_cons_self) (k _ _ h (.inl List.mem_cons_self)) n (OwA.mono e r (fun b hb => g b (List.mem_cons_of_mem _ hb)) (k.sub fun b hb => List.mem_cons_of_mem _ hb))
  | _, _, _, .tup h r, g, k => .tup (k _ _ h (.inr nt_tup)) (OwA.mono e r g k)
  | _, _, _, .dk f h q n r, g, k => .dk (g _ List.mem_cons_self) (k _ _ h (.inl List.mem_cons_self)) q n (OwP.mono e r (fun b hb => g b (List.mem_cons_of_mem _ hb)) (k.sub fun b hb => List.mem_cons_of_mem _ hb))
  | _, _, _, .obj f c h n r, g, k => .obj (g _ List.mem_cons_self) c (k _ _ h (.inl List.mem_cons_self)) n (OwP.mono e r (fun b hb => g b (List.mem_cons_of_mem _ hb)) (k.sub fun b hb => List.mem_cons_of_mem _ hb))
theorem OwA.mono (e : Same F F') : ∀ {R : List Addr} {v : List V} {d : List D}, OwA Z F H R v d → (∀ b ∈ R, F' b = none) → Kp R H H' → OwA Z F' H' R v d
  | _, _, _, .nil, _, _ => .nil
  | _, _, _, .cons h r n, g, k => .cons (OwT.mono e h (fun b hb => g b (List.mem_append_left _ hb)) (k.sub fun b hb => List.mem_append_left _ hb)) (OwA.mono e r (fun b hb => g b (List.mem_append_right _ hb)) (k.sub fun b hb => List.mem_append_right _ hb)) n
theorem OwP.mono (e : Same F F') : ∀ {κ : Type} {R : List Addr} {v : List (κ × V)} {d : List (κ × D)}, OwP Z F H R v d → (∀ b ∈ R, F' b = none) → Kp R H H' → OwP Z F' H' R v d
  | _, _, _, _, .nil, _, _ => .nil
  | _, _, _, _, .cons h r n, g, k => .cons (OwT.mono e h (fun b hb => g b (List.mem_append_left _ hb)) (k.sub fun b hb => List.mem_append_left _ hb)) (OwP.mono e r (fun b hb => g b (List.mem_append_right _ hb)) (k.sub fun b hb => List.mem_append_right _ hb)) n
end
theorem no_ob {v : V} {d : D} (h : Rp Z F v (.ob d)) : False := by cases h
mutual
/-- the region is told by the heap -/
theorem OwT.uniq : ∀ {R R' : List Addr} {v : V} {d : D}, OwT Z F H R v d → OwT Z F' H R' v d → R = R'
  | _, _, _, _, .fz r, x => by cases x <;> first | rfl | exact (no_ob r).elim
  | _, _, _, _, .lst _ h _ r, x => by
    cases x with
    | fz r => exact (no_ob r).elim
    | lst _ h' _ r' => rw [h] at h'; cases h'; rw [OwA.uniq r r']
  | _, _, _, _, .tup h r, x => by
    cases x with
    | fz r => exact (no_ob r).elim
    | tup h' r' => rw [h] at h'; cases h'; exact OwA.uniq r r'
  | _, _, _, _, .dk _ h _ _ r, x => by
    cases x with
    | fz r => exact (no_ob r).elim
    | dk _ h' _ _ r' => rw [h] at h'; cases h'; rw [OwP.uniq r r']
  | _, _, _, _, .obj _ _ h _ r, x => by
    cases x with
    | fz r => exact (no_ob r).elim
    | obj _ _ h' _ r' => rw [h] at h'; cases h'; rw [OwP.uniq r r']
theorem OwA.uniq : ∀ {R R' : List Addr} {v : List V} {d : List D}, OwA Z F H R v d → OwA Z F' H R' v d → R = R'
  | _, _, _, _, .nil, x => by cases x; rfl
  | _, _, _, _, .cons h r _, x => by cases x with | cons h' r' _ => rw [OwT.uniq h h', OwA.uniq r r']
theorem OwP.uniq : ∀ {κ : Type} {R R' : List Addr} {v : List (κ × V)} {d : List (κ × D)}, OwP Z F H R v d → OwP Z F' H R' v d → R = R'
  | _, _, _, _, _, .nil, x => by cases x; rfl
  | _, _, _, _, _, .cons h r _, x => by cases x with | cons h' r' _ => rw [OwT.uniq h h', OwP.uniq r r']
end
mutual
/-- the region stands, is not frozen, has no tuples -/
theorem OwT.there : ∀ {R : List Addr} {v : V} {d : D}, OwT Z F H R v d → ∀ b ∈ R, F b = none ∧ ∃ o, H b = some o ∧ NT o
  | _, _, _, .fz _, b, h => by cases h
  | _, _, _, .lst f h _ r, b, m => by
    rcases List.mem_cons.mp m with rfl | m
    · exact ⟨f, _, h, fun _ z => by cases z⟩
    · exact OwA.there r b m
  | _, _, _, .tup _ r, b, m => OwA.there r b m
  | _, _, _, .dk f h _ _ r, b, m => by
    rcases List.mem_cons.mp m with rfl | m
    · exact ⟨f, _, h, fun _ z => by cases z⟩
    · exact OwP.there r b m
  | _, _, _, .obj f _ h _ r, b, m => by
    rcases List.mem_cons.mp m with rfl | m
    · exact ⟨f, _, h, fun _ z => by cases z⟩
    · exact OwP.there r b m
theorem OwA.there : ∀ {R : List Addr} {v : List V} {d : List D}, OwA Z F H R v d → ∀ b ∈ R, F b = none ∧ ∃ o, H b = some o ∧ NT o
  | _, _, _, .nil, b, h => by cases h
  | _, _, _, .cons h r _, b, m => by
    rcases List.mem_append.mp m with m | m
    · exact OwT.there h b m
    · exact OwA.there r b m
theorem OwP.there : ∀ {κ : Type} {R : List Addr} {v : List (κ × V)} {d : List (κ × D)}, OwP Z F H R v d → ∀ b ∈ R, F b = none ∧ ∃ o, H b = some o ∧ NT o
  | _, _, _, _, .nil, b, h => by cases h
  | _, _, _, _, .cons h r _, b, m => by
    rcases List.mem_append.mp m with m | m
    · exact OwT.there h b m
    · exact OwP.there r b m
end
theorem unbK_keys : ∀ d : List (Key × D), (unbK d).map (·.1) = d.map (·.1)
  | [] => rfl
  | (k, d) :: r => by simp only [unbK, List.map_cons, unbK_keys r]
theorem sb_of {v : V} {d : D} (h : Rp Z F v d) : d.sb = d := by cases h <;> rfl
mutual
/-- the region, all tuples laid into the frozen part -/
theorem OwT.rp (e : Same F F') (t : ∀ b xs, H b = some (.tup xs) → F' b = some (.tup xs)) : ∀ {R : List Addr} {v : V} {d : D}, OwT Z F H R v d → (∀ b ∈ R, ∀ o, H b = some o → F' b = some o) → Rp Z F' v d.sb
  | _, _, _, .fz r, _ => by rw [sb_of r]; exact r.mono e
  | _, _, _, .lst _ h _ r, k => .lst (k _ List.mem_cons_self _ h) (OwA.rp e t r fun b m => k b (List.mem_cons_of_mem _ m))
  | _, _, _, .tup h r, k => .tup (t _ _ h) (OwA.rp e t r k)
  | _, _, _, .dk _ h q _ r, k => .dk (.inl (k _ List.mem_cons_self _ h)) (by rw [unbK_keys]; exact q) (OwP.rpK e t r fun b m => k b (List.mem_cons_of_mem _ m))
  | _, _, _, .obj _ c h _ r, k => .obj c (k _ List.mem_cons_self _ h) (OwP.rpF e t r fun b m => k b (List.mem_cons_of_mem _ m))
theorem OwA.rp (e : Same F F') (t : ∀ b xs, H b = some (.tup xs) → F' b = some (.tup xs)) : ∀ {R : List Addr} {v : List V} {d : List D}, OwA Z F H R v d → (∀ b ∈ R, ∀ o, H b = some o → F' b = some o) → RpA Z F' v (unbL d)
  | _, _, _, .nil, _ => .nil
  | _, _, _, .cons h r _, k => .cons (OwT.rp e t h fun b m => k b (List.mem_append_left _ m)) (OwA.rp e t r fun b m => k b (List.mem_append_right _ m))
theorem OwP.rpK (e : Same F F') (t : ∀ b xs, H b = some (.tup xs) → F' b = some (.tup xs)) : ∀ {R : List Addr} {v : List (Key × V)} {d : List (Key × D)}, OwP Z F H R v d → (∀ b ∈ R, ∀ o, H b = some o → F' b = some o) → RpP Z F' v (unbK d)
  | _, _, _, .nil, _ => .nil
  | _, _, _, .cons h r _, k => .cons (OwT.rp e t h fun b m => k b (List.mem_append_left _ m)) (OwP.rpK e t r fun b m => k b (List.mem_append_right _ m))
theorem OwP.rpF (e : Same F F') (t : ∀ b xs, H b = some (.tup xs) → F' b = some (.tup xs)) : ∀ {R : List Addr} {v : List (Str × V)} {d : List (Str × D)}, OwP Z F H R v d → (∀ b ∈ R, ∀ o, H b = some o → F' b = some o) → RpP Z F' v (unbF d)
  | _, _, _, .nil, _ => .nil
  | _, _, _, .cons h r _, k => .cons (OwT.rp e t h fun b m => k b (List.mem_append_left _ m)) (OwP.rpF e t r fun b m => k b (List.mem_append_right _ m))
end
/-- the frozen part, with a region of the heap and all tuples -/
def pubF (F H : Hp) (R : List Addr) : Hp := fun b => match F b with
  | some o => some o
  | none => if b ∈ R then H b else (match H b with
    | some (.tup xs) => some (.tup xs)
    | _ => none)
theorem pub_f {R : List Addr} : Same F (pubF F H R) := fun b o h => by unfold pubF; rw [h]
theorem pub_le {R : List Addr} (l : Same F H) : Same (pubF F H R) H := fun b o h => by
  unfold pubF at h
  cases q : F b with
  | some u => rw [q] at h; cases h; exact l _ _ q
  | none =>
    rw [q] at h
    dsimp only at h
    split at h
    · exact h
    · split at h
      · rename_i xs q2; rw [q2, ← h]
      · cases h
theorem pub_in {R : List Addr} (l : Same F H) {b : Addr} {o : HO} (m : b ∈ R) (h : H b = some o) : pubF F H R b = some o := by
  unfold pubF
  cases q : F b with
  | some u => rw [← h]; exact (l _ _ q).symm
  | none => dsimp only; rw [if_pos m]; exact h
theorem pub_tup {R : List Addr} (l : Same F H) {b : Addr} {xs : List V} (h : H b = some (.tup xs)) : pubF F H R b = some (.tup xs) := by
  unfold pubF
  cases q : F b with
  | some u => rw [← h]; exact (l _ _ q).symm
  | none =>
    dsimp only
    by_cases m : b ∈ R
    · rw [if_pos m]; exact h
    · rw [if_neg m, h]
theorem pub_out {R : List Addr} {b : Addr} (m : b ∉ R) (f : F b = none) (nt : ∀ o, H b = some o → NT o) : pubF F H R b = none := by
  unfold pubF
  rw [f]
  dsimp only
  rw [if_neg m]
  split
  · rename_i xs h; exact (nt _ h xs rfl).elim
  · rfl
theorem OwT.pub {R : List Addr} {v : V} {d : D} (l : Same F H) (h : OwT Z F H R v d) : Rp Z (pubF F H R) v d.sb := h.rp pub_f (fun _ _ => pub_tup l) fun _ m _ => pub_in l m

/-- the object at a is the top of the tree d, what it holds is frozen -/
def Top (Z : Wd) (F H : Hp) (a : Addr) : D → Prop
  | .lst ds => ∃ xs, H a = some (.lst xs) ∧ RpA Z F xs ds
  | .dk ds => kOk (ds.map (·.1)) ∧ ∃ xs, H a = some (.dK xs) ∧ RpP Z F xs ds
  | .dt ds => (∀ p ∈ ds, kOk p.1) ∧ ∃ xs, H a = some (.dT xs) ∧ RpP Z F xs ds
  | .st xs => H a = some (SetGO Z.P Z.w a xs) ∧ kOk xs
  | .obj c ds => ∃ C dx xs, Z.ca c = some C ∧ H a = some (.ins C dx xs) ∧ RpP Z F xs ds
  | _ => False
theorem Top.there {a : Addr} {d : D} (h : Top Z F H a d) : ∃ o, H a = some o := by
  cases d <;> simp only [Top] at h
  case lst => obtain ⟨_, h, _⟩ := h; exact ⟨_, h⟩
  case dk => obtain ⟨_, _, h, _⟩ := h; exact ⟨_, h⟩
  case dt => obtain ⟨_, _, h, _⟩ := h; exact ⟨_, h⟩
  case st => exact ⟨_, h.1⟩
  case obj => obtain ⟨_, _, _, _, h, _⟩ := h; exact ⟨_, h⟩
theorem Top.thereN {a : Addr} {d : D} (h : Top Z F H a d) : ∃ o, H a = some o ∧ NT o := by
  cases d <;> simp only [Top] at h
  case lst => obtain ⟨_, h, _⟩ := h; exact ⟨_, h, fun _ z => by cases z⟩
  case dk => obtain ⟨_, _, h, _⟩ := h; exact ⟨_, h, fun _ z => by cases z⟩
  case dt => obtain ⟨_, _, h, _⟩ := h; exact ⟨_, h, fun _ z => by cases z⟩
  case st => exact ⟨_, h.1, fun _ z => by cases z⟩
  case obj => obtain ⟨_, _, _, _, h, _⟩ := h; exact ⟨_, h, fun _ z => by cases z⟩
/-- kept where the object stands as it stood -/
theorem Top.keep {a : Addr} {d : D} (h : Top Z F H a d) (e : Same F F') (k : ∀ o, H a = some o → H' a = some o) : Top Z F' H' a d := by
  cases d <;> simp only [Top] at h ⊢
  case lst => obtain ⟨_, h, r⟩ := h; exact ⟨_, k _ h, r.mono e⟩
  case dk => obtain ⟨q, _, h, r⟩ := h; exact ⟨q, _, k _ h, r.mono e⟩
  case dt => obtain ⟨q, _, h, r⟩ := h; exact ⟨q, _, k _ h, r.mono e⟩
  case st => exact ⟨k _ h.1, h.2⟩
  case obj => obtain ⟨_, _, _, c, h, r⟩ := h; exact ⟨_, _, _, c, k _ h, r.mono e⟩
/-- frozen -/
theorem Top.rp {a : Addr} {d : D} (h : Top Z F H a d) (e : Same F F') (k : ∀ o, H a = some o → F' a = some o) : Rp Z F' (.ref a) d := by
  cases d <;> simp only [Top] at h
  case lst => obtain ⟨_, h, r⟩ := h; exact .lst (k _ h) (r.mono e)
  case dk => obtain ⟨q, _, h, r⟩ := h; exact .dk (.inl (k _ h)) q (r.mono e)
  case dt => obtain ⟨q, _, h, r⟩ := h; exact .dt (.inl (k _ h)) q (r.mono e)
  case st => exact .st (k _ h.1) h.2
  case obj => obtain ⟨_, _, _, c, h, r⟩ := h; exact .obj c (k _ h) (r.mono e)

/-- v is read as d: frozen, or an object of its own -/
def RdV (Z : Wd) (F H : Hp) (v : V) (d : D) : Prop := Rp Z F v d ∨ ∃ a, v = .ref a ∧ F a = none ∧ Top Z F H a d

/-! ### the state of a frame -/
/-- the entry: the frozen part and the heap at the call; the places that may be changed -/
structure En where
  F : Hp
  H : Hp
  M : List Addr
  mi : Nat → Option Addr
  bi : Nat → List Addr
def SlOk (Z : Wd) (N : En) (F H : Hp) (o : Option V) : Sl → Prop
  | .no => True
  | .fz d => ∃ v, o = some v ∧ Rp Z F v d
  | .ow d => ∃ a, o = some (.ref a) ∧ F a = none ∧ N.H a = none ∧ Top Z F H a d
  | .bo d => ∃ v, o = some v ∧ (Rp Z F v d ∨ ∃ a, v = .ref a ∧ F a = none ∧ (∃ u, N.H a = some u) ∧ a ∉ N.M ∧ Top Z F H a d)
  | .mu d => ∃ a, o = some (.ref a) ∧ F a = none ∧ a ∈ N.M ∧ Top Z F H a d
  | .dp f d => ∃ v R, o = some v ∧ OwT Z F H R v (.ob d) ∧ ∀ b ∈ R, N.H b = none ∨ (f = false ∧ b ∈ N.M)
def Sl.own : Sl → Bool
  | .ow _ => true | .mu _ => true | _ => false
/-- nobody else may hold what the slot holds -/
def Sl.ex : Sl → Bool
  | .ow _ => true | .mu _ => true | .dp _ _ => true | _ => false
theorem Sl.own_ex {s : Sl} (h : s.own = true) : s.ex = true := by cases s <;> first | rfl | cases h
/-- the slot holds the object at a, and it is not frozen -/
def Live (Z : Wd) (F H : Hp) (o : Option V) (s : Sl) (a : Addr) : Prop := match s with
  | .ow _ => o = some (.ref a)
  | .mu _ => o = some (.ref a)
  | .bo d => o = some (.ref a) ∧ ¬ Rp Z F (.ref a) d
  | .dp _ d => ∃ v R, o = some v ∧ OwT Z F H R v (.ob d) ∧ a ∈ R
  | _ => False
structure SOk (Z : Wd) (N : En) (F H : Hp) (σ : St) (e : Env) : Prop where
  le : Same F H
  f0 : Same N.F F
  h0 : ∀ b o, N.H b = some o → b ∉ N.M → H b = some o
  nf : ∀ b o, N.H b = some o → NT o → N.F b = none → F b = none
  len : σ.length = e.length
  slot : ∀ (i : Nat) (s : Sl), e[i]? = some s → ∃ o, σ[i]? = some o ∧ SlOk Z N F H o s
  sep : ∀ (i j : Nat) (s t : Sl) (a : Addr), e[i]? = some s → e[j]? = some t → i ≠ j → s.ex = true → Live Z F H ((σ[i]?).join) s a → Live Z F H ((σ[j]?).join) t a → False
  mh : ∀ a ∈ N.M, F a = none ∧ (∃ o, H a = some o ∧ NT o) ∧ ∃ o, N.H a = some o
  mus : ∀ (i : Nat) (d : D), e[i]? = some (.mu d) → ∃ a, σ[i]? = some (some (.ref a)) ∧ N.mi i = some a
  bos : ∀ (i : Nat) (d : D) (a : Addr) (r : List Addr), e[i]? = some (.bo d) → N.bi i = a :: r → σ[i]? = some (some (.ref a))
  lks : ∀ (i j : Nat) (d : D) (a : Addr), e[i]? = some (.bo d) → a ∈ N.bi j → Live Z F H ((σ[i]?).join) (.bo d) a → i = j
  lkh : ∀ (j : Nat) (a : Addr), a ∈ N.bi j → ∃ u, N.H a = some u
/-- what an expression hands back -/
def RvOk (Z : Wd) (N : En) (F H : Hp) (σ : St) (e : Env) (v : V) : RV → Prop
  | .fz d => Rp Z F v d
  | .nw d => ∃ a, v = .ref a ∧ F a = none ∧ N.H a = none ∧ Top Z F H a d ∧ ∀ (i : Nat) (s : Sl), e[i]? = some s → ¬ Live Z F H ((σ[i]?).join) s a
  | .at i => σ[i]? = some (some v) ∧ ∃ s, e[i]? = some s ∧ s ≠ .no
  | .dn d => ∃ R, OwT Z F H R v (.ob d) ∧ (∀ b ∈ R, N.H b = none) ∧ ∀ b ∈ R, ∀ (i : Nat) (s : Sl), e[i]? = some s → ¬ Live Z F H ((σ[i]?).join) s b

variable {N : En} {σ : St} {e e' : Env}

theorem Live.mono {o : Option V} {s : Sl} {a : Addr} (h : Live Z F' H' o s a) (k : SlOk Z N F H o s) (f : Same F F') (g : ∀ b, (∃ u, H b = some u ∧ NT u) → F b = none → F' b = none) (kp : ∀ R d v f, s = .dp f d → o = some v → OwT Z F H R v (.ob d) → Kp R H H') : Live Z F H o s a := by
  cases s <;> simp only [Live] at h ⊢
  case dp f0 d =>
    obtain ⟨v, R, e1, d1, m⟩ := h
    obtain ⟨w, Q, e2, d2, _⟩ := k
    rw [e1] at e2; cases e2
    have d3 := d2.mono f (fun b hb => g b (d2.there b hb).2 (d2.there b hb).1) (kp _ _ _ _ rfl e1 d2)
    rw [d1.uniq d3] at m
    exact ⟨v, Q, e1, d2, m⟩
  all_goals first | exact h | exact ⟨h.1, fun r => h.2 (r.mono f)⟩ | exact h.elim
theorem Live.there {o : Option V} {s : Sl} {a : Addr} (h : Live Z F H o s a) (k : SlOk Z N F H o s) : F a = none ∧ ∃ u, H a = some u ∧ NT u := by
  cases s <;> simp only [Live] at h
  case ow => obtain ⟨b, e, f, _, t⟩ := k; rw [h] at e; cases e; exact ⟨f, t.thereN⟩
  case mu => obtain ⟨b, e, f, _, t⟩ := k; rw [h] at e; cases e; exact ⟨f, t.thereN⟩
  case bo =>
    obtain ⟨v, e, r | ⟨b, rfl, f, _, _, t⟩⟩ := k
    · rw [h.1] at e; cases e; exact (h.2 r).elim
    · rw [h.1] at e; cases e; exact ⟨f, t.thereN⟩
  case dp =>
    obtain ⟨v, R, e1, d1, m⟩ := h
    exact d1.there a m
theorem SOk.live (S : SOk Z N F H σ e) {i : Nat} {s : Sl} {a : Addr} (h : e[i]? = some s) (l : Live Z F H ((σ[i]?).join) s a) : F a = none ∧ ∃ u, H a = some u := by
  obtain ⟨o, h1, h2⟩ := S.slot i s h
  rw [h1] at l
  obtain ⟨f, u, hu, _⟩ := Live.there l h2
  exact ⟨f, u, hu⟩
theorem SOk.liveN (S : SOk Z N F H σ e) {i : Nat} {s : Sl} {a : Addr} (h : e[i]? = some s) (l : Live Z F H ((σ[i]?).join) s a) : F a = none ∧ ∃ u, H a = some u ∧ NT u := by
  obtain ⟨o, h1, h2⟩ := S.slot i s h
  rw [h1] at l
  exact Live.there l h2
theorem slot_get {e : Env} {i : Nat} {s : Sl} (h : S3.slot e i = s) (hs : s ≠ .no) : e[i]? = some s := by
  unfold S3.slot at h
  rw [List.getD_eq_getElem?_getD] at h
  cases q : e[i]? with
  | none => rw [q] at h; exact absurd h.symm hs
  | some t => rw [q] at h; exact congrArg some h
theorem slot_of {e : Env} {i : Nat} {s : Sl} (h : e[i]? = some s) : S3.slot e i = s := by
  unfold S3.slot
  rw [List.getD_eq_getElem?_getD, h]
  rfl
theorem SlOk.rd {o : Option V} {s : Sl} {d : D} (h : SlOk Z N F H o s) (hd : s.val = some d) : ∃ v, o = some v ∧ RdV Z F H v d := by
  cases s <;> simp only [Sl.val, Option.some.injEq] at hd
  case no => cases hd
  case fz => subst hd; obtain ⟨v, e, r⟩ := h; exact ⟨v, e, .inl r⟩
  case ow => subst hd; obtain ⟨a, e, f, _, t⟩ := h; exact ⟨_, e, .inr ⟨a, rfl, f, t⟩⟩
  case bo =>
    subst hd
    obtain ⟨v, e, r | ⟨a, rfl, f, _, _, t⟩⟩ := h
    · exact ⟨v, e, .inl r⟩
    · exact ⟨_, e, .inr ⟨a, rfl, f, t⟩⟩
  case mu => subst hd; obtain ⟨a, e, f, _, t⟩ := h; exact ⟨_, e, .inr ⟨a, rfl, f, t⟩⟩
  case dp => cases hd
/-- read -/
theorem RvOk.rd (S : SOk Z N F H σ e) {v : V} {r : RV} {d : D} (h : RvOk Z N F H σ e v r) (hd : rd r e = some d) : RdV Z F H v d := by
  cases r with
  | fz x => cases hd; exact .inl h
  | nw x => cases hd; obtain ⟨a, e, f, _, t, _⟩ := h; exact .inr ⟨a, e, f, t⟩
  | «at» i =>
    obtain ⟨h1, s, h2, h3⟩ := h
    have q : S3.slot e i = s := slot_of h2
    have hd : (S3.slot e i).val = some d := hd
    rw [q] at hd
    obtain ⟨o, ho, so⟩ := S.slot i s h2
    obtain ⟨v', e1, r⟩ := so.rd hd
    rw [h1] at ho
    cases ho
    cases e1
    exact r
  | dn x => cases hd

theorem kp_same {R : List Addr} (k : Same H H') : Kp R H H' := fun _ _ h _ => k _ _ h
/-- what is live behind a change was live -/
theorem SOk.unlive (S : SOk Z N F H σ e) {i : Nat} {s : Sl} {a : Addr} (h : e[i]? = some s) (l : Live Z F' H' ((σ[i]?).join) s a) (f : Same F F') (g : ∀ b, (∃ u, H b = some u ∧ NT u) → F b = none → F' b = none)
    (kp : ∀ R d v f, s = .dp f d → (σ[i]?).join = some v → OwT Z F H R v (.ob d) → Kp R H H') : Live Z F H ((σ[i]?).join) s a := by
  obtain ⟨o, h1, h2⟩ := S.slot i s h
  rw [h1] at l kp ⊢
  exact l.mono h2 f g kp
/-- the heap grows -/
theorem SlOk.grow {o : Option V} {s : Sl} (h : SlOk Z N F H o s) (f : Same F F') (k : Same H H') (nf : ∀ b u, H b = some u → NT u → F b = none → F' b = none) : SlOk Z N F' H' o s := by
  cases s with
  | no => trivial
  | fz d => obtain ⟨v, e, r⟩ := h; exact ⟨v, e, r.mono f⟩
  | ow d => obtain ⟨a, e, x, y, t⟩ := h; obtain ⟨u, hu, nt⟩ := t.thereN; exact ⟨a, e, nf _ _ hu nt x, y, t.keep f (k _)⟩
  | bo d =>
    obtain ⟨v, e, r | ⟨a, rfl, x, y, z, t⟩⟩ := h
    · exact ⟨v, e, .inl (r.mono f)⟩
    · obtain ⟨u, hu, nt⟩ := t.thereN
      exact ⟨_, e, .inr ⟨a, rfl, nf _ _ hu nt x, y, z, t.keep f (k _)⟩⟩
  | mu d => obtain ⟨a, e, x, y, t⟩ := h; obtain ⟨u, hu, nt⟩ := t.thereN; exact ⟨a, e, nf _ _ hu nt x, y, t.keep f (k _)⟩
  | dp g d => obtain ⟨v, R, e, x, y⟩ := h; exact ⟨v, R, e, x.mono f (fun b hb => by obtain ⟨q, u, hu, nt⟩ := x.there b hb; exact nf _ _ hu nt q) (kp_same k), y⟩
theorem SOk.grow (S : SOk Z N F H σ e) (f : Same F F') (k : Same H H') (l : Same F' H') (nf : ∀ b u, H b = some u → NT u → F b = none → F' b = none) : SOk Z N F' H' σ e where
  le := l
  f0 := S.f0.trans f
  h0 := fun b o h m => k _ _ (S.h0 b o h m)
  nf := fun b o h nt n => by
    by_cases m : b ∈ N.M
    · obtain ⟨_, ⟨u, q, nq⟩, _⟩ := S.mh b m
      exact nf b u q nq (S.nf b o h nt n)
    · exact nf b o (S.h0 b o h m) nt (S.nf b o h nt n)
  len := S.len
  slot := fun i s h => let ⟨o, h1, h2⟩ := S.slot i s h; ⟨o, h1, h2.grow f k nf⟩
  sep := fun i j s t a h1 h2 ne o l1 l2 => S.sep i j s t a h1 h2 ne o (S.unlive h1 l1 f (fun b ⟨u, q, n⟩ => nf b u q n) fun _ _ _ _ _ _ _ => kp_same k) (S.unlive h2 l2 f (fun b ⟨u, q, n⟩ => nf b u q n) fun _ _ _ _ _ _ _ => kp_same k)
  mh := fun a m => let ⟨x, ⟨u, y, ny⟩, z⟩ := S.mh a m; ⟨nf a u y ny x, ⟨u, k a u y, ny⟩, z⟩
  mus := S.mus
  bos := S.bos
  lks := fun i j d a h1 m l1 => S.lks i j d a h1 m (S.unlive h1 l1 f (fun b ⟨u, q, n⟩ => nf b u q n) fun _ _ _ _ _ _ _ => kp_same k)
  lkh := S.lkh

/-- slots forgotten -/
theorem get_set_no {e : Env} {i j : Nat} {s : Sl} (h : (e.set i .no)[j]? = some s) : s = .no ∨ e[j]? = some s := by
  by_cases q : i = j
  · subst q
    by_cases l : i < e.length
    · rw [List.getElem?_set_self l] at h
      exact .inl (Option.some.inj h).symm
    · rw [List.getElem?_eq_none (by rw [List.length_set]; omega)] at h
      cases h
  · rw [List.getElem?_set_ne q] at h
    exact .inr h
theorem SOk.forget (S : SOk Z N F H σ e) (i : Nat) : SOk Z N F H σ (e.set i .no) where
  le := S.le
  f0 := S.f0
  h0 := S.h0
  nf := S.nf
  len := by rw [List.length_set]; exact S.len
  slot := fun j s h => by
    rcases get_set_no h with q | q
    · subst q
      have l : j < σ.length := by
        have := (List.getElem?_eq_some_iff.mp h).1
        rw [List.length_set] at this
        rw [S.len]; exact this
      exact ⟨_, List.getElem?_eq_getElem l, trivial⟩
    · exact S.slot j s q
  sep := fun j k s t a h1 h2 ne o s1 s2 => by
    rcases get_set_no h1 with q | q
    · subst q; cases o
    · rcases get_set_no h2 with q2 | q2
      · subst q2; exact s2.elim
      · exact S.sep j k s t a q q2 ne o s1 s2
  mh := S.mh
  mus := fun j d h => by
    rcases get_set_no h with q | q
    · cases q
    · exact S.mus j d q
  bos := fun j d a r h k => by
    rcases get_set_no h with q | q
    · cases q
    · exact S.bos j d a r q k
  lks := fun k j d a h m l => by
    rcases get_set_no h with q | q
    · cases q
    · exact S.lks k j d a q m l
  lkh := S.lkh
theorem SOk.wipe (S : SOk Z N F H σ e) : ∀ is : List Nat, SOk Z N F H σ (wipeE e is)
  | [] => S
  | i :: is => (S.wipe is).forget i

theorem get_set {α : Type} {e : List α} {i j : Nat} {x s : α} (h : (e.set i x)[j]? = some s) : (i = j ∧ s = x ∧ i < e.length) ∨ (i ≠ j ∧ e[j]? = some s) := by
  by_cases q : i = j
  · subst q
    by_cases l : i < e.length
    · rw [List.getElem?_set_self l] at h
      exact .inl ⟨rfl, (Option.some.inj h).symm, l⟩
    · rw [List.getElem?_eq_none (by rw [List.length_set]; omega)] at h
      cases h
  · rw [List.getElem?_set_ne q] at h
    exact .inr ⟨q, h⟩
/-- a slot is given a frozen value -/
theorem SOk.set (S : SOk Z N F H σ e) {i : Nat} {v : V} {d : D} (r : Rp Z F v d) : SOk Z N F H (σ.set i (some v)) (e.set i (.fz d)) where
  le := S.le
  f0 := S.f0
  h0 := S.h0
  nf := S.nf
  len := by rw [List.length_set, List.length_set]; exact S.len
  slot := fun j s h => by
    rcases get_set h with ⟨q, rfl, l⟩ | ⟨q, h'⟩
    · subst q
      exact ⟨some v, List.getElem?_set_self (by rw [S.len]; exact l), v, rfl, r⟩
    · rw [List.getElem?_set_ne q]
      exact S.slot j s h'
  sep := fun j k s t a h1 h2 ne o s1 s2 => by
    rcases get_set h1 with ⟨q, rfl, l⟩ | ⟨q, h1'⟩
    · cases o
    · rcases get_set h2 with ⟨q2, rfl, l2⟩ | ⟨q2, h2'⟩
      · exact s2.elim
      · rw [List.getElem?_set_ne q] at s1
        rw [List.getElem?_set_ne q2] at s2
        exact S.sep j k s t a h1' h2' ne o s1 s2
  mh := S.mh
  mus := fun j d h => by
    rcases get_set h with ⟨_, q, _⟩ | ⟨q, h'⟩
    · cases q
    · rw [List.getElem?_set_ne q]
      exact S.mus j d h'
  bos := fun j d a r h k => by
    rcases get_set h with ⟨_, q, _⟩ | ⟨q, h'⟩
    · cases q
    · rw [List.getElem?_set_ne q]
      exact S.bos j d a r h' k
  lks := fun k j d a h m l => by
    rcases get_set h with ⟨_, q, _⟩ | ⟨q, h'⟩
    · cases q
    · rw [List.getElem?_set_ne q] at l
      exact S.lks k j d a h' m l
  lkh := S.lkh
/-- a slot is given a new object -/
theorem SOk.setOw (S : SOk Z N F H σ e) {i : Nat} {a : Addr} {d : D} (f : F a = none) (n : N.H a = none) (t : Top Z F H a d) (ap : ∀ (j : Nat) (s : Sl), e[j]? = some s → ¬ Live Z F H ((σ[j]?).join) s a) :
    SOk Z N F H (σ.set i (some (.ref a))) (e.set i (.ow d)) where
  le := S.le
  f0 := S.f0
  h0 := S.h0
  nf := S.nf
  len := by rw [List.length_set, List.length_set]; exact S.len
  slot := fun j s h => by
    rcases get_set h with ⟨q, rfl, l⟩ | ⟨q, h'⟩
    · subst q
      exact ⟨_, List.getElem?_set_self (by rw [S.len]; exact l), a, rfl, f, n, t⟩
    · rw [List.getElem?_set_ne q]
      exact S.slot j s h'
  sep := fun j k s t' b h1 h2 ne o s1 s2 => by
    rcases get_set h1 with ⟨q, rfl, l1⟩ | ⟨q, h1'⟩
    · subst q
      rw [List.getElem?_set_self (by rw [S.len]; exact l1)] at s1
      cases s1
      rcases get_set h2 with ⟨q2, rfl, l2⟩ | ⟨q2, h2'⟩
      · exact ne q2
      · rw [List.getElem?_set_ne q2] at s2
        exact ap k t' h2' s2
    · rw [List.getElem?_set_ne q] at s1
      rcases get_set h2 with ⟨q2, rfl, l2⟩ | ⟨q2, h2'⟩
      · subst q2
        rw [List.getElem?_set_self (by rw [S.len]; exact l2)] at s2
        cases s2
        exact ap j s h1' s1
      · rw [List.getElem?_set_ne q2] at s2
        exact S.sep j k s t' b h1' h2' ne o s1 s2
  mh := S.mh
  mus := fun j d h => by
    rcases get_set h with ⟨_, q, _⟩ | ⟨q, h'⟩
    · cases q
    · rw [List.getElem?_set_ne q]
      exact S.mus j d h'
  bos := fun j d a r h k => by
    rcases get_set h with ⟨_, q, _⟩ | ⟨q, h'⟩
    · cases q
    · rw [List.getElem?_set_ne q]
      exact S.bos j d a r h' k
  lks := fun k j d a h m l => by
    rcases get_set h with ⟨_, q, _⟩ | ⟨q, h'⟩
    · cases q
    · rw [List.getElem?_set_ne q] at l
      exact S.lks k j d a h' m l
  lkh := S.lkh

/-- what stands at a is laid into the frozen part -/
theorem same_upd {F : Hp} {a : Addr} {o : HO} (n : F a = none) : Same F (upd F a o) := fun b u h => by rw [upd_ne (ne_of_none h n)]; exact h
theorem upd_le {F H : Hp} {a : Addr} {o : HO} (l : Same F H) (h : H a = some o) : Same (upd F a o) H := fun b u q => by
  by_cases z : b = a
  · subst z; rw [upd_same] at q; cases q; exact h
  · rw [upd_ne z] at q; exact l _ _ q
/-- a slot is given a new deep tree -/
theorem SOk.setDp (S : SOk Z N F H σ e) {i : Nat} {v : V} {d : D} {R : List Addr} {g : Bool} (t : OwT Z F H R v (.ob d)) (n : ∀ b ∈ R, N.H b = none ∨ (g = false ∧ b ∈ N.M)) (ap : ∀ b ∈ R, ∀ (j : Nat) (s : Sl), e[j]? = some s → ¬ Live Z F H ((σ[j]?).join) s b) :
    SOk Z N F H (σ.set i (some v)) (e.set i (.dp g d)) where
  le := S.le
  f0 := S.f0
  h0 := S.h0
  nf := S.nf
  len := by rw [List.length_set, List.length_set]; exact S.len
  slot := fun j s h => by
    rcases get_set h with ⟨q, rfl, l⟩ | ⟨q, h'⟩
    · subst q
      exact ⟨_, List.getElem?_set_self (by rw [S.len]; exact l), v, R, rfl, t, n⟩
    · rw [List.getElem?_set_ne q]
      exact S.slot j s h'
  sep := fun j k s t' b h1 h2 ne o s1 s2 => by
    rcases get_set h1 with ⟨q, rfl, l1⟩ | ⟨q, h1'⟩
    · subst q
      rw [List.getElem?_set_self (by rw [S.len]; exact l1)] at s1
      obtain ⟨w, Q, e1, d1, m⟩ := s1
      cases e1
      rw [d1.uniq t] at m
      rcases get_set h2 with ⟨q2, rfl, l2⟩ | ⟨q2, h2'⟩
      · exact ne q2
      · rw [List.getElem?_set_ne q2] at s2
        exact ap b m k t' h2' s2
    · rw [List.getElem?_set_ne q] at s1
      rcases get_set h2 with ⟨q2, rfl, l2⟩ | ⟨q2, h2'⟩
      · subst q2
        rw [List.getElem?_set_self (by rw [S.len]; exact l2)] at s2
        obtain ⟨w, Q, e1, d1, m⟩ := s2
        cases e1
        rw [d1.uniq t] at m
        exact ap b m j s h1' s1
      · rw [List.getElem?_set_ne q2] at s2
        exact S.sep j k s t' b h1' h2' ne o s1 s2
  mh := S.mh
  mus := fun j d h => by
    rcases get_set h with ⟨_, q, _⟩ | ⟨q, h'⟩
    · cases q
    · rw [List.getElem?_set_ne q]
      exact S.mus j d h'
  bos := fun j d a r h k => by
    rcases get_set h with ⟨_, q, _⟩ | ⟨q, h'⟩
    · cases q
    · rw [List.getElem?_set_ne q]
      exact S.bos j d a r h' k
  lks := fun k j d a h m l => by
    rcases get_set h with ⟨_, q, _⟩ | ⟨q, h'⟩
    · cases q
    · rw [List.getElem?_set_ne q] at l
      exact S.lks k j d a h' m l
  lkh := S.lkh
/-- a fresh region that no slot holds is frozen -/
theorem SOk.freezeR (S : SOk Z N F H σ e) (f : Same F F') (l : Same F' H) {R : List Addr} (new : ∀ b ∈ R, N.H b = none) (out : ∀ b u, b ∉ R → H b = some u → NT u → F b = none → F' b = none) (ap : ∀ b ∈ R, ∀ (j : Nat) (s : Sl), e[j]? = some s → ¬ Live Z F H ((σ[j]?).join) s b) : SOk Z N F' H σ e := by
  have og : ∀ (j : Nat) (s : Sl), e[j]? = some s → ∀ b, Live Z F H ((σ[j]?).join) s b → F' b = none := fun j s hs b lv => by
    obtain ⟨q, u, hu, nt⟩ := S.liveN hs lv
    exact out b u (fun m => ap b m j s hs lv) hu nt q
  have ul : ∀ (j : Nat) (s : Sl) (b : Addr), e[j]? = some s → Live Z F' H ((σ[j]?).join) s b → Live Z F H ((σ[j]?).join) s b := fun j s b hs lv => by
    obtain ⟨o, h1, h2⟩ := S.slot j s hs
    have og := og j s hs
    rw [h1] at lv og ⊢
    cases s <;> simp only [Live] at lv ⊢
    case dp g d =>
      obtain ⟨v, Q, e1, d1, m⟩ := lv
      obtain ⟨w, R2, e2, d2, _⟩ := h2
      have e1' : o = some v := e1
      rw [e1'] at e2; cases e2
      have d3 := d2.mono f (fun b hb => og b ⟨v, R2, e1, d2, hb⟩) (H' := H) fun _ _ z _ => z
      rw [d1.uniq d3] at m
      exact ⟨v, R2, e1, d2, m⟩
    all_goals first | exact lv | exact ⟨lv.1, fun r => lv.2 (r.mono f)⟩ | exact lv.elim
  exact {
    le := l
    f0 := S.f0.trans f
    h0 := S.h0
    nf := fun b u hb nt nb => by
      have nr : b ∉ R := fun m => by rw [new b m] at hb; cases hb
      by_cases m : b ∈ N.M
      · obtain ⟨x, ⟨u2, q, nq⟩, _⟩ := S.mh b m
        exact out b u2 nr q nq x
      · exact out b u nr (S.h0 b u hb m) nt (S.nf b u hb nt nb)
    len := S.len
    slot := fun j s hs => by
      obtain ⟨v, h1, h2⟩ := S.slot j s hs
      refine ⟨v, h1, ?_⟩
      have og := og j s hs
      rw [h1] at og
      cases s with
      | no => trivial
      | fz d => obtain ⟨v, e, r⟩ := h2; exact ⟨v, e, r.mono f⟩
      | ow d =>
        obtain ⟨b, e, x, y, t⟩ := h2
        subst e
        exact ⟨b, rfl, og b rfl, y, t.keep f fun _ q => q⟩
      | bo d =>
        obtain ⟨v, e, r⟩ := h2
        subst e
        by_cases rr : Rp Z F v d
        · exact ⟨v, rfl, .inl (rr.mono f)⟩
        · rcases r with r | ⟨b, rfl, x, y, z, t⟩
          · exact (rr r).elim
          · exact ⟨_, rfl, .inr ⟨b, rfl, og b ⟨rfl, rr⟩, y, z, t.keep f fun _ q => q⟩⟩
      | mu d =>
        obtain ⟨b, e, x, y, t⟩ := h2
        subst e
        exact ⟨b, rfl, og b rfl, y, t.keep f fun _ q => q⟩
      | dp g d =>
        obtain ⟨v, Q, e, d2, y⟩ := h2
        exact ⟨v, Q, e, d2.mono f (fun b hb => og b ⟨v, Q, e, d2, hb⟩) (H' := H) fun _ _ z _ => z, y⟩
    sep := fun i j s t b h1 h2 ne o l1 l2 => S.sep i j s t b h1 h2 ne o (ul i s b h1 l1) (ul j t b h2 l2)
    mh := fun b m => by
      obtain ⟨x, ⟨u, v, nv⟩, y⟩ := S.mh b m
      refine ⟨out b u (fun z => ?_) v nv x, ⟨u, v, nv⟩, y⟩
      obtain ⟨o, ho⟩ := y
      rw [new b z] at ho; cases ho
    mus := S.mus
    bos := S.bos
    lks := fun i j d a h m l => S.lks i j d a h m (ul i _ a h l)
    lkh := S.lkh }
/-- a fresh object that no slot holds is frozen -/
theorem SOk.freezeNew (S : SOk Z N F H σ e) {a : Addr} {o : HO} (f : F a = none) (n : N.H a = none) (h : H a = some o) (ap : ∀ (j : Nat) (s : Sl), e[j]? = some s → ¬ Live Z F H ((σ[j]?).join) s a) : SOk Z N (upd F a o) H σ e :=
  S.freezeR (R := [a]) (same_upd f) (upd_le S.le h) (fun b m => by rw [List.mem_singleton.mp m]; exact n) (fun b u m _ _ q => by rw [upd_ne fun z => m (by rw [z]; exact List.mem_singleton.mpr rfl)]; exact q)
    fun b m j s hs => by rw [List.mem_singleton.mp m]; exact ap j s hs
end
end S3

/-! B2: freezing, changing, growing; the readings of A1's terms; the general rules. -/
namespace S3
open PySem L2
section
variable {Z : Wd} {F F' H H' : Hp} {N : En} {σ : St} {e e' : Env}

/-- an owned slot is frozen -/
theorem SOk.freeze (S : SOk Z N F H σ e) {i : Nat} {d : D} (h : e[i]? = some (.ow d)) : ∃ a F', σ[i]? = some (some (.ref a)) ∧ Same F F' ∧ Rp Z F' (.ref a) d ∧ SOk Z N F' H σ (e.set i (.fz d)) := by
  obtain ⟨o, h1, h2⟩ := S.slot i _ h
  obtain ⟨a, rfl, fa, na, t⟩ := id h2
  obtain ⟨u, hu⟩ := t.there
  have ap : ∀ (j : Nat) (s : Sl), (e.set i .no)[j]? = some s → ¬ Live Z F H ((σ[j]?).join) s a := fun j s hj l => by
    rcases get_set hj with ⟨q, rfl, _⟩ | ⟨q, hj'⟩
    · exact l
    · exact S.sep i j _ s a h hj' q rfl (by rw [h1]; rfl) l
  have S1 := (S.forget i).freezeNew fa na hu ap
  have r : Rp Z (upd F a u) (.ref a) d := t.rp (same_upd fa) fun o ho => by rw [hu] at ho; cases ho; exact upd_same
  have S2 := S1.set (i := i) r
  have e1 : σ.set i (some (.ref a)) = σ := by
    apply List.ext_getElem? 
    intro j
    by_cases q : i = j
    · subst q
      rw [List.getElem?_set_self (List.getElem?_eq_some_iff.mp h1).1, h1]
    · rw [List.getElem?_set_ne q]
  rw [e1, List.set_set] at S2
  exact ⟨a, _, h1, same_upd fa, r, S2⟩

/-- a deep slot is frozen -/
theorem SOk.freezeDp (S : SOk Z N F H σ e) {i : Nat} {d : D} (h : e[i]? = some (.dp true d)) : ∃ v F', σ[i]? = some (some v) ∧ Same F F' ∧ Rp Z F' v d.sbT ∧ SOk Z N F' H σ (e.set i (.fz d.sbT)) := by
  obtain ⟨o, h1, h2⟩ := S.slot i _ h
  obtain ⟨v, R, rfl, t, nw⟩ := id h2
  have new : ∀ b ∈ R, N.H b = none := fun b m => (nw b m).elim id fun z => by cases z.1
  have ap : ∀ b ∈ R, ∀ (j : Nat) (s : Sl), (e.set i .no)[j]? = some s → ¬ Live Z F H ((σ[j]?).join) s b := fun b m j s hj l => by
    rcases get_set hj with ⟨q, rfl, _⟩ | ⟨q, hj'⟩
    · exact l
    · exact S.sep i j _ s b h hj' q rfl (by rw [h1]; exact ⟨v, R, rfl, t, m⟩) l
  have S1 := (S.forget i).freezeR (F' := pubF F H R) pub_f (pub_le S.le) new (fun b u m hb nt f => pub_out m f fun o ho => by rw [hb] at ho; cases ho; exact nt) ap
  have r : Rp Z (pubF F H R) v d.sbT := t.pub S.le
  have S2 := S1.set (i := i) r
  have e1 : σ.set i (some v) = σ := by
    apply List.ext_getElem? 
    intro j
    by_cases q : i = j
    · subst q
      rw [List.getElem?_set_self (List.getElem?_eq_some_iff.mp h1).1, h1]
    · rw [List.getElem?_set_ne q]
  rw [e1, List.set_set] at S2
  exact ⟨v, _, h1, pub_f, r, S2⟩
/-- a value is settled -/
theorem RvOk.stl (S : SOk Z N F H σ e) {v : V} {r : RV} {d : D} (R : RvOk Z N F H σ e v r) (h : stl r e = some (d, e')) : ∃ F', Same F F' ∧ SOk Z N F' H σ e' ∧ Rp Z F' v d := by
  cases r with
  | fz x => cases h; exact ⟨F, Same.refl _, S, R⟩
  | nw x =>
    cases h
    obtain ⟨a, rfl, fa, na, t, ap⟩ := R
    obtain ⟨u, hu⟩ := t.there
    exact ⟨_, same_upd fa, S.freezeNew fa na hu ap, t.rp (same_upd fa) fun o ho => by rw [hu] at ho; cases ho; exact upd_same⟩
  | «at» i =>
    obtain ⟨h1, s, h2, h3⟩ := R
    have q : S3.slot e i = s := slot_of h2
    unfold S3.stl at h
    dsimp only at h
    rw [q] at h
    cases s with
    | fz x =>
      cases h
      obtain ⟨o, ho, w, rfl, r⟩ := S.slot i _ h2
      rw [h1] at ho; cases ho
      exact ⟨F, Same.refl _, S, r⟩
    | ow x =>
      cases h
      obtain ⟨a, F', g1, g2, g3, g4⟩ := S.freeze h2
      rw [h1] at g1; cases g1
      exact ⟨F', g2, g4, g3⟩
    | no => cases h
    | bo x => cases h
    | mu x => cases h
    | dp g x =>
      cases g with
      | false => cases h
      | true =>
        cases h
        obtain ⟨a, F', g1, g2, g3, g4⟩ := S.freezeDp h2
        rw [h1] at g1; cases g1
        exact ⟨F', g2, g4, g3⟩
  | dn x =>
    cases h
    obtain ⟨Q, t, new, ap⟩ := R
    exact ⟨_, pub_f, S.freezeR pub_f (pub_le S.le) new (fun b u m hb nt f => pub_out m f fun o ho => by rw [hb] at ho; cases ho; exact nt) ap, t.pub S.le⟩

/-- the object at an owned, or lent, slot is changed -/
theorem SOk.write (S : SOk Z N F H σ e) {i : Nat} {s : Sl} {a : Addr} {o : HO} {d' : D} (h : e[i]? = some s) (ho : s.own = true) (h1 : σ[i]? = some (some (.ref a))) (t : Top Z F (upd H a o) a d') :
    SOk Z N F (upd H a o) σ (e.set i (reown s d')) := by
  obtain ⟨ov, q1, q2⟩ := S.slot i s h
  rw [h1] at q1; cases q1
  have lv : Live Z F H ((σ[i]?).join) s a := by rw [h1]; cases s <;> first | rfl | cases ho
  obtain ⟨fa, u, hu, nu⟩ := S.liveN h lv
  have oth : ∀ (j : Nat) (s' : Sl), i ≠ j → e[j]? = some s' → ¬ Live Z F H ((σ[j]?).join) s' a := fun j s' q hj l => S.sep i j s s' a h hj q (Sl.own_ex ho) lv l
  have kpw : ∀ R : List Addr, a ∉ R → Kp R H (upd H a o) := fun R nr b x hb m => by
    rw [upd_ne ?_]; exact hb
    rintro rfl
    rw [hu] at hb; cases hb
    exact m.elim nr fun z => z nu
  have ul : ∀ (j : Nat) (s' : Sl) (b : Addr), i ≠ j → e[j]? = some s' → Live Z F (upd H a o) ((σ[j]?).join) s' b → Live Z F H ((σ[j]?).join) s' b := fun j s' b q hj l =>
    S.unlive hj l (Same.refl _) (fun _ _ z => z) fun R d v f es ev t => kpw R fun m => oth j s' q hj (by rw [es]; exact ⟨v, R, ev, t, m⟩)
  have il : i < e.length := (List.getElem?_eq_some_iff.mp h).1
  refine ⟨fun b x hb => by rw [upd_ne (ne_of_none hb fa)]; exact S.le _ _ hb, S.f0, fun b x hb m => ?_, S.nf, by rw [List.length_set]; exact S.len, fun j s' hj => ?_, fun j k s1 s2 b g1 g2 ne o1 l1 l2 => ?_, fun b m => ?_, fun j d2 hj => ?_, fun j d2 c r hj k => ?_, fun k j d2 c hj m l => ?_, S.lkh⟩
  · have nb : b ≠ a := by
      rintro rfl
      cases s with
      | ow x => obtain ⟨c, e1, _, n, _⟩ := q2; cases e1; rw [n] at hb; cases hb
      | mu x => obtain ⟨c, e1, _, n, _⟩ := q2; cases e1; exact m n
      | no => cases ho
      | fz x => cases ho
      | bo x => cases ho
      | dp g x => cases ho
    rw [upd_ne nb]
    exact S.h0 b x hb m
  · rcases get_set hj with ⟨q, rfl, _⟩ | ⟨q, hj'⟩
    · subst q
      refine ⟨_, h1, ?_⟩
      cases s with
      | ow x => obtain ⟨c, e1, f, n, _⟩ := q2; cases e1; exact ⟨a, rfl, f, n, t⟩
      | mu x => obtain ⟨c, e1, f, n, _⟩ := q2; cases e1; exact ⟨a, rfl, f, n, t⟩
      | no => cases ho
      | fz x => cases ho
      | bo x => cases ho
      | dp g x => cases ho
    · obtain ⟨ov, g1, g2⟩ := S.slot j s' hj'
      refine ⟨ov, g1, ?_⟩
      have nl := oth j s' q hj'
      rw [g1] at nl
      have kp : ∀ b, b ≠ a → ∀ o', H b = some o' → upd H a o b = some o' := fun b nb o' hb => by rw [upd_ne nb]; exact hb
      cases s' with
      | no => trivial
      | fz x => exact g2
      | ow x => obtain ⟨b, rfl, f, n, t'⟩ := g2; exact ⟨b, rfl, f, n, t'.keep (Same.refl _) (kp b fun z => nl (by rw [← z]; rfl))⟩
      | mu x => obtain ⟨b, rfl, f, n, t'⟩ := g2; exact ⟨b, rfl, f, n, t'.keep (Same.refl _) (kp b fun z => nl (by rw [← z]; rfl))⟩
      | bo x =>
        obtain ⟨v, rfl, r⟩ := g2
        by_cases rr : Rp Z F v x
        · exact ⟨v, rfl, .inl rr⟩
        · rcases r with r | ⟨b, rfl, f, n, m, t'⟩
          · exact (rr r).elim
          · exact ⟨_, rfl, .inr ⟨b, rfl, f, n, m, t'.keep (Same.refl _) (kp b fun z => nl (by rw [← z]; exact ⟨rfl, rr⟩))⟩⟩
      | dp g x =>
        obtain ⟨v, R, e1, t', y⟩ := g2
        exact ⟨v, R, e1, t'.mono (Same.refl _) (fun b hb => (t'.there b hb).1) (kpw R fun m => nl ⟨v, R, e1, t', m⟩), y⟩
  · rcases get_set g1 with ⟨q, rfl, _⟩ | ⟨q, g1'⟩
    · subst q
      have eb : b = a := by
        rw [h1] at l1
        cases s <;> first | (simp only [Live] at l1; exact (Option.some.inj l1 |> fun z => by injection z with z; exact z.symm)) | cases ho
      subst eb
      rcases get_set g2 with ⟨q2, rfl, _⟩ | ⟨q2, g2'⟩
      · exact ne q2
      · exact oth k s2 q2 g2' (ul k s2 _ q2 g2' l2)
    · rcases get_set g2 with ⟨q2, rfl, _⟩ | ⟨q2, g2'⟩
      · subst q2
        have eb : b = a := by
          rw [h1] at l2
          cases s <;> first | (simp only [Live] at l2; exact (Option.some.inj l2 |> fun z => by injection z with z; exact z.symm)) | cases ho
        subst eb
        exact oth j s1 q g1' (ul j s1 _ q g1' l1)
      · exact S.sep j k s1 s2 b g1' g2' ne o1 (ul j s1 _ q g1' l1) (ul k s2 _ q2 g2' l2)
  · obtain ⟨x, ⟨u', y, ny⟩, z⟩ := S.mh b m
    refine ⟨x, ?_, z⟩
    by_cases q : b = a
    · subst q; exact t.thereN
    · exact ⟨u', by rw [upd_ne q]; exact y, ny⟩
  · rcases get_set hj with ⟨q, e1, _⟩ | ⟨q, hj'⟩
    · subst q
      cases s <;> simp only [reown] at e1 <;> cases e1
      exact S.mus _ _ h
    · exact S.mus j d2 hj'
  · rcases get_set hj with ⟨q, e1, _⟩ | ⟨q, hj'⟩
    · subst q
      cases s <;> simp only [reown] at e1 <;> cases e1
    · exact S.bos j d2 c r hj' k
  · rcases get_set hj with ⟨q, e1, _⟩ | ⟨q, hj'⟩
    · subst q
      cases s <;> simp only [reown] at e1 <;> cases e1
    · exact S.lks k j d2 c hj' m (ul k _ c q hj' l)

/-! ### growth -/
/-- the heap and its frozen part grow; nothing that stood changes -/
structure Gr (F H F' H' : Hp) : Prop where
  f : Same F F'
  h : Same H H'
  le : Same F' H'
  nf : ∀ b u, H b = some u → NT u → F b = none → F' b = none
theorem Gr.refl (l : Same F H) : Gr F H F H := ⟨Same.refl _, Same.refl _, l, fun _ _ _ _ h => h⟩
theorem Gr.trans {F2 H2 : Hp} (a : Gr F H F' H') (b : Gr F' H' F2 H2) : Gr F H F2 H2 := ⟨a.f.trans b.f, a.h.trans b.h, b.le, fun c u h t n => b.nf c u (a.h _ _ h) t (a.nf c u h t n)⟩
/-- a new value -/
def NwOk (Z : Wd) (H F' H' : Hp) (v : V) : RV → Prop
  | .fz d => Rp Z F' v d
  | .nw d => ∃ a, v = .ref a ∧ H a = none ∧ F' a = none ∧ Top Z F' H' a d
  | .at _ => False
  | .dn d => ∃ R, OwT Z F' H' R v (.ob d) ∧ ∀ b ∈ R, H b = none
theorem SOk.gr (S : SOk Z N F H σ e) (g : Gr F H F' H') : SOk Z N F' H' σ e := S.grow g.f g.h g.le g.nf
theorem SOk.nohave (S : SOk Z N F H σ e) {a : Addr} (h : H a = none) : N.H a = none := by
  cases q : N.H a with
  | none => rfl
  | some o =>
    by_cases m : a ∈ N.M
    · obtain ⟨_, ⟨u, y, _⟩, _⟩ := S.mh a m
      rw [h] at y; cases y
    · have := S.h0 a o q m
      rw [h] at this; cases this
theorem SOk.rvok (S : SOk Z N F H σ e) (g : Gr F H F' H') {v : V} {r : RV} (n : NwOk Z H F' H' v r) : RvOk Z N F' H' σ e v r := by
  cases r with
  | fz d => exact n
  | nw d =>
    obtain ⟨a, rfl, h, f, t⟩ := n
    refine ⟨a, rfl, f, S.nohave h, t, fun j s hj l => ?_⟩
    obtain ⟨_, u, hu⟩ := S.live hj (S.unlive hj l g.f (fun b ⟨u, q, n⟩ => g.nf b u q n) fun _ _ _ _ _ _ _ => kp_same g.h)
    rw [h] at hu; cases hu
  | «at» i => exact n.elim
  | dn d =>
    obtain ⟨R, t, h⟩ := n
    refine ⟨R, t, fun b m => S.nohave (h b m), fun b m j s hj l => ?_⟩
    obtain ⟨_, u, hu⟩ := S.live hj (S.unlive hj l g.f (fun b ⟨u, q, n⟩ => g.nf b u q n) fun _ _ _ _ _ _ _ => kp_same g.h)
    rw [h b m] at hu; cases hu
/-- a new object laid -/
theorem Gr.lay (l : Same F H) {a : Addr} {o : HO} (n : H a = none) : Gr F H F (upd H a o) :=
  ⟨Same.refl _, same_upd n, fun b u h => by rw [upd_ne (ne_of_none (l _ _ h) n)]; exact l _ _ h, fun _ _ _ _ h => h⟩
theorem none_le (l : Same F H) {a : Addr} (n : H a = none) : F a = none := by
  cases q : F a with
  | none => rfl
  | some o => have := l _ _ q; rw [n] at this; cases this
/-- a new frozen object laid -/
theorem Gr.layF (l : Same F H) {a : Addr} {o : HO} (n : H a = none) : Gr F H (upd F a o) (upd H a o) := by
  have fa := none_le l n
  refine ⟨same_upd fa, same_upd n, fun b u h => ?_, fun b u hb _ h => ?_⟩
  · by_cases z : b = a
    · subst z; rw [upd_same] at h ⊢; exact h
    · rw [upd_ne z] at h ⊢; exact l _ _ h
  · have z : b ≠ a := ne_of_none hb n
    rw [upd_ne z]; exact h
end

/-! ### readings -/
/-- the class's name of an exception whose last field's list is its own -/
def xmk (c : Str) : Str := "@+" ++ c
def ExOk0 (Z : Wd) (F : Hp) (x : Exn) (cls : Value) (d : Option Addr) : Prop :=
  ∃ C, Z.ca x.c = some C ∧ cls = .ref C ∧ (x.fs = [] → d = none) ∧
    (x.fs ≠ [] → ∃ dd vs, d = some dd ∧ F dd = some (.xd vs) ∧ RpP Z F vs x.fs)
def ExM (Z : Wd) (F H : Hp) (x : Exn) (cls : Value) (d : Option Addr) : Prop :=
  ∃ (c0 : Str) (C dd a : Addr) (vs : List (Str × V)) (xs : List V) (fs0 : List (Str × D)) (f : Str) (ds : List D), x.c = xmk c0 ∧ x.fs = fs0 ++ [(f, .lst ds)] ∧ Z.ca c0 = some C ∧ cls = .ref C ∧ d = some dd ∧ F dd = some (.xd (vs ++ [(f, .ref a)])) ∧ RpP Z F vs fs0 ∧ F a = none ∧ H a = some (.lst xs) ∧ RpA Z F xs ds
/-- an exception's class, dict -/
def ExOk (Z : Wd) (F H : Hp) (x : Exn) (cls : Value) (d : Option Addr) : Prop := ExOk0 Z F x cls d ∨ ExM Z F H x cls d
def PostE (Z : Wd) (N : En) (F : Hp) (σ : St) (W : WX) (Q : VK) : RE → Prop
  | .no => False
  | .ok r e => ∀ v F' H', Same F F' → SOk Z N F' H' σ e → RvOk Z N F' H' σ e v r → Q v H'
  | .ex x e => ∀ cls d F' H', Same F F' → SOk Z N F' H' σ e → ExOk Z F' H' x cls d → W cls d σ H'
def tEv (Z : Wd) (W : WX) (f : EV) : TE := fun σ H Q => ∃ N F e, SOk Z N F H σ e ∧ PostE Z N F σ W Q (f e)
def PostT (Z : Wd) (N : En) (F : Hp) (σ : St) (W : WX) (Q : Bool → Hp → Prop) : RT → Prop
  | .no => False
  | .ok b e => ∀ F' H', Same F F' → SOk Z N F' H' σ e → Q b H'
  | .ex x e => ∀ cls d F' H', Same F F' → SOk Z N F' H' σ e → ExOk Z F' H' x cls d → W cls d σ H'
def tTv (Z : Wd) (W : WX) (f : TV) : TT := fun σ H Q => ∃ N F e, SOk Z N F H σ e ∧ PostT Z N F σ W Q (f e)
/-- held while other things are reckoned -/
def Held (Z : Wd) (F : Hp) (σ : St) (v : V) : RV → Prop
  | .fz d => Rp Z F v d
  | .nw d => Rp Z F v d
  | .at i => σ[i]? = some (some v)
  | .dn _ => True
/-- argument values -/
inductive Helds (Z : Wd) (F : Hp) (σ : St) : List V → List RV → Prop
  | nil : Helds Z F σ [] []
  | cons {v : V} {vs : List V} {r : RV} {rs : List RV} : Held Z F σ v r → Helds Z F σ vs rs → Helds Z F σ (v :: vs) (r :: rs)
def PostA (Z : Wd) (N : En) (F : Hp) (σ : St) (W : WX) (Q : List V → Hp → Prop) : RA → Prop
  | .no => False
  | .ok rs e => ∀ vs F' H', Same F F' → SOk Z N F' H' σ e → Helds Z F' σ vs rs → Q vs H'
  | .ex x e => ∀ cls d F' H', Same F F' → SOk Z N F' H' σ e → ExOk Z F' H' x cls d → W cls d σ H'
def tAv (Z : Wd) (W : WX) (f : AV) : TA := fun σ H Q => ∃ N F e, SOk Z N F H σ e ∧ PostA Z N F σ W Q (f e)
def PostS (Z : Wd) (N : En) (F : Hp) (W : WX) (E : Ends) : RS → Prop
  | .no => False
  | .nx e => ∀ F' H' σ', Same F F' → SOk Z N F' H' σ' e → E.nx σ' H'
  | .rt r e => ∀ v F' H' σ', Same F F' → SOk Z N F' H' σ' e → RvOk Z N F' H' σ' e v r → E.rt v H'
  | .bk e => ∀ F' H' σ', Same F F' → SOk Z N F' H' σ' e → E.bk σ' H'
  | .ct e => ∀ F' H' σ', Same F F' → SOk Z N F' H' σ' e → E.ct σ' H'
  | .ex x e => ∀ cls d F' H' σ', Same F F' → SOk Z N F' H' σ' e → ExOk Z F' H' x cls d → W cls d σ' H'
def tSv (Z : Wd) (W : WX) (f : SV) : TS := fun E σ H => ∃ N F e, SOk Z N F H σ e ∧ PostS Z N F W E (f e)

/-- the world of a context -/
abbrev zw (ca : Str → Option Addr) (X : Cx) : Wd := ⟨X.prog, X.w, X.K, ca⟩
/-- the text e says f; raises by the wish W -/
abbrev Ev (ca : Str → Option Addr) (W : WX) (X : Cx) (e : Expr) (f : EV) : Prop := PE X e (tEv (zw ca X) W f)
abbrev Tv (ca : Str → Option Addr) (W : WX) (X : Cx) (e : Expr) (f : TV) : Prop := PT X e (tTv (zw ca X) W f)
abbrev Av (ca : Str → Option Addr) (W : WX) (X : Cx) (es : List Expr) (f : AV) : Prop := PA X es (tAv (zw ca X) W f)
abbrev Sv (ca : Str → Option Addr) (W : WX) (X : Cx) (s : Stmt) (f : SV) : Prop := PS X s (tSv (zw ca X) W f)
abbrev Bv (ca : Str → Option Addr) (W : WX) (X : Cx) (s : List Stmt) (f : SV) : Prop := PSs X s (tSv (zw ca X) W f)

theorem PE_imp {X : Cx} {e : Expr} {t t' : TE} (h : PE X e t) (i : ∀ σ H Q, t' σ H Q → t σ H Q) : PE X e t' := ⟨fun p s σ H Q I q => h.run p s σ H Q I (i σ H Q q)⟩
theorem PT_imp {X : Cx} {e : Expr} {t t' : TT} (h : PT X e t) (i : ∀ σ H Q, t' σ H Q → t σ H Q) : PT X e t' := ⟨fun p s σ H Q I q => h.run p s σ H Q I (i σ H Q q)⟩
theorem PW_imp {X : Cx} {e : Expr} {t t' : TT} (h : PW X e t) (i : ∀ σ H Q, t' σ H Q → t σ H Q) : PW X e t' := ⟨fun w p s σ H Q I q => h.run w p s σ H Q I (i σ H Q q)⟩
theorem PA_imp {X : Cx} {e : List Expr} {t t' : TA} (h : PA X e t) (i : ∀ σ H Q, t' σ H Q → t σ H Q) : PA X e t' := ⟨fun w p s σ H Q I q => h.run w p s σ H Q I (i σ H Q q)⟩
theorem PS_imp {X : Cx} {e : Stmt} {t t' : TS} (h : PS X e t) (i : ∀ D σ H, t' D σ H → t D σ H) : PS X e t' := ⟨fun p s σ H D I q => h.run p s σ H D I (i D σ H q)⟩
theorem PSs_imp {X : Cx} {e : List Stmt} {t t' : TS} (h : PSs X e t) (i : ∀ D σ H, t' D σ H → t D σ H) : PSs X e t' := ⟨fun p s σ H D I q => h.run p s σ H D I (i D σ H q)⟩

section
variable {Z : Wd} {W : WX} {F F' H : Hp} {N : En} {σ : St}
theorem PostE.shift {Q : VK} {r : RE} (h : PostE Z N F σ W Q r) (s : Same F F') : PostE Z N F' σ W Q r := by
  cases r with
  | no => exact h
  | ok r e => exact fun v F2 H2 s2 => h v F2 H2 (s.trans s2)
  | ex x e => exact fun c d F2 H2 s2 => h c d F2 H2 (s.trans s2)
theorem PostT.shift {Q : Bool → Hp → Prop} {r : RT} (h : PostT Z N F σ W Q r) (s : Same F F') : PostT Z N F' σ W Q r := by
  cases r with
  | no => exact h
  | ok r e => exact fun F2 H2 s2 => h F2 H2 (s.trans s2)
  | ex x e => exact fun c d F2 H2 s2 => h c d F2 H2 (s.trans s2)
theorem PostA.shift {Q : List V → Hp → Prop} {r : RA} (h : PostA Z N F σ W Q r) (s : Same F F') : PostA Z N F' σ W Q r := by
  cases r with
  | no => exact h
  | ok r e => exact fun v F2 H2 s2 => h v F2 H2 (s.trans s2)
  | ex x e => exact fun c d F2 H2 s2 => h c d F2 H2 (s.trans s2)
theorem PostS.shift {E : Ends} {r : RS} (h : PostS Z N F W E r) (s : Same F F') : PostS Z N F' W E r := by
  cases r with
  | no => exact h
  | nx e => exact fun F2 H2 g s2 => h F2 H2 g (s.trans s2)
  | rt r e => exact fun v F2 H2 g s2 => h v F2 H2 g (s.trans s2)
  | bk e => exact fun F2 H2 g s2 => h F2 H2 g (s.trans s2)
  | ct e => exact fun F2 H2 g s2 => h F2 H2 g (s.trans s2)
  | ex x e => exact fun c d F2 H2 g s2 => h c d F2 H2 g (s.trans s2)

end
end S3

/-! B3: expressions: names, constants, operators, built-ins. -/
namespace S3
open PySem L2
section
variable {Z : Wd} {F F' H H' : Hp} {N : En} {σ : St} {e e' : Env} {v x y : V} {W : WX}

theorem Held.mono {r : RV} (h : Held Z F σ v r) (f : Same F F') : Held Z F' σ v r := by
  cases r with
  | fz d => exact Rp.mono f h
  | nw d => exact Rp.mono f h
  | «at» i => exact h
  | dn d => trivial
theorem RvOk.hold (S : SOk Z N F H σ e) {r : RV} (R : RvOk Z N F H σ e v r) : ∃ F', Same F F' ∧ SOk Z N F' H σ e ∧ Held Z F' σ v r := by
  cases r with
  | fz d => exact ⟨F, Same.refl _, S, R⟩
  | nw d =>
    obtain ⟨F', f, S', r⟩ := RvOk.stl (e' := e) S R rfl
    exact ⟨F', f, S', r⟩
  | «at» i => exact ⟨F, Same.refl _, S, R.1⟩
  | dn d => exact ⟨F, Same.refl _, S, trivial⟩
theorem Held.rd (S : SOk Z N F H σ e) {r : RV} {d : D} (h : Held Z F σ v r) (hd : S3.rd r e = some d) : RdV Z F H v d := by
  cases r with
  | fz x => cases hd; exact .inl h
  | nw x => cases hd; exact .inl h
  | «at» i =>
    have hd' : (S3.slot e i).val = some d := hd
    have ne : S3.slot e i ≠ .no := fun z => by rw [z] at hd'; cases hd'
    exact RvOk.rd S (r := .at i) ⟨h, _, slot_get rfl ne, ne⟩ hd
  | dn d => cases hd
/-! what a read value is -/
theorem RdV.non (h : RdV Z F H v .non) : v = .non := by
  rcases h with h | ⟨a, _, _, t⟩
  · cases h; rfl
  · exact t.elim
theorem RdV.bl {b : Bool} (h : RdV Z F H v (.bl b)) : v = .bl b := by
  rcases h with h | ⟨a, _, _, t⟩
  · cases h; rfl
  · exact t.elim
theorem RdV.int {i : Int} (h : RdV Z F H v (.int i)) : v = .int i := by
  rcases h with h | ⟨a, _, _, t⟩
  · cases h; rfl
  · exact t.elim
theorem RdV.str {s : Str} (h : RdV Z F H v (.str s)) : v = .str s ∧ s.length ≤ sizeLine ∧ sOk s = true := by
  rcases h with h | ⟨a, _, _, t⟩
  · cases h with
    | str _ z => exact ⟨rfl, by rw [sizeLine_eq]; exact sOk_len z, z⟩
  · exact t.elim
theorem RdV.lst {ds : List D} (l : Same F H) (h : RdV Z F H v (.lst ds)) : ∃ a xs, v = .ref a ∧ H a = some (.lst xs) ∧ RpA Z F xs ds := by
  rcases h with h | ⟨a, rfl, _, xs, t, r⟩
  · cases h with
    | lst k r => exact ⟨_, _, rfl, l _ _ k, r⟩
  · exact ⟨a, xs, rfl, t, r⟩
theorem RdV.tup {ds : List D} (l : Same F H) (h : RdV Z F H v (.tup ds)) : ∃ a xs, v = .ref a ∧ H a = some (.tup xs) ∧ RpA Z F xs ds := by
  rcases h with h | ⟨a, _, _, t⟩
  · cases h with
    | tup k r => exact ⟨_, _, rfl, l _ _ k, r⟩
  · exact t.elim
theorem RdV.dk {ds : List (Key × D)} (l : Same F H) (h : RdV Z F H v (.dk ds)) : ∃ a xs, v = .ref a ∧ L2.Rd H a (.dK xs) ∧ RpP Z F xs ds := by
  rcases h with h | ⟨a, rfl, _, _, xs, t, r⟩
  · cases h with
    | dk k _ r => exact ⟨_, _, rfl, Rd.mono k l, r⟩
  · exact ⟨a, xs, rfl, .inl t, r⟩
theorem RdV.dt {ds : List (List Key × D)} (l : Same F H) (h : RdV Z F H v (.dt ds)) : ∃ a xs, v = .ref a ∧ L2.Rd H a (.dT xs) ∧ RpP Z F xs ds := by
  rcases h with h | ⟨a, rfl, _, _, xs, t, r⟩
  · cases h with
    | dt k _ r => exact ⟨_, _, rfl, Rd.mono k l, r⟩
  · exact ⟨a, xs, rfl, .inl t, r⟩
theorem RdV.st {ks : List Key} (l : Same F H) (h : RdV Z F H v (.st ks)) : ∃ a, v = .ref a ∧ H a = some (SetGO Z.P Z.w a ks) ∧ kOk ks := by
  rcases h with h | ⟨a, rfl, _, t, r⟩
  · cases h with
    | st k r => exact ⟨_, rfl, l _ _ k, r⟩
  · exact ⟨a, rfl, t, r⟩
theorem RdV.obj {c : Str} {ds : List (Str × D)} (l : Same F H) (h : RdV Z F H v (.obj c ds)) : ∃ a C dx xs, v = .ref a ∧ Z.ca c = some C ∧ H a = some (.ins C dx xs) ∧ RpP Z F xs ds := by
  rcases h with h | ⟨a, rfl, _, C, dx, xs, c, t, r⟩
  · cases h with
    | obj c k r => exact ⟨_, _, _, _, rfl, c, l _ _ k, r⟩
  · exact ⟨a, C, dx, xs, rfl, c, t, r⟩
theorem RpA.length : ∀ {vs : List V} {ds : List D}, RpA Z F vs ds → vs.length = ds.length
  | _, _, .nil => rfl
  | _, _, .cons _ r => congrArg Nat.succ r.length
theorem RpA.get : ∀ {vs : List V} {ds : List D} {i : Nat} {d : D}, RpA Z F vs ds → ds[i]? = some d → ∃ v, vs[i]? = some v ∧ Rp Z F v d
  | _, _, _, _, .nil, h => by simp at h
  | _, _, 0, _, .cons h _, q => by simp at q; subst q; exact ⟨_, rfl, h⟩
  | _, _, i + 1, _, .cons _ r, q => by
    obtain ⟨v, h1, h2⟩ := RpA.get (i := i) r (by simpa using q)
    exact ⟨v, by simpa using h1, h2⟩
theorem RpA.append : ∀ {vs ws : List V} {ds es : List D}, RpA Z F vs ds → RpA Z F ws es → RpA Z F (vs ++ ws) (ds ++ es)
  | _, _, _, _, .nil, s => s
  | _, _, _, _, .cons h r, s => .cons h (r.append s)
theorem RpA.drop : ∀ {vs : List V} {ds : List D} (n : Nat), RpA Z F vs ds → RpA Z F (vs.drop n) (ds.drop n)
  | _, _, 0, r => r
  | _, _, _ + 1, .nil => .nil
  | _, _, n + 1, .cons _ r => r.drop n
theorem RpA.take : ∀ {vs : List V} {ds : List D} (n : Nat), RpA Z F vs ds → RpA Z F (vs.take n) (ds.take n)
  | _, _, 0, _ => .nil
  | _, _, _ + 1, .nil => .nil
  | _, _, n + 1, .cons h r => .cons h (r.take n)
theorem RpA.reverse : ∀ {vs : List V} {ds : List D}, RpA Z F vs ds → RpA Z F vs.reverse ds.reverse
  | _, _, .nil => .nil
  | _, _, .cons h r => by rw [List.reverse_cons, List.reverse_cons]; exact r.reverse.append (.cons h .nil)
theorem RpA.set : ∀ {vs : List V} {ds : List D} (i : Nat) {v : V} {d : D}, RpA Z F vs ds → Rp Z F v d → RpA Z F (vs.set i v) (ds.set i d)
  | _, _, _, _, _, .nil, _ => .nil
  | _, _, 0, _, _, .cons _ r, h => .cons h r
  | _, _, i + 1, _, _, .cons h r, q => .cons h (r.set i q)
theorem RpA.atI {vs : List V} {ds : List D} {i : Int} {d : D} (r : RpA Z F vs ds) (h : atI ds i = some d) : ∃ v, atI vs i = some v ∧ Rp Z F v d := by
  unfold L2.atI at h ⊢
  rw [r.length]
  cases q : ixN ds.length i with
  | none => rw [q] at h; cases h
  | some j => rw [q] at h; exact r.get (i := j) h

/-! ### readings of two values, of one -/
abbrev R1 := V → Hp → VK → Prop
def Sound2 (Z : Wd) (r : V → V → Hp → VK → Prop) (op : D → D → Option RV) : Prop :=
  ∀ F H x y dx dy rr Q, Same F H → RdV Z F H x dx → RdV Z F H y dy → op dx dy = some rr → (∀ v F' H', Gr F H F' H' → NwOk Z H F' H' v rr → Q v H') → r x y H Q
def Sound1 (Z : Wd) (r : V → Hp → VK → Prop) (op : D → Option RV) : Prop :=
  ∀ F H x dx rr Q, Same F H → RdV Z F H x dx → op dx = some rr → (∀ v F' H', Gr F H F' H' → NwOk Z H F' H' v rr → Q v H') → r x H Q
/-- the end of an operation -/
theorem op_end {rr : RV} {Q : VK} (S : SOk Z N F H σ e) (P : PostE Z N F σ W Q (.ok rr e)) (v : V) (F' H' : Hp) (g : Gr F H F' H') (n : NwOk Z H F' H' v rr) : Q v H' :=
  P v F' H' g.f (S.gr g) (S.rvok g n)
/-- a first expression, then what the rest asks -/
theorem bindL {f : EV} {k : RV → EV} {Q R : VK} (S : SOk Z N F H σ e) (P : PostE Z N F σ W Q (eBind f k e))
    (K : ∀ x F1 H1 e1 r, Same F F1 → SOk Z N F1 H1 σ e1 → RvOk Z N F1 H1 σ e1 x r → PostE Z N F1 σ W Q (k r e1) → R x H1) : tEv Z W f σ H R := by
  unfold eBind at P
  refine ⟨N, F, e, S, ?_⟩
  cases q : f e with
  | no => rw [q] at P; exact P
  | ex z e1 => rw [q] at P; exact P
  | ok r e1 => rw [q] at P; exact fun x F1 H1 f1 S1 R1 => K x F1 H1 e1 r f1 S1 R1 (PostE.shift (r := k r e1) P f1)
/-- an int, then what the rest asks -/
theorem bindI {f : EV} {k : RV → EV} {Q R : VK} (S : SOk Z N F H σ e) (P : PostE Z N F σ W Q (eBind (eI f) k e))
    (K : ∀ i F1 H1 e1, Same F F1 → SOk Z N F1 H1 σ e1 → PostE Z N F1 σ W Q (k (.fz (.int i)) e1) → R (.int i) H1) : tEv Z W f σ H R := by
  unfold eI eBind at P
  refine ⟨N, F, e, S, ?_⟩
  cases q : f e with
  | no => rw [q] at P; exact P
  | ex z e1 => rw [q] at P; exact P
  | ok r e1 =>
    rw [q] at P
    cases r with
    | fz d =>
      cases d with
      | int i =>
        intro x F1 H1 f1 S1 R1
        have ex : x = .int i := RdV.int (H := H1) (.inl R1)
        subst ex
        exact K i F1 H1 e1 f1 S1 (PostE.shift (r := k (.fz (.int i)) e1) P f1)
      | _ => exact P.elim
    | _ => exact P.elim
theorem two {r : V → V → Hp → VK → Prop} {op : D → D → Option RV} (hs : Sound2 Z r op) {fa fb : EV} {Q : VK} (h : tEv Z W (eOp2 op fa fb) σ H Q) :
    tEv Z W fa σ H fun x H1 => tEv Z W fb σ H1 fun y H2 => r x y H2 Q := by
  obtain ⟨N, F, e, S, P⟩ := h
  refine bindL S P fun x F1 H1 e1 ra f1 S1 R1 P1 => ?_
  obtain ⟨F2, f2, S2, h2⟩ := RvOk.hold S1 R1
  refine bindL S2 (PostE.shift P1 f2) fun y F3 H3 e3 rb f3 T3 R3 P3 => ?_
  obtain ⟨F4, f4, S4, h4⟩ := RvOk.hold T3 R3
  have P4 := PostE.shift P3 f4
  have g2 := (h2.mono f3).mono f4
  cases d1 : S3.rd ra e3 with
  | none => rw [d1] at P4; exact P4.elim
  | some dx =>
    cases d2 : S3.rd rb e3 with
    | none => rw [d1, d2] at P4; exact P4.elim
    | some dy =>
      rw [d1, d2] at P4
      dsimp only at P4
      cases d3 : op dx dy with
      | none => rw [d3] at P4; exact P4.elim
      | some rr =>
        rw [d3] at P4
        exact hs F4 H3 x y dx dy rr Q S4.le (g2.rd S4 d1) (h4.rd S4 d2) d3 (op_end S4 P4)
theorem one {r : V → Hp → VK → Prop} {op : D → Option RV} (hs : Sound1 Z r op) {fa : EV} {Q : VK} (h : tEv Z W (eOp1 op fa) σ H Q) :
    tEv Z W fa σ H fun x H1 => r x H1 Q := by
  obtain ⟨N, F, e, S, P⟩ := h
  refine bindL S P fun x F1 H1 e1 ra f1 S1 R1 P1 => ?_
  obtain ⟨F2, f2, S2, h2⟩ := RvOk.hold S1 R1
  have P2 := PostE.shift P1 f2
  cases d1 : S3.rd ra e1 with
  | none => rw [d1] at P2; exact P2.elim
  | some dx =>
    rw [d1] at P2
    dsimp only at P2
    cases d3 : op dx with
    | none => rw [d3] at P2; exact P2.elim
    | some rr =>
      rw [d3] at P2
      exact hs F2 H1 x dx rr Q S2.le (h2.rd S2 d1) d3 (op_end S2 P2)
end
end S3

/-! B4: expressions: names, constants, operators. -/
namespace S3
open PySem L2
section
variable {Z : Wd} {F F' H H' : Hp} {N : En} {σ : St} {e e' : Env} {v x y : V} {W : WX}
theorem slot_rd {i : Nat} {Q : VK} (h : tEv Z W (eSlot i) σ H Q) : tVar i σ H Q := by
  obtain ⟨N, F, e, S, P⟩ := h
  unfold eSlot at P
  have key : ∀ s, S3.slot e i = s → s ≠ .no → ∃ v, σ[i]? = some (some v) ∧ RvOk Z N F H σ e v (.at i) ∧ SlOk Z N F H (some v) s := fun s hs hn => by
    have g := slot_get hs hn
    obtain ⟨o, h1, h2⟩ := S.slot i s g
    have : ∃ v, o = some v := by
      cases s with
      | no => exact (hn rfl).elim
      | fz d => obtain ⟨v, e, _⟩ := h2; exact ⟨v, e⟩
      | ow d => obtain ⟨v, e, _⟩ := h2; exact ⟨_, e⟩
      | bo d => obtain ⟨v, e, _⟩ := h2; exact ⟨v, e⟩
      | mu d => obtain ⟨v, e, _⟩ := h2; exact ⟨_, e⟩
      | dp g d => obtain ⟨v, R, e, _⟩ := h2; exact ⟨_, e⟩
    obtain ⟨v, rfl⟩ := this
    exact ⟨v, h1, ⟨h1, s, g, hn⟩, h2⟩
  cases q : S3.slot e i with
  | no => rw [q] at P; exact P.elim
  | fz d =>
    obtain ⟨v, h1, _, w, e1, r⟩ := key _ q (by intro z; cases z)
    cases e1
    rw [q] at P
    exact ⟨v, h1, P v F H (Same.refl _) S r⟩
  | ow d =>
    obtain ⟨v, h1, h2, _⟩ := key _ q (by intro z; cases z)
    rw [q] at P
    exact ⟨v, h1, P v F H (Same.refl _) S h2⟩
  | bo d =>
    obtain ⟨v, h1, h2, _⟩ := key _ q (by intro z; cases z)
    rw [q] at P
    exact ⟨v, h1, P v F H (Same.refl _) S h2⟩
  | mu d =>
    obtain ⟨v, h1, h2, _⟩ := key _ q (by intro z; cases z)
    rw [q] at P
    exact ⟨v, h1, P v F H (Same.refl _) S h2⟩
  | dp g d =>
    obtain ⟨v, h1, h2, _⟩ := key _ q (by intro z; cases z)
    rw [q] at P
    exact ⟨v, h1, P v F H (Same.refl _) S h2⟩
theorem const_rd {d : D} {v : V} {Q : VK} (r : ∀ F, Rp Z F v d) (h : tEv Z W (eC d) σ H Q) : tC v σ H Q := by
  obtain ⟨N, F, e, S, P⟩ := h
  exact P v F H (Same.refl _) S (r F)
end

section
variable {ca : Str → Option Addr} {W : WX} {X : Cx} {a b c : Expr} {fa fb fc : EV} {pos : Pos}
/-! ### names and constants -/
theorem ev_slot (i : Nat) {x : Str} {pos : Pos} (hN : X.N[i]? = some x := by rfl) (hv : Vis X.env.scope x := by first | exact Or.inl rfl | exact Or.inr (Or.inl rfl) | exact Or.inr (Or.inr rfl)) (hd : (x == ("__debug__" : Str)) = false := by decide)
    (hcd : (x == ("__classdict__" : Str)) = false := by decide) : Ev ca W X (.Name x pos) (eSlot i) := PE_imp (pe_var hN hv hd hcd) fun _ _ _ => slot_rd
theorem ev_int {i : Int} {j : Nat} : Ev ca W X (.Constant (.int i) j pos) (eC (.int i)) := PE_imp pe_int fun _ _ _ => const_rd fun _ => .int i
theorem ev_bl {b : Bool} {j : Nat} : Ev ca W X (.Constant (.bool b) j pos) (eC (.bl b)) := PE_imp pe_bl fun _ _ _ => const_rd fun _ => .bl b
theorem ev_non {j : Nat} : Ev ca W X (.Constant .none j pos) (eC .non) := PE_imp pe_non fun _ _ _ => const_rd fun _ => .non
theorem ev_str {x : Str} {j : Nat} (hz : sOk x = true := by decide +kernel) : Ev ca W X (.Constant (.str x) j pos) (eC (.str x)) := PE_imp pe_str fun _ _ _ => const_rd fun _ => .str x hz
/-- a constant of the module -/
theorem ev_glob {x : Str} {v : V} {u : Value} {d : D} (hg : Gl X x) (hm : X.mg x = some u) (r : RelV v u) (rp : ∀ F, Rp (zw ca X) F v d) (hd : (x == ("__debug__" : Str)) = false := by decide) : Ev ca W X (.Name x pos) (eC d) :=
  PE_imp (pe_glob hg hm r hd) fun _ _ _ => const_rd rp

/-! ### operators -/
theorem ev_bin {op : Operator} {r : V → V → Hp → VK → Prop} {o : D → D → Option RV} (ho : OpR X (binaryOp op) r) (hs : Sound2 (zw ca X) r o) (ha : Ev ca W X a fa) (hb : Ev ca W X b fb) : Ev ca W X (.BinOp a op b pos) (eOp2 o fa fb) :=
  PE_imp (pe_op ho ha hb) fun _ _ _ => two hs
theorem ev_cmp {op : CmpOp} {r : V → V → Hp → VK → Prop} {o : D → D → Option RV} (ho : OpR X (compareOp op) r) (hs : Sound2 (zw ca X) r o) (ha : Ev ca W X a fa) (hb : Ev ca W X b fb) (hm : behindInMarks op b = false) : Ev ca W X (.Compare a [op] [b] pos) (eOp2 o fa fb) :=
  PE_imp (pe_cmpR ho ha hb hm) fun _ _ _ => two hs
theorem ev_un {op : UnaryOp} {r : V → Hp → VK → Prop} {o : D → Option RV} (ho : UnR X (unaryOp op) r) (hs : Sound1 (zw ca X) r o) (ha : Ev ca W X a fa) : Ev ca W X (.UnaryOp op a pos) (eOp1 o fa) :=
  PE_imp (pe_un ho ha) fun _ _ _ => one hs
end

/-! ### what the operators give -/
section
variable {Z : Wd} {r r' : V → V → Hp → VK → Prop}
/-- a frozen value at the heap as it is -/
theorem fin_fz {F H : Hp} {Q : VK} {d : D} {v : V} (l : Same F H) (q : ∀ v F' H', Gr F H F' H' → NwOk Z H F' H' v (.fz d) → Q v H') (r : Rp Z F v d) : Q v H := q v F H (Gr.refl l) r
theorem fin_int {F H : Hp} {Q : VK} {i : Int} (l : Same F H) (q : ∀ v F' H', Gr F H F' H' → NwOk Z H F' H' v (.fz (.int i)) → Q v H') : Q (.int i) H := fin_fz l q (.int i)
theorem fin_bl {F H : Hp} {Q : VK} {i : Bool} (l : Same F H) (q : ∀ v F' H', Gr F H F' H' → NwOk Z H F' H' v (.fz (.bl i)) → Q v H') : Q (.bl i) H := fin_fz l q (.bl i)
/-- a new list -/
theorem fin_lst {F H : Hp} {Q : VK} {ds : List D} {xs : List V} (l : Same F H) (q : ∀ v F' H', Gr F H F' H' → NwOk Z H F' H' v (.nw (.lst ds)) → Q v H') (r : RpA Z F xs ds) : ∀ p, H p = none → Q (.ref p) (upd H p (.lst xs)) := fun p hp =>
  q (.ref p) F _ (Gr.lay l hp) ⟨p, rfl, hp, none_le l hp, xs, upd_same, r⟩
theorem fin_tup {F H : Hp} {Q : VK} {ds : List D} {xs : List V} (l : Same F H) (q : ∀ v F' H', Gr F H F' H' → NwOk Z H F' H' v (.fz (.tup ds)) → Q v H') (r : RpA Z F xs ds) : ∀ p, H p = none → Q (.ref p) (upd H p (.tup xs)) := fun p hp =>
  q (.ref p) (upd F p (.tup xs)) _ (Gr.layF l hp) (.tup upd_same (r.mono (same_upd (none_le l hp))))
theorem s_sub : Sound2 Z (rI0 fun i j => .int (i - j)) opSub := by
  intro F H x y dx dy rr Q l hx hy ho q
  cases dx <;> cases dy <;> simp only [opSub] at ho <;> try cases ho
  exact ⟨_, _, hx.int, hy.int, fin_int l q⟩
theorem s_mod : Sound2 Z (rI (fun _ j => 0 < j) fun i j => .int (i % j)) opMod := by
  intro F H x y dx dy rr Q l hx hy ho q
  cases dx <;> cases dy <;> simp only [opMod] at ho <;> try cases ho
  split at ho
  · cases ho; exact ⟨_, _, hx.int, hy.int, by assumption, fin_int l q⟩
  · cases ho
theorem s_div : Sound2 Z (rI CDiv fun i j => .int (i / j)) opDiv := by
  intro F H x y dx dy rr Q l hx hy ho q
  cases dx <;> cases dy <;> simp only [opDiv] at ho <;> try cases ho
  split at ho
  · cases ho; exact ⟨_, _, hx.int, hy.int, by assumption, fin_int l q⟩
  · cases ho
theorem s_pow : Sound2 Z (rI CPow fun i j => .int (i ^ j.toNat)) opPow := by
  intro F H x y dx dy rr Q l hx hy ho q
  cases dx <;> cases dy <;> simp only [opPow] at ho <;> try cases ho
  split at ho
  · cases ho; exact ⟨_, _, hx.int, hy.int, by assumption, fin_int l q⟩
  · cases ho
/-- a comparison of two ints, or of two strings -/
def rCmpA (f : Int → Int → Bool) (g : Str → Str → Bool) : V → V → Hp → VK → Prop := fun x y H Q => rI0 (fun i j => .bl (f i j)) x y H Q ∨ ∃ i j, x = .str i ∧ y = .str j ∧ Q (.bl (g i j)) H
theorem op_ltA {X : Cx} : OpR X (compareOp .Lt) (rCmpA (fun i j => decide (i < j)) fun i j => decide (i.cps.toList < j.cps.toList)) := op_lt.or op_lt_str
theorem op_leA {X : Cx} : OpR X (compareOp .LtE) (rCmpA (fun i j => decide (i ≤ j)) fun i j => !decide (j.cps.toList < i.cps.toList)) := op_le.or op_le_str
theorem op_gtA {X : Cx} : OpR X (compareOp .Gt) (rCmpA (fun i j => decide (j < i)) fun i j => decide (j.cps.toList < i.cps.toList)) := op_gt.or op_gt_str
theorem s_lt : Sound2 Z (rCmpA (fun i j => decide (i < j)) fun i j => decide (i.cps.toList < j.cps.toList)) opLt := by
  intro F H x y dx dy rr Q l hx hy ho q
  cases dx <;> cases dy <;> simp only [opLt] at ho <;> cases ho
  · exact .inl ⟨_, _, hx.int, hy.int, fin_bl l q⟩
  · exact .inr ⟨_, _, hx.str.1, hy.str.1, fin_bl l q⟩
theorem s_le : Sound2 Z (rCmpA (fun i j => decide (i ≤ j)) fun i j => !decide (j.cps.toList < i.cps.toList)) opLe := by
  intro F H x y dx dy rr Q l hx hy ho q
  cases dx <;> cases dy <;> simp only [opLe] at ho <;> cases ho
  · exact .inl ⟨_, _, hx.int, hy.int, fin_bl l q⟩
  · exact .inr ⟨_, _, hx.str.1, hy.str.1, fin_bl l q⟩
theorem s_gt : Sound2 Z (rCmpA (fun i j => decide (j < i)) fun i j => decide (j.cps.toList < i.cps.toList)) opGt := by
  intro F H x y dx dy rr Q l hx hy ho q
  cases dx <;> cases dy <;> simp only [opGt] at ho <;> cases ho
  · exact .inl ⟨_, _, hx.int, hy.int, fin_bl l q⟩
  · exact .inr ⟨_, _, hx.str.1, hy.str.1, fin_bl l q⟩
theorem s_neg : Sound1 Z (rU fun i => .int (-i)) opNeg := by
  intro F H x dx rr Q l hx ho q
  cases dx <;> simp only [opNeg] at ho <;> cases ho
  exact ⟨_, hx.int, fin_int l q⟩
/-! a + b -/
def rAddA (K : PySem.W.Frag) : V → V → Hp → VK → Prop := fun x y H Q => rI0 (fun i j => .int (i + j)) x y H Q ∨ (∃ i j, x = .str i ∧ y = .str j ∧ i.length + j.length ≤ sizeLine ∧ Q (.str (i ++ j)) H) ∨ rCat x y H Q ∨ rCatA K x y H Q
theorem op_addA {X : Cx} : OpR X (binaryOp .Add) (rAddA X.K) := op_add.or (op_add_str.or (op_cat.or op_catA))
theorem str_len (x y : Str) : (x ++ y).length = x.length + y.length := by
  show (x.cps ++ y.cps).size = _
  rw [Array.size_append]
  rfl
theorem s_add : Sound2 Z (rAddA Z.K) opAdd := by
  intro F H x y dx dy rr Q l hx hy ho q
  cases dx <;> cases dy <;> simp only [opAdd] at ho <;> try (cases ho; done)
  · cases ho; exact .inl ⟨_, _, hx.int, hy.int, fin_int l q⟩
  · split at ho
    · rename_i h
      cases ho
      refine .inr (.inl ⟨_, _, hx.str.1, hy.str.1, by rw [sizeLine_eq]; exact h, ?_⟩)
      exact fin_fz l q (.str _ (sOk_of (by rw [str_len]; exact h) (by show (_ ++ _ : Array Nat).all _ = true; rw [Array.all_append, sOk_cps hx.str.2.2, sOk_cps hy.str.2.2]; rfl)))
    · cases ho
  · split at ho
    · rename_i h
      cases ho
      obtain ⟨a, xs, rfl, ha, ra⟩ := hx.lst l
      obtain ⟨b, ys, rfl, hb, rb⟩ := hy.lst l
      exact .inr (.inr (.inl ⟨a, b, xs, ys, rfl, rfl, ha, hb, by rw [sizeLine_eq, ra.length, rb.length]; exact h, fin_lst l q (ra.append rb)⟩))
    · cases ho
  · split at ho
    · rename_i h
      cases ho
      have hx' : Rp Z F x (.tup _) := hx.elim id fun ⟨_, _, _, t⟩ => t.elim
      have hy' : Rp Z F y (.tup _) := hy.elim id fun ⟨_, _, _, t⟩ => t.elim
      obtain ⟨a, xs, rfl, ha, ra⟩ := hx.tup l
      obtain ⟨b, ys, rfl, hb, rb⟩ := hy.tup l
      refine .inr (.inr (.inr ⟨a, b, xs, ys, rfl, rfl, SqT.of ha, SqT.of hb, by rw [sizeLine_eq, ra.length, rb.length]; exact h, fun z => ?_, fun _ z => ?_, fun _ _ p hp => ?_⟩))
      · subst z; cases ra; exact fin_fz l q hy'
      · subst z; cases rb
        rw [List.append_nil] at q
        exact fin_fz l q hx'
      · exact q (.ref p) _ _ (Gr.layF l hp) (.tup upd_same ((ra.append rb).mono (same_upd (none_le l hp))))
    · cases ho
theorem notLongS {n : Nat} (h : n ≤ 1000000) : PySem.Builtin.Str.tooLong n = false := by
  unfold PySem.Builtin.Str.tooLong
  rw [decide_eq_false]
  rw [sizeLine_eq]
  omega
theorem fold_rep (x : Array Nat) : ∀ (k : Nat) (acc : Array Nat), (List.replicate k x).foldl (· ++ ·) acc = acc ++ (List.replicate k x.toList).flatten.toArray
  | 0, acc => by simp
  | k + 1, acc => by
    rw [List.replicate_succ, List.foldl_cons, fold_rep x k, List.replicate_succ, List.flatten_cons]
    apply Array.ext'
    simp
theorem strRep_zero {x : Str} {n : Int} (h : n < 1) : strRep x n = Str.empty := by
  unfold strRep
  rw [show n.toNat = 0 by omega]
  rfl
theorem strRep_one {x : Str} : strRep x 1 = x := by
  unfold strRep
  obtain ⟨c⟩ := x
  simp
theorem strRep_nil {x : Str} {n : Int} (h : x.length = 0) : strRep x n = x := by
  obtain ⟨c⟩ := x
  have e : c = #[] := Array.eq_empty_of_size_eq_zero h
  subst e
  unfold strRep
  have : ∀ k : Nat, (List.replicate k ([] : List Nat)).flatten = [] := fun k => by induction k with
    | zero => rfl
    | succ k ih => rw [List.replicate_succ, List.flatten_cons, ih]; rfl
  simp [this]
theorem strRep_len (x : Str) (n : Int) : (strRep x n).length = n.toNat * x.length := by
  unfold strRep
  show (List.flatten _).toArray.size = _
  rw [List.size_toArray, List.length_flatten, List.map_replicate, List.sum_replicate_nat]
  rfl
theorem strRep_ok {x : Str} {n : Int} (h : sOk x = true) (h1 : n ≤ 1000) (h2 : x.length ≤ 1000) : sOk (strRep x n) = true := by
  refine sOk_of ?_ ?_
  · rw [strRep_len]
    have : n.toNat ≤ 1000 := by omega
    exact Nat.le_trans (Nat.mul_le_mul this h2) (by decide)
  · have q := sOk_cps h
    unfold strRep
    simp only [List.all_toArray]
    rw [List.all_eq_true] 
    intro c hc
    obtain ⟨l, hl, hcl⟩ := List.mem_flatten.mp hc
    have := List.eq_of_mem_replicate hl
    subst this
    exact Array.all_eq_true_iff_forall_mem.mp q c (Array.mem_toList_iff.mp hcl)
theorem op_mulS {X : Cx} : OpR X (binaryOp .Mult) (fun x y H Q => ∃ i n, x = .str i ∧ y = .int n ∧ (-1000 ≤ n ∧ n ≤ 1000 ∧ i.length ≤ 1000) ∧ Q (.str (strRep i n)) H) := by
  intro pins s σ H x y v u Q I rx ry h
  obtain ⟨i, n, rfl, rfl, ⟨h1, h2, h3⟩, q⟩ := h
  obtain ⟨t, rfl⟩ := rx
  obtain ⟨t', rfl⟩ := ry
  have fin : ∀ (tk : Tok) (s' : Shared), Inv X pins σ H s' → EP X pins σ Q (.str (strRep i n) tk) s' := fun tk s' I' => ⟨.str (strRep i n), H, I', ⟨tk, rfl⟩, q⟩
  have z1 : i.length * n.toNat ≤ 1000000 := Nat.mul_le_mul h3 (show n.toNat ≤ 1000 by omega)
  refine PySem.P.mul_str (by rw [decide_eq_false (by omega), decide_eq_false (by omega)]; rfl) (fun h4 _ => ?_) (fun h4 _ => ?_) ?_
  · have : (1000 : Int) ≤ (2 ^ 63 - 1) / n := by
      rw [Int.le_ediv_iff_mul_le (by omega)]
      omega
    omega
  · exact notLongS z1
  · by_cases c1 : n < 1
    · rw [if_pos c1]
      have e := strRep_zero (x := i) c1
      refine ⟨by decide, ?_⟩
      rw [← e]
      exact fin _ _ (I.tok _)
    · rw [if_neg c1]
      by_cases c2 : (n == 1 || i.length == 0) = true
      · rw [if_pos c2]
        have e : strRep i n = i := by
          rw [Bool.or_eq_true, beq_iff_eq, beq_iff_eq] at c2
          rcases c2 with rfl | c2
          · exact strRep_one
          · exact strRep_nil c2
        have f := fin t s I
        rw [e] at f
        exact f
      · rw [if_neg c2]
        have e : (⟨(List.replicate n.toNat i.cps).foldl (· ++ ·) #[]⟩ : Str) = strRep i n := by
          unfold strRep
          rw [fold_rep]
          simp
        rw [e]
        refine ⟨?_, fin _ _ (I.tok _)⟩
        rw [strRep_len, Nat.mul_comm, sizeLine_eq]
        omega
def rMulA : V → V → Hp → VK → Prop := fun x y H Q => rI CMul (fun i j => .int (i * j)) x y H Q ∨ ∃ i n, x = .str i ∧ y = .int n ∧ (-1000 ≤ n ∧ n ≤ 1000 ∧ i.length ≤ 1000) ∧ Q (.str (strRep i n)) H
theorem op_mulA {X : Cx} : OpR X (binaryOp .Mult) rMulA := op_mul.or op_mulS
theorem s_mul : Sound2 Z rMulA opMul := by
  intro F H x y dx dy rr Q l hx hy ho q
  cases dx <;> cases dy <;> simp only [opMul] at ho <;> try (cases ho; done)
  · split at ho
    · cases ho; exact .inl ⟨_, _, hx.int, hy.int, by assumption, fin_int l q⟩
    · cases ho
  · split at ho
    · rename_i h
      cases ho
      exact .inr ⟨_, _, hx.str.1, hy.int, h, fin_fz l q (.str _ (strRep_ok hx.str.2.2 h.2.1 h.2.2))⟩
    · cases ho

/-! plain data -/
theorem dp_of {K : PySem.W.Frag} {H : Hp} (hK : Z.K = K) : ∀ (n : Nat) {F : Hp} {v : V} {d : D}, Same F H → okD n d = true → RdV Z F H v d → Dp K H v (py n d) := by
  subst hK
  intro n
  induction n with
  | zero =>
    intro F v d l o h
    cases d <;> simp [okD] at o
    · rw [h.non]; exact .non
    · rw [h.bl]; exact .bl _
    · rw [h.int]; exact .int _
    · rw [h.str.1]; exact .str _
  | succ n ih =>
    intro F v d l o h
    have all : ∀ {vs : List V} {ds : List D}, RpA Z F vs ds → ds.all (okD n) = true → DpAll Z.K H vs (ds.map (py n)) := by
      intro vs ds r
      induction ds generalizing vs with
      | nil => intro _; cases r; exact .nil
      | cons d ds ihd =>
        intro q
        cases r with
        | cons r1 r2 =>
          rw [List.all_cons, Bool.and_eq_true] at q
          exact .cons (ih l q.1 (.inl r1)) (ihd r2 q.2)
    cases d <;> simp only [okD] at o <;> try (cases o; done)
    · rw [h.non]; exact .non
    · rw [h.bl]; exact .bl _
    · rw [h.int]; exact .int _
    · rw [h.str.1]; exact .str _
    · obtain ⟨a, xs, rfl, ha, ra⟩ := h.lst l
      exact .lst (SqL.of ha) (all ra o)
    · obtain ⟨a, xs, rfl, ha, ra⟩ := h.tup l
      exact .tup (SqT.of ha) (all ra o)
theorem py_depth : ∀ (n : Nat) (d : D), okD n d = true → (py n d).depth ≤ n := by
  intro n
  induction n with
  | zero => intro d o; cases d <;> simp [okD] at o <;> simp [py, PyData.depth]
  | succ n ih =>
    intro d o
    have all : ∀ ds : List D, ds.all (okD n) = true → PyData.depthAll (ds.map (py n)) ≤ n := by
      intro ds
      induction ds with
      | nil => intro _; simp [PyData.depthAll]
      | cons d ds ihd =>
        intro q
        rw [List.all_cons, Bool.and_eq_true] at q
        have h2 := ih d q.1
        have h4 := ihd q.2
        simp only [List.map_cons, PyData.depthAll]
        omega
    cases d <;> simp only [okD] at o <;> try (cases o; done)
    case lst xs => have h2 := all _ o; simp only [py, PyData.depth]; omega
    case tup xs => have h2 := all _ o; simp only [py, PyData.depth]; omega
    all_goals simp [py, PyData.depth]
theorem py_lay {F H : Hp} (l : Same F H) : ∀ (n : Nat) {v : V} {d : D}, okD n d = true → RdV Z F H v d → (py n d).canLay0 = true := by
  intro n
  induction n with
  | zero =>
    intro v d o h
    cases d <;> simp [okD] at o <;> simp [py, PyData.canLay0]
    exact sOk_cps h.str.2.2
  | succ n ih =>
    intro v d o h
    have all : ∀ {vs : List V} {ds : List D}, RpA Z F vs ds → ds.all (okD n) = true → PyData.canLayAll0 (ds.map (py n)) = true := by
      intro vs ds r
      induction ds generalizing vs with
      | nil => intro _; simp [PyData.canLayAll0]
      | cons d ds ihd =>
        intro q
        cases r with
        | cons r1 r2 =>
          rw [List.all_cons, Bool.and_eq_true] at q
          simp only [List.map_cons, PyData.canLayAll0, ih q.1 (.inl r1), ihd r2 q.2, Bool.and_self]
    cases d <;> simp only [okD] at o <;> try (cases o; done)
    case lst xs => obtain ⟨a, xs, rfl, ha, ra⟩ := h.lst l; simp only [py, PyData.canLay0]; exact all ra o
    case tup xs => obtain ⟨a, xs, rfl, ha, ra⟩ := h.tup l; simp only [py, PyData.canLay0]; exact all ra o
    case str x => simp only [py, PyData.canLay0]; exact sOk_cps h.str.2.2
    all_goals simp [py, PyData.canLay0]
theorem shaped_py {F H : Hp} (l : Same F H) {n : Nat} (hn : n ≤ 64) {v : V} {d : D} (h : okD n d = true) (r : RdV Z F H v d) : SeqAt.shaped (py n d) = true := by
  show ((py n d).canLay0 && decide ((py n d).depth ≤ 64)) = true
  rw [py_lay l n h r, Bool.true_and]
  exact decide_eq_true (Nat.le_trans (py_depth n d h) hn)
theorem bRV_some {o : Option Bool} {rr : RV} (h : bRV o = some rr) : ∃ b, o = some b ∧ rr = .fz (.bl b) := by
  unfold bRV at h
  cases o with
  | none => cases h
  | some b => cases h; exact ⟨b, rfl, rfl⟩
theorem dEq_some {x y : D} {b : Bool} (h : dEq x y = some b) : okD 6 x = true ∧ okD 6 y = true ∧ b = PyData.eqv (py 6 x) (py 6 y) := by
  unfold dEq at h
  split at h
  · rename_i q
    rw [Bool.and_eq_true] at q
    cases h
    exact ⟨q.1, q.2, rfl⟩
  · cases h
theorem s_eq : Sound2 Z (rEqD Z.K) opEq := by
  intro F H x y dx dy rr Q l hx hy ho q
  obtain ⟨b, h, rfl⟩ := bRV_some ho
  obtain ⟨h1, h2, rfl⟩ := dEq_some h
  exact ⟨_, _, dp_of rfl 6 l h1 hx, dp_of rfl 6 l h2 hy, shaped_py l (by decide) h1 hx, shaped_py l (by decide) h2 hy, fin_bl l q⟩
theorem s_ne : Sound2 Z (rNeD Z.K) opNe := by
  intro F H x y dx dy rr Q l hx hy ho q
  obtain ⟨b, h, rfl⟩ := bRV_some ho
  rw [Option.map_eq_some_iff] at h
  obtain ⟨b, h, rfl⟩ := h
  obtain ⟨h1, h2, rfl⟩ := dEq_some h
  exact ⟨_, _, dp_of rfl 6 l h1 hx, dp_of rfl 6 l h2 hy, shaped_py l (by decide) h1 hx, shaped_py l (by decide) h2 hy, fin_bl l q⟩
/-! is -/
def rIsA : V → V → Hp → VK → Prop := fun x y H Q => (y = .non ∧ Q (.bl (decide (x = .non))) H) ∨ rIsB x y H Q
theorem op_isA {X : Cx} : OpR X (compareOp .Is) rIsA := op_isN.or op_isBl
theorem RdV.notNon {F H : Hp} {v : V} {d : D} (h : RdV Z F H v d) (n : d ≠ .non) : v ≠ .non := by
  rcases h with h | ⟨a, rfl, _⟩
  · cases h <;> first | (exact (n rfl).elim) | (intro z; cases z)
  · intro z; cases z
theorem dIs_none {F H : Hp} {x y : V} {dx : D} {b : Bool} (hx : RdV Z F H x dx) (h : dIs dx .non = some b) : b = decide (x = .non) := by
  unfold dIs at h
  cases dx <;> simp at h <;> subst h
  · rw [hx.non]; rfl
  all_goals exact (decide_eq_false (hx.notNon (by intro z; cases z))).symm
theorem s_is : Sound2 Z rIsA opIs := by
  intro F H x y dx dy rr Q l hx hy ho q
  obtain ⟨b, h, rfl⟩ := bRV_some ho
  cases dy with
  | non => rw [dIs_none (y := y) hx h] at q; exact .inl ⟨hy.non, fin_bl l q⟩
  | bl c => cases dx <;> simp only [dIs] at h <;> cases h; exact .inr ⟨_, _, hx.bl, hy.bl, fin_bl l q⟩
  | _ => cases dx <;> simp only [dIs] at h <;> cases h
end
end S3

/-! B5: subscripts, in, built-ins by name, methods of built-in types, displays, tests. -/
namespace S3
open PySem L2
section
variable {Z : Wd} {F F' H H' : Hp} {N : En} {σ : St} {e e' : Env} {v x y : V} {W : WX}
/-! ### subscripts -/
theorem toKey_rd {F H : Hp} {y : V} {dy : D} {k : Key} (h : RdV Z F H y dy) (e : toKey dy = some k) : y = kV k := by
  cases dy <;> simp only [toKey] at e <;> cases e
  · exact h.int
  · exact h.str.1
theorem toKeys_rd {F : Hp} : ∀ {ds : List D} {vs : List V} {ks : List Key}, RpA Z F vs ds → toKeys ds = some ks → vs = ks.map kV
  | [], _, _, .nil, e => by simp only [toKeys] at e; cases e; rfl
  | d :: ds, _, _, .cons h r, e => by
    simp only [toKeys] at e
    cases q1 : toKey d with
    | none => rw [q1] at e; cases e
    | some k =>
      cases q2 : toKeys ds with
      | none => rw [q1, q2] at e; cases e
      | some ks =>
        rw [q1, q2] at e
        cases e
        rw [toKey_rd (H := fun _ => none) (.inl h) q1, toKeys_rd r q2]
        rfl
theorem RpP.any {κ : Type} [DecidableEq κ] (k : κ) : ∀ {vs : List (κ × V)} {ds : List (κ × D)}, RpP Z F vs ds → (vs.any fun kv => decide (kv.1 = k)) = ds.any fun kv => decide (kv.1 = k)
  | _, _, .nil => rfl
  | _, _, .cons _ r => by rw [List.any_cons, List.any_cons, RpP.any k r]
theorem RpP.val {κ : Type} [DecidableEq κ] (k : κ) : ∀ {vs : List (κ × V)} {ds : List (κ × D)}, RpP Z F vs ds → (∀ d, dVal ds k = some d → ∃ v, valV vs k = some v ∧ Rp Z F v d) ∧ (dVal ds k = none → valV vs k = none)
  | _, _, .nil => ⟨fun d h => by simp [dVal] at h, fun _ => rfl⟩
  | _, _, @RpP.cons _ _ _ j v vs d ds h r => by
    obtain ⟨i1, i2⟩ := RpP.val k r
    by_cases q : j = k
    · have e1 : dVal ((j, d) :: ds) k = some d := by simp [dVal, q]
      have e2 : valV ((j, v) :: vs) k = some v := by simp [valV, q]
      exact ⟨fun d' h' => by rw [e1] at h'; cases h'; exact ⟨v, e2, h⟩, fun h' => by rw [e1] at h'; cases h'⟩
    · have e1 : dVal ((j, d) :: ds) k = dVal ds k := by simp [dVal, q]
      have e2 : valV ((j, v) :: vs) k = valV vs k := by simp [valV, q]
      rw [e1, e2]
      exact ⟨i1, i2⟩
theorem RpP.length {κ : Type} : ∀ {vs : List (κ × V)} {ds : List (κ × D)}, RpP Z F vs ds → vs.length = ds.length
  | _, _, .nil => rfl
  | _, _, .cons _ r => congrArg Nat.succ r.length
/-- a dict asked -/
theorem dGet_rd {F H : Hp} {x y : V} {dx dy : D} {o : Option D} (l : Same F H) (hx : RdV Z F H x dx) (hy : RdV Z F H y dy) (e : dGet dx dy = some o) :
    ∃ a r, x = .ref a ∧ DGet H a y r ∧ r.isSome = o.isSome ∧ ∀ d, o = some d → ∃ v, r = some v ∧ Rp Z F v d := by
  cases dx <;> simp only [dGet] at e <;> try (cases e; done)
  · rename_i kvs
    rw [Option.map_eq_some_iff] at e
    obtain ⟨k, hk, rfl⟩ := e
    obtain ⟨a, xs, rfl, ha, r⟩ := hx.dk l
    obtain ⟨i1, i2⟩ := r.val k
    have ey := toKey_rd hy hk
    subst ey
    refine ⟨a, valV xs k, rfl, .inl ⟨xs, k, ha, rfl, rfl⟩, ?_, i1⟩
    cases q : dVal kvs k with
    | none => rw [i2 q]; rfl
    | some d => obtain ⟨v, h1, _⟩ := i1 d q; rw [h1]; rfl
  · rename_i kvs
    cases dy <;> simp only at e <;> try (cases e; done)
    rw [Option.map_eq_some_iff] at e
    obtain ⟨k, hk, rfl⟩ := e
    obtain ⟨a, xs, rfl, ha, r⟩ := hx.dt l
    obtain ⟨b, ys, rfl, hb, rb⟩ := hy.tup l
    obtain ⟨i1, i2⟩ := r.val k
    have ey := toKeys_rd rb hk
    subst ey
    refine ⟨a, valV xs k, rfl, .inr ⟨xs, k, _, ha, rfl, hb, rfl⟩, ?_, i1⟩
    cases q : dVal kvs k with
    | none => rw [i2 q]; rfl
    | some d => obtain ⟨v, h1, _⟩ := i1 d q; rw [h1]; rfl
/-! x[i] -/
def rIxA (K : PySem.W.Frag) : V → V → Hp → VK → Prop := fun x y H Q => rIx K x y H Q ∨ ∃ a v, x = .ref a ∧ DGet H a y (some v) ∧ Q v H
theorem ix_dict {X : Cx} (hu : X.A.units + 1 < cLine) : IxR X (fun x y H Q => ∃ a v, x = .ref a ∧ DGet H a y (some v) ∧ Q v H) := by
  intro value slice pins s σ H x y v u Q I rx ry q hs
  obtain ⟨a, w, rfl, g, q⟩ := q
  cases rx
  exact PyProof.Rows.tail_any (dict_typeIs I g) slot_dict_getitem.lookup (d_getItem hu I g ry fun w' s' I' rw' => ⟨w, H, I', rw', q⟩) hs
theorem ix_all {X : Cx} (hu : X.A.units + 1 < cLine) : IxR X (rIxA X.K) := ix_seq.or (ix_dict hu)
theorem sOk_one {z : Str} {c : Nat} {i : Int} (h : sOk z = true) (q : atI z.cps.toList i = some c) : sOk ⟨#[c]⟩ = true := by
  obtain ⟨j, _, h2, _⟩ := atI_get q
  have hm : c ∈ z.cps.toList := List.mem_of_getElem? h2
  have h3 := Array.all_eq_true_iff_forall_mem.mp (sOk_cps h) c (Array.mem_toList_iff.mp hm)
  refine sOk_of (by show 1 ≤ LIM; decide) ?_
  simpa using h3
theorem s_ix : Sound2 Z (rIxA Z.K) opIx := by
  intro F H x y dx dy rr Q l hx hy ho q
  have dict : ∀ (o : Option D), dGet dx dy = some o → o.map RV.fz = some rr → rIxA Z.K x y H Q := fun o h1 h2 => by
    obtain ⟨a, r, rfl, g, _, k⟩ := dGet_rd l hx hy h1
    rw [Option.map_eq_some_iff] at h2
    obtain ⟨d, rfl, rfl⟩ := h2
    obtain ⟨v, rfl, rv⟩ := k d rfl
    exact .inr ⟨a, v, rfl, g, fin_fz l q rv⟩
  have dict' : (dGet dx dy).join.map RV.fz = some rr → rIxA Z.K x y H Q := fun h => by
    cases e : dGet dx dy with
    | none => rw [e] at h; cases h
    | some o => rw [e] at h; exact dict o e h
  cases dx with
  | lst xs =>
    cases dy with
    | int i =>
      simp only [opIx, Option.map_eq_some_iff] at ho
      obtain ⟨d, h1, rfl⟩ := ho
      obtain ⟨a, vs, rfl, ha, ra⟩ := hx.lst l
      obtain ⟨v, h2, rv⟩ := ra.atI h1
      exact .inl (.inl ⟨a, vs, i, v, rfl, hy.int, SqL.of ha, h2, fin_fz l q rv⟩)
    | _ => exact dict' ho
  | tup xs =>
    cases dy with
    | int i =>
      simp only [opIx, Option.map_eq_some_iff] at ho
      obtain ⟨d, h1, rfl⟩ := ho
      obtain ⟨a, vs, rfl, ha, ra⟩ := hx.tup l
      obtain ⟨v, h2, rv⟩ := ra.atI h1
      exact .inl (.inr (.inl ⟨a, vs, i, v, rfl, hy.int, SqT.of ha, h2, fin_fz l q rv⟩))
    | _ => exact dict' ho
  | str z =>
    cases dy with
    | int i =>
      simp only [opIx, Option.map_eq_some_iff] at ho
      obtain ⟨c, h1, rfl⟩ := ho
      exact .inl (.inr (.inr ⟨z, i, c, hx.str.1, hy.int, hx.str.2.1, h1, fin_fz l q (.str _ (sOk_one hx.str.2.2 h1))⟩))
    | _ => exact dict' ho
  | _ => exact dict' ho
/-! slices -/
def rSlA (K : PySem.W.Frag) : V → Option Int → Option Int → Hp → VK → Prop := fun x lo hi H Q => rSlL K x lo hi H Q ∨ rSlS x lo hi H Q ∨ L2.rSlA K x lo hi H Q
theorem sl_all {X : Cx} : SlR X (rSlA X.K) := sl_list.or (sl_str.or sl_tupA)
theorem sOk_cut {z : Str} {lo hi : Option Int} (h : sOk z = true) : sOk (cutS z lo hi) = true := by
  refine sOk_of (Nat.le_trans (cutS_length z lo hi) (sOk_len h)) ?_
  rw [Array.all_eq_true_iff_forall_mem]
  intro c hc
  have hc' : c ∈ (cutS z lo hi).cps.toList := Array.mem_toList_iff.mpr hc
  have h2 : c ∈ z.cps.toList := List.mem_of_mem_drop (List.mem_of_mem_take (show c ∈ ((z.cps.toList.drop (HT.sIx z.length 0 lo)).take (HT.sIx z.length z.length hi - HT.sIx z.length 0 lo)) from hc'))
  exact Array.all_eq_true_iff_forall_mem.mp (sOk_cps h) c (Array.mem_toList_iff.mp h2)
theorem s_dCut {F H : Hp} {x : V} {dx : D} {lo hi : Option Int} {rr : RV} {Q : VK} (l : Same F H) (hx : RdV Z F H x dx) (ho : dCut dx lo hi = some rr) (q : ∀ v F' H', Gr F H F' H' → NwOk Z H F' H' v rr → Q v H') : rSlA Z.K x lo hi H Q := by
  cases dx <;> simp only [dCut] at ho <;> cases ho
  · exact .inr (.inl ⟨_, hx.str.1, hx.str.2.1, fin_fz l q (.str _ (sOk_cut hx.str.2.2))⟩)
  · obtain ⟨a, vs, rfl, ha, ra⟩ := hx.lst l
    refine .inl ⟨a, vs, rfl, SqL.of ha, fin_lst l q ?_⟩
    unfold cutV cutD
    rw [ra.length]
    exact (ra.drop _).take _
  · have hx' : Rp Z F x (.tup _) := hx.elim id fun ⟨_, _, _, t⟩ => t.elim
    obtain ⟨a, vs, rfl, ha, ra⟩ := hx.tup l
    rename_i dd
    have rc : RpA Z F (cutV vs lo hi) (cutD dd lo hi) := by
      unfold cutV cutD
      rw [ra.length]
      exact (ra.drop _).take _
    refine .inr (.inr ⟨a, vs, rfl, SqT.of ha, fun w => ?_, fun _ p hp => q (.ref p) _ _ (Gr.layF l hp) (.tup upd_same (rc.mono (same_upd (none_le l hp))))⟩)
    have e : ∀ ds : List D, ds.length = vs.length → cutD ds lo hi = ds := fun ds hl => by
      unfold cutD
      rw [hl, w.1, w.2, List.drop_zero, Nat.sub_zero, ← hl, List.take_length]
    rw [e _ ra.length.symm] at q
    exact fin_fz l q hx'
end

section
variable {ca : Str → Option Addr} {W : WX} {X : Cx} {a b c : Expr} {fa fb fc : EV} {pos p2 : Pos}
theorem ev_ix (ha : Ev ca W X a fa) (hb : Ev ca W X b fb) (hu : X.A.units + 1 < cLine) (hs : PlainIx b := by intro _ _; rfl) : Ev ca W X (.Subscript a b pos) (eOp2 opIx fa fb) := PE_imp (pe_ix (ix_all hu) ha hb hs) fun _ _ _ => two s_ix
theorem ev_cut (ha : Ev ca W X a fa) (hb : Ev ca W X b fb) (hc : Ev ca W X c fc) : Ev ca W X (.Subscript a (.Slice (some b) (some c) none p2) pos) (eOp3 opCut fa (eI fb) (eI fc)) :=
  PE_imp (pe_slice sl_all ha (po_some hb) (po_some hc)) fun σ H Q ⟨N, F, e, S, P⟩ => by
    refine bindL S P fun x F1 H1 e1 ra f1 S1 R1 P1 => ?_
    obtain ⟨F2, f2, S2, h2⟩ := RvOk.hold S1 R1
    refine bindI S2 (PostE.shift P1 f2) fun i F3 H3 e3 f3 T3 P3 => ⟨i, rfl, ?_⟩
    refine bindI T3 P3 fun j F4 H4 e4 f4 S4 P4 => ⟨j, rfl, ?_⟩
    cases d1 : S3.rd ra e4 with
    | none => rw [d1] at P4; exact P4.elim
    | some dx =>
      rw [d1] at P4
      dsimp only [S3.rd] at P4
      cases d3 : opCut dx (.int i) (.int j) with
      | none => rw [d3] at P4; exact P4.elim
      | some rr =>
        rw [d3] at P4
        exact s_dCut (Z := zw ca X) S4.le (((h2.mono f3).mono f4).rd S4 d1) d3 (op_end S4 P4)
theorem ev_cutLo (ha : Ev ca W X a fa) (hb : Ev ca W X b fb) : Ev ca W X (.Subscript a (.Slice (some b) none none p2) pos) (eOp2 opCutLo fa (eI fb)) :=
  PE_imp (pe_slice sl_all ha (po_some hb) po_none) fun σ H Q ⟨N, F, e, S, P⟩ => by
    refine bindL S P fun x F1 H1 e1 ra f1 S1 R1 P1 => ?_
    obtain ⟨F2, f2, S2, h2⟩ := RvOk.hold S1 R1
    refine bindI S2 (PostE.shift P1 f2) fun i F3 H3 e3 f3 T3 P3 => ⟨i, rfl, ?_⟩
    cases d1 : S3.rd ra e3 with
    | none => rw [d1] at P3; exact P3.elim
    | some dx =>
      rw [d1] at P3
      dsimp only [S3.rd] at P3
      cases d3 : opCutLo dx (.int i) with
      | none => rw [d3] at P3; exact P3.elim
      | some rr =>
        rw [d3] at P3
        exact s_dCut (Z := zw ca X) T3.le ((h2.mono f3).rd T3 d1) d3 (op_end T3 P3)
theorem ev_cutHi (ha : Ev ca W X a fa) (hb : Ev ca W X b fb) : Ev ca W X (.Subscript a (.Slice none (some b) none p2) pos) (eOp2 opCutHi fa (eI fb)) :=
  PE_imp (pe_slice sl_all ha po_none (po_some hb)) fun σ H Q ⟨N, F, e, S, P⟩ => by
    refine bindL S P fun x F1 H1 e1 ra f1 S1 R1 P1 => ?_
    obtain ⟨F2, f2, S2, h2⟩ := RvOk.hold S1 R1
    refine bindI S2 (PostE.shift P1 f2) fun i F3 H3 e3 f3 T3 P3 => ⟨i, rfl, ?_⟩
    cases d1 : S3.rd ra e3 with
    | none => rw [d1] at P3; exact P3.elim
    | some dx =>
      rw [d1] at P3
      dsimp only [S3.rd] at P3
      cases d3 : opCutHi dx (.int i) with
      | none => rw [d3] at P3; exact P3.elim
      | some rr =>
        rw [d3] at P3
        exact s_dCut (Z := zw ca X) T3.le ((h2.mono f3).rd T3 d1) d3 (op_end T3 P3)
end
end S3

/-! B6: in, built-ins by name, methods of built-in types, displays, tests. -/
namespace S3
open PySem L2
/-! ### in, not in -/
section
variable {Z : Wd}
theorem flat_eqv {x y : V} {dx dy : D} {F H : Hp} (hx : RdV Z F H x dx) (hy : RdV Z F H y dy) (ox : okD 0 dx = true) (oy : okD 0 dy = true) : flatV x = true ∧ flatV y = true ∧ eqV y x = PyData.eqv (py 0 dy) (py 0 dx) := by
  cases dx <;> simp [okD] at ox <;> cases dy <;> simp [okD] at oy
  all_goals (first | rw [hx.non] | rw [hx.bl] | rw [hx.int] | rw [hx.str.1])
  all_goals (first | rw [hy.non] | rw [hy.bl] | rw [hy.int] | rw [hy.str.1])
  all_goals (refine ⟨rfl, rfl, ?_⟩; simp [eqV, py, PyData.eqv])
theorem flat_any {x : V} {dx : D} {F H : Hp} (hx : RdV Z F H x dx) (ox : okD 0 dx = true) : ∀ {ys : List V} {ds : List D}, RpA Z F ys ds → ds.all (okD 0) = true → ys.all flatV = true ∧ inV x ys = ds.any fun z => PyData.eqv (py 0 z) (py 0 dx)
  | _, _, .nil, _ => ⟨rfl, rfl⟩
  | _, _, @RpA.cons _ _ v vs d ds h r, q => by
    rw [List.all_cons, Bool.and_eq_true] at q
    obtain ⟨i1, i2⟩ := flat_any hx ox r q.2
    obtain ⟨_, j1, j2⟩ := flat_eqv hx (y := v) (dy := d) (F := F) (H := H) (.inl h) ox q.1
    refine ⟨by rw [List.all_cons, j1, i1]; rfl, ?_⟩
    unfold inV at i2 ⊢
    rw [List.any_cons, List.any_cons, j2, i2]
def rInA (K : PySem.W.Frag) (P : Program) (w : World) : V → V → Hp → VK → Prop := fun x y H Q => rInD K x y H Q ∨ rIn K false x y H Q ∨
  (∃ (c : Nat) (z : Str), x = .str ⟨#[c]⟩ ∧ y = .str z ∧ Q (.bl (decide (c ∈ z.cps.toList))) H) ∨ rSInG P w false x y H Q ∨ ∃ a o, y = .ref a ∧ DGet H a x o ∧ Q (.bl o.isSome) H
def rNInA (K : PySem.W.Frag) (P : Program) (w : World) : V → V → Hp → VK → Prop := fun x y H Q => rNotInD K x y H Q ∨ rIn K true x y H Q ∨
  (∃ (c : Nat) (z : Str), x = .str ⟨#[c]⟩ ∧ y = .str z ∧ Q (.bl (!decide (c ∈ z.cps.toList))) H) ∨ rSInG P w true x y H Q ∨ ∃ a o, y = .ref a ∧ DGet H a x o ∧ Q (.bl (!o.isSome)) H
theorem op_inDict {X : Cx} (hu : X.A.units + 1 < cLine) : OpR X (compareOp .In) (fun x y H Q => ∃ a o, y = .ref a ∧ DGet H a x o ∧ Q (.bl o.isSome) H) := by
  intro pins s σ H x y v u Q I rx ry q
  obtain ⟨a, o, rfl, g, q⟩ := q
  cases ry
  exact d_in hu I g rx fun s' I' => ⟨.bl _, H, I', rfl, q⟩
theorem op_ninDict {X : Cx} (hu : X.A.units + 1 < cLine) : OpR X (compareOp .NotIn) (fun x y H Q => ∃ a o, y = .ref a ∧ DGet H a x o ∧ Q (.bl (!o.isSome)) H) := by
  intro pins s σ H x y v u Q I rx ry q
  obtain ⟨a, o, rfl, g, q⟩ := q
  cases ry
  exact d_notIn hu I g rx fun s' I' => ⟨.bl _, H, I', rfl, q⟩
theorem op_inA {X : Cx} (hu : X.A.units + 65 < cLine) : OpR X (compareOp .In) (rInA X.K X.prog X.w) :=
  (op_inD hu).or (op_in_seq.or (op_in_sign.or (or_sinG.or (op_inDict (by omega)))))
theorem op_ninA {X : Cx} (hu : X.A.units + 65 < cLine) : OpR X (compareOp .NotIn) (rNInA X.K X.prog X.w) :=
  (op_notInD hu).or (op_notIn_seq.or (op_notIn_sign.or (or_snotinG.or (op_ninDict (by omega)))))
/-- the cases of in -/
theorem in_cases {F H : Hp} {x y : V} {dx dy : D} {b : Bool} (l : Same F H) (hx : RdV Z F H x dx) (hy : RdV Z F H y dy) (h : dIn dx dy = some b) :
    (∃ d ds, Dp Z.K H x d ∧ Dp Z.K H y (.list ds) ∧ SeqAt.shaped d = true ∧ SeqAt.shaped (.list ds) = true ∧ b = ds.any fun z => PyData.eqv z d) ∨
    (∃ p xs, y = .ref p ∧ (SqL Z.K H p xs ∨ SqT Z.K H p xs) ∧ flatV x = true ∧ xs.all flatV = true ∧ b = inV x xs) ∨
    (∃ (c : Nat) (z : Str), x = .str ⟨#[c]⟩ ∧ y = .str z ∧ b = decide (c ∈ z.cps.toList)) ∨
    (∃ (k : Key) (a : Addr) (ks : List Key), x = kV k ∧ y = V.ref a ∧ H a = some (SetGO Z.P Z.w a ks) ∧ b = kIn k ks) ∨ ∃ a o, y = .ref a ∧ DGet H a x o ∧ b = o.isSome := by
  have dict : (dGet dy dx).map (·.isSome) = some b → ∃ a o, y = .ref a ∧ DGet H a x o ∧ b = o.isSome := fun h => by
    rw [Option.map_eq_some_iff] at h
    obtain ⟨o, h1, rfl⟩ := h
    obtain ⟨a, r, rfl, g, e, _⟩ := dGet_rd l hy hx h1
    exact ⟨a, r, rfl, g, e.symm⟩
  unfold dIn at h
  split at h
  · rename_i ys
    split at h
    · rename_i q
      rw [Bool.and_eq_true] at q
      cases h
      have oy : okD 6 (.lst ys) = true := q.2
      have s2 := shaped_py l (n := 6) (by decide) oy hy
      have d2 := dp_of rfl 6 l oy hy
      have e6 : ∀ d : D, okD 5 d = true → py 6 d = py 5 d := by
        have gen : ∀ (n : Nat) (d : D), okD n d = true → py (n + 1) d = py n d := by
          intro n
          induction n with
          | zero => intro d o; cases d <;> simp [okD] at o <;> rfl
          | succ n ih =>
            intro d o
            cases d <;> simp only [okD] at o <;> try (cases o; done)
            all_goals try rfl
            all_goals (simp only [py]; congr 1; exact List.map_congr_left fun z hz => ih z (List.all_eq_true.mp o z hz))
        exact gen 5
      refine .inl ⟨_, ys.map (py 5), dp_of rfl 6 l q.1 hx, d2, shaped_py l (by decide) q.1 hx, s2, ?_⟩
      rw [List.any_map]
      have q2 := q.2
      clear d2 s2 hy oy q dict
      induction ys with
      | nil => rfl
      | cons d ds ih =>
        rw [List.all_cons, Bool.and_eq_true] at q2
        rw [List.any_cons, List.any_cons, ih q2.2, e6 d q2.1]
        rfl
    · cases h
  · rename_i ys
    split at h
    · rename_i q
      rw [Bool.and_eq_true] at q
      cases h
      obtain ⟨a, xs, rfl, ha, ra⟩ := hy.tup l
      obtain ⟨j1, j2⟩ := flat_any hx q.1 ra q.2
      have j3 : flatV x = true := (flat_eqv hx hx q.1 q.1).1
      exact .inr (.inl ⟨a, xs, rfl, .inr (SqT.of ha), j3, j1, j2.symm⟩)
    · cases h
  · rename_i z
    split at h
    · rename_i c
      split at h
      · rename_i hc
        cases h
        have ec : c = ⟨#[c.cps.getD 0 0]⟩ := by
          obtain ⟨cs⟩ := c
          obtain ⟨l⟩ := cs
          cases l with
          | nil => cases hc
          | cons k r =>
            cases r with
            | nil => rfl
            | cons k2 r => cases hc
        refine .inr (.inr (.inl ⟨c.cps.getD 0 0, z, ?_, hy.str.1, rfl⟩))
        rw [hx.str.1, ← ec]
      · cases h
    · cases h
  · rename_i ks
    rw [Option.map_eq_some_iff] at h
    obtain ⟨k, hk, rfl⟩ := h
    obtain ⟨a, rfl, ha, _⟩ := hy.st l
    exact .inr (.inr (.inr (.inl ⟨k, a, _, toKey_rd hx hk, rfl, ha, rfl⟩)))
  · exact .inr (.inr (.inr (.inr (dict h))))
theorem s_in : Sound2 Z (rInA Z.K Z.P Z.w) opIn := by
  intro F H x y dx dy rr Q l hx hy ho q
  obtain ⟨b, h, rfl⟩ := bRV_some ho
  rcases in_cases l hx hy h with ⟨d, ds, h1, h2, h3, h4, rfl⟩ | ⟨p, xs, h1, h2, h3, h4, rfl⟩ | ⟨c, z, h1, h2, rfl⟩ | ⟨k, a, ks, h1, h2, h3, rfl⟩ | ⟨a, o, h1, h2, rfl⟩
  · exact .inl ⟨d, ds, h1, h2, h3, h4, fin_bl l q⟩
  · exact .inr (.inl ⟨p, xs, h1, h2, h3, h4, fin_bl l q⟩)
  · exact .inr (.inr (.inl ⟨c, z, h1, h2, fin_bl l q⟩))
  · exact .inr (.inr (.inr (.inl ⟨k, a, ks, h1, h2, h3, fin_bl l q⟩)))
  · exact .inr (.inr (.inr (.inr ⟨a, o, h1, h2, fin_bl l q⟩)))
theorem s_nin : Sound2 Z (rNInA Z.K Z.P Z.w) opNotIn := by
  intro F H x y dx dy rr Q l hx hy ho q
  obtain ⟨b, h, rfl⟩ := bRV_some ho
  rw [Option.map_eq_some_iff] at h
  obtain ⟨b, h, rfl⟩ := h
  rcases in_cases l hx hy h with ⟨d, ds, h1, h2, h3, h4, rfl⟩ | ⟨p, xs, h1, h2, h3, h4, rfl⟩ | ⟨c, z, h1, h2, rfl⟩ | ⟨k, a, ks, h1, h2, h3, rfl⟩ | ⟨a, o, h1, h2, rfl⟩
  · exact .inl ⟨d, ds, h1, h2, h3, h4, fin_bl l q⟩
  · exact .inr (.inl ⟨p, xs, h1, h2, h3, h4, fin_bl l q⟩)
  · exact .inr (.inr (.inl ⟨c, z, h1, h2, fin_bl l q⟩))
  · exact .inr (.inr (.inr (.inl ⟨k, a, ks, h1, h2, h3, fin_bl l q⟩)))
  · exact .inr (.inr (.inr (.inr ⟨a, o, h1, h2, fin_bl l q⟩)))

/-! ### built-ins, by what they give -/
theorem s_int : Sound1 Z (fun x H Q => (∃ i, [x] = [V.int i] ∧ Q (.int i) H) ∨ ∃ k, [x] = [V.bl k] ∧ Q (.int (if k then 1 else 0)) H) opInt := by
  intro F H x dx rr Q l hx ho q
  cases dx <;> simp only [opInt] at ho <;> cases ho
  · exact .inr ⟨_, by rw [hx.bl], fin_int l q⟩
  · exact .inl ⟨_, by rw [hx.int], fin_int l q⟩
theorem s_abs : Sound1 Z (fun x H Q => ∃ i, [x] = [V.int i] ∧ Q (.int (if i < 0 then -i else i)) H) opAbs := by
  intro F H x dx rr Q l hx ho q
  cases dx <;> simp only [opAbs] at ho <;> cases ho
  exact ⟨_, by rw [hx.int], fin_int l q⟩
def rLenA (K : PySem.W.Frag) (P : Program) (w : World) : List V → Hp → VK → Prop := fun xs H Q => (∃ x n, xs = [x] ∧ LenV K x H n ∧ Q (.int n) H) ∨ (∃ a kvs, xs = [V.ref a] ∧ L2.Rd H a (.dK kvs) ∧ Q (.int kvs.length) H) ∨
  ∃ a ks, xs = [V.ref a] ∧ H a = some (SetGO P w a ks) ∧ Q (.int ks.length) H
theorem call_lenR {X : Cx} : CallR X (.builtin "len") (fun xs H Q => ∃ a kvs, xs = [V.ref a] ∧ L2.Rd H a (.dK kvs) ∧ Q (.int kvs.length) H) := by
  intro pins s σ H xs us Q I r h
  obtain ⟨a, kvs, rfl, ha, q⟩ := h
  obtain ⟨u, rfl, ru⟩ := vals1 r
  cases ru
  exact d_len I ha fun t s' I' => ⟨.int kvs.length, H, I', ⟨t, rfl⟩, q⟩
theorem call_lenA {X : Cx} : CallR X (.builtin "len") (rLenA X.K X.prog X.w) := call_len.or (call_lenR.or call_lenSetG)
theorem s_len : Sound1 Z (fun x => rLenA Z.K Z.P Z.w [x]) opLen := by
  intro F H x dx rr Q l hx ho q
  cases dx <;> simp only [opLen] at ho <;> try (cases ho; done)
  · cases ho
    rw [hx.str.1]
    exact .inl ⟨_, _, rfl, ⟨hx.str.2.1, rfl⟩, fin_int l q⟩
  · cases ho
    obtain ⟨a, xs, rfl, ha, ra⟩ := hx.lst l
    refine .inl ⟨_, _, rfl, .inl ⟨xs, SqL.of ha, rfl⟩, ?_⟩
    rw [ra.length]
    exact fin_int l q
  · cases ho
    obtain ⟨a, xs, rfl, ha, ra⟩ := hx.tup l
    refine .inl ⟨_, _, rfl, .inr ⟨xs, SqT.of ha, rfl⟩, ?_⟩
    rw [ra.length]
    exact fin_int l q
  · cases ho
    obtain ⟨a, xs, rfl, ha, ra⟩ := hx.dk l
    refine .inr (.inl ⟨_, _, rfl, ha, ?_⟩)
    rw [ra.length]
    exact fin_int l q
  · cases ho
    obtain ⟨a, rfl, ha, _⟩ := hx.st l
    exact .inr (.inr ⟨_, _, rfl, ha, fin_int l q⟩)
theorem toBools_rd {F : Hp} : ∀ {ds : List D} {vs : List V} {bs : List Bool}, RpA Z F vs ds → toBools ds = some bs → vs = bs.map V.bl
  | [], _, _, .nil, e => by simp only [toBools] at e; cases e; rfl
  | d :: ds, _, _, .cons h r, e => by
    cases d <;> simp only [toBools] at e <;> try (cases e; done)
    rw [Option.map_eq_some_iff] at e
    obtain ⟨bs, h1, rfl⟩ := e
    rw [toBools_rd r h1, RdV.bl (H := fun _ => none) (.inl h)]
    rfl
theorem s_all : Sound1 Z (fun x => rAll Z.K [x]) opAll := by
  intro F H x dx rr Q l hx ho q
  cases dx <;> simp only [opAll] at ho <;> try (cases ho; done)
  rw [Option.map_eq_some_iff] at ho
  obtain ⟨bs, h1, rfl⟩ := ho
  obtain ⟨a, xs, rfl, ha, ra⟩ := hx.lst l
  have e := toBools_rd ra h1
  subst e
  exact ⟨a, bs, rfl, SqL.of ha, fin_bl l q⟩
theorem s_list : Sound1 Z (fun x H Q => ∃ p ys, [x] = [V.ref p] ∧ (SqL Z.K H p ys ∨ SqT Z.K H p ys) ∧ ∀ l, H l = none → Q (.ref l) (upd H l (.lst ys))) opList := by
  intro F H x dx rr Q l hx ho q
  cases dx <;> simp only [opList] at ho <;> cases ho
  · obtain ⟨a, xs, rfl, ha, ra⟩ := hx.lst l
    exact ⟨a, xs, rfl, .inl (SqL.of ha), fin_lst l q ra⟩
  · obtain ⟨a, xs, rfl, ha, ra⟩ := hx.tup l
    exact ⟨a, xs, rfl, .inr (SqT.of ha), fin_lst l q ra⟩
theorem s_tuple : Sound1 Z (fun x H Q => ∃ p ys, [x] = [V.ref p] ∧ ((SqL Z.K H p ys ∧ ∀ l, H l = none → Q (.ref l) (upd H l (.tup ys))) ∨ (SqT Z.K H p ys ∧ Q (.ref p) H))) opTuple := by
  intro F H x dx rr Q l hx ho q
  cases dx <;> simp only [opTuple] at ho <;> cases ho
  · obtain ⟨a, xs, rfl, ha, ra⟩ := hx.lst l
    exact ⟨a, xs, rfl, .inl ⟨SqL.of ha, fin_tup l q ra⟩⟩
  · rcases hx with hx | ⟨_, _, _, t⟩
    · obtain ⟨a, xs, rfl, ha, ra⟩ := RdV.tup (H := H) l (.inl hx)
      exact ⟨a, xs, rfl, .inr ⟨SqT.of ha, fin_fz l q hx⟩⟩
    · exact t.elim
theorem s_isty {T : String} (k1 : kitB "NoneType" T = some (subT "NoneType" T)) (k2 : kitB "bool" T = some (subT "bool" T)) (k3 : kitB "int" T = some (subT "int" T)) (k4 : kitB "str" T = some (subT "str" T))
    (k5 : kitB "list" T = some (subT "list" T)) (k6 : kitB "tuple" T = some (subT "tuple" T)) (k7 : kitB "dict" T = some (subT "dict" T)) : Sound1 Z (fun x => rIsi Z.K [x, .ty T]) (opIsTy T) := by
  intro F H x dx rr Q l hx ho q
  obtain ⟨b, h, rfl⟩ := bRV_some ho
  unfold isTy at h
  cases dx <;> simp only [tyN, Option.map_some, Option.map_none] at h <;> cases h
  · rw [hx.non]; exact ⟨_, _, _, _, _, rfl, .ty T, .base .non, kit_ty k1, fin_bl l q⟩
  · rw [hx.bl]; exact ⟨_, _, _, _, _, rfl, .ty T, .base (.bl _), kit_ty k2, fin_bl l q⟩
  · rw [hx.int]; exact ⟨_, _, _, _, _, rfl, .ty T, .base (.int _), kit_ty k3, fin_bl l q⟩
  · rw [hx.str.1]; exact ⟨_, _, _, _, _, rfl, .ty T, .base (.str _), kit_ty k4, fin_bl l q⟩
  · obtain ⟨a, xs, rfl, ha, _⟩ := hx.lst l; exact ⟨_, _, _, _, _, rfl, .ty T, .base (.lst ha), kit_ty k5, fin_bl l q⟩
  · obtain ⟨a, xs, rfl, ha, _⟩ := hx.tup l; exact ⟨_, _, _, _, _, rfl, .ty T, .base (.tup ha), kit_ty k6, fin_bl l q⟩
  · obtain ⟨a, xs, rfl, ha, _⟩ := hx.dk l; exact ⟨_, _, _, _, _, rfl, .ty T, ha.elim (fun z => .base (.dK z)) (fun ⟨o, z⟩ => .fDict z), kit_ty k7, fin_bl l q⟩
theorem sOk_int (i : Int) (h : i.natAbs.log2 < 1900) : sOk ((toString i : String) : Str) = true := by
  refine sOk_of (Nat.le_trans (PyProof.Rows.int_text_len_1921 (by omega)) (by decide)) ?_
  rw [Array.all_eq_true_iff_forall_mem]
  intro c hc
  have hc' : c ∈ (Str.ofString (toString i)).cps.toList := Array.mem_toList_iff.mpr hc
  rw [PyProof.Rows.signs_ofString] at hc'
  obtain ⟨ch, _, rfl⟩ := List.mem_map.mp hc'
  have := ch.valid
  simp only [decide_eq_true_eq]
  have h2 : ch.toNat < 1114112 := by
    have h3 := ch.valid
    simp only [UInt32.isValidChar, Nat.isValidChar] at h3
    show ch.val.toNat < _
    omega
  exact h2
theorem s_str : Sound1 Z (fun x H Q => (∃ a, [x] = [V.str a] ∧ Q (.str a) H) ∨ ∃ i, [x] = [V.int i] ∧ i.natAbs.log2 < 1920 ∧ Q (.str (toString i)) H) opStr := by
  intro F H x dx rr Q l hx ho q
  cases dx <;> simp only [opStr] at ho <;> try (cases ho; done)
  · split at ho
    · rename_i h
      cases ho
      exact .inr ⟨_, by rw [hx.int], by omega, fin_fz l q (.str _ (sOk_int _ h))⟩
    · cases ho
  · cases ho
    exact .inl ⟨_, by rw [hx.str.1], fin_fz l q (.str _ hx.str.2.2)⟩
end

section
variable {ca : Str → Option Addr} {W : WX} {X : Cx} {a b : Expr} {fa fb : EV} {pos p : Pos}
/-- f(a), f a built-in function, type -/
theorem ev_call1 {id : String} {n : Str} {r : List V → Hp → VK → Prop} {o : D → Option RV} (hc : CallR X (.builtin id) r) (hs : Sound1 (zw ca X) (fun x => r [x]) o) (hm : X.mg n = none) (ha : Ev ca W X a fa) (hg : Gl X n := by rfl)
    (hv : bootBuiltins n = some (.builtin id) := by decide +kernel) (hn : n ≠ "__name__" := by decide) (hdb : (n == ("__debug__" : Str)) = false := by decide)
    (he : starEach [a] X.env = (false, eval a X.env) :: starEach [] X.env := by rfl) : Ev ca W X (.Call (.Name n p) [a] [] pos) (eOp1 o fa) :=
  PE_imp (pe_callB hc hg hm hv (pa_cons ha pa_nil he) hn hdb he (by rfl)) fun _ _ _ => one hs
theorem ev_type1 {T : String} {n : Str} {r : List V → Hp → VK → Prop} {o : D → Option RV} (hc : CallR X (.type T) r) (hs : Sound1 (zw ca X) (fun x => r [x]) o) (hm : X.mg n = none) (ha : Ev ca W X a fa) (hg : Gl X n := by rfl)
    (hv : bootBuiltins n = some (.type T) := by decide +kernel) (hn : n ≠ "__name__" := by decide) (hdb : (n == ("__debug__" : Str)) = false := by decide)
    (he : starEach [a] X.env = (false, eval a X.env) :: starEach [] X.env := by rfl) : Ev ca W X (.Call (.Name n p) [a] [] pos) (eOp1 o fa) :=
  PE_imp (pe_callTy hc hg hm hv (pa_cons ha pa_nil he) hn hdb he (by rfl)) fun _ _ _ => one hs
/-- isinstance(a, T) -/
theorem ev_isty {T : String} {n : Str} {p2 : Pos} {o : D → Option RV} (hs : Sound1 (zw ca X) (fun x => rIsi X.K [x, .ty T]) o) (hm : X.mg "isinstance" = none) (hmT : X.mg n = none) (ha : Ev ca W X a fa) (hg : Gl X "isinstance" := by rfl) (hgT : Gl X n := by rfl)
    (hvT : bootBuiltins n = some (.type T) := by decide +kernel) (hn : n ≠ "__name__" := by decide) (hdb : (n == ("__debug__" : Str)) = false := by decide)
    (he : starEach [a, .Name n p2] X.env = (false, eval a X.env) :: starEach [.Name n p2] X.env := by rfl) : Ev ca W X (.Call (.Name "isinstance" p) [a, .Name n p2] [] pos) (eOp1 o fa) :=
  PE_imp (pe_callB call_isi hg hm (by decide +kernel) (pa_cons ha (pa_cons (pe_bltn (v := .ty T) hgT hmT hvT rfl hn hdb) pa_nil) he) (by decide) (by decide) he (by rfl)) fun _ _ _ => one hs
end
end S3

/-! B7: argument lists, displays, changes of one's own lists, tests. -/
namespace S3
open PySem L2
section
variable {Z : Wd} {F F' H H' : Hp} {N : En} {σ : St} {e e' : Env} {v x y : V} {W : WX}
/-! ### argument lists -/
theorem tAv_nil {Q : List V → Hp → Prop} (h : tAv Z W aNil σ H Q) : tNil σ H Q := by
  obtain ⟨N, F, e, S, P⟩ := h
  exact P [] F H (Same.refl _) S .nil
theorem tAv_keep {f : EV} {g : AV} {Q : List V → Hp → Prop} (h : tAv Z W (aKeep f g) σ H Q) : tCons (tEv Z W f) (tAv Z W g) σ H Q := by
  obtain ⟨N, F, e, S, P⟩ := h
  unfold aKeep at P
  refine ⟨N, F, e, S, ?_⟩
  cases q : f e with
  | no => rw [q] at P; exact P
  | ex z e1 => rw [q] at P; exact P
  | ok r e1 =>
    rw [q] at P
    dsimp only at P
    intro x F1 H1 f1 S1 R1
    cases q1 : stl r e1 with
    | none => rw [q1] at P; exact P.elim
    | some p =>
      obtain ⟨d, e2⟩ := p
      rw [q1] at P
      dsimp only at P
      obtain ⟨F2, f2, S2, r2⟩ := RvOk.stl S1 R1 q1
      refine ⟨N, F2, e2, S2, ?_⟩
      cases q2 : g e2 with
      | no => rw [q2] at P; exact P
      | ex z e3 => rw [q2] at P; exact PostA.shift P (f1.trans f2)
      | ok rs e3 =>
        rw [q2] at P
        exact fun vs F3 H3 f3 S3 h3 => P (x :: vs) F3 H3 ((f1.trans f2).trans f3) S3 (.cons (r := .fz d) (r2.mono f3) h3)
theorem tAv_cons {f : EV} {g : AV} {Q : List V → Hp → Prop} (h : tAv Z W (aCons f g) σ H Q) : tCons (tEv Z W f) (tAv Z W g) σ H Q := by
  obtain ⟨N, F, e, S, P⟩ := h
  unfold aCons at P
  refine ⟨N, F, e, S, ?_⟩
  cases q : f e with
  | no => rw [q] at P; exact P
  | ex z e1 => rw [q] at P; exact P
  | ok r e1 =>
    rw [q] at P
    dsimp only at P
    intro x F1 H1 f1 S1 R1
    obtain ⟨F2, f2, S2, r2⟩ := RvOk.hold S1 R1
    refine ⟨N, F2, e1, S2, ?_⟩
    cases q2 : g e1 with
    | no => rw [q2] at P; exact P
    | ex z e3 => rw [q2] at P; exact PostA.shift P (f1.trans f2)
    | ok rs e3 =>
      rw [q2] at P
      exact fun vs F3 H3 f3 S3 h3 => P (x :: vs) F3 H3 ((f1.trans f2).trans f3) S3 (.cons (r2.mono f3) h3)
theorem fzs_rd : ∀ {rs : List RV} {vs : List V} {ds : List D}, Helds Z F σ vs rs → fzs rs = some ds → RpA Z F vs ds
  | [], _, _, .nil, h => by simp only [fzs] at h; cases h; exact .nil
  | r :: rs, _, _, .cons a k, h => by
    cases r <;> simp only [fzs] at h <;> try (cases h; done)
    rw [Option.map_eq_some_iff] at h
    obtain ⟨ds, h1, rfl⟩ := h
    exact .cons a (fzs_rd k h1)
/-- a display -/
theorem tEv_disp {mk : List D → RV} {a : AV} {Q : VK} {R : List V → Hp → Prop}
    (hR : ∀ F H vs ds, Same F H → RpA Z F vs ds → vs.length ≤ sizeLine → (∀ v F' H', Gr F H F' H' → NwOk Z H F' H' v (mk ds) → Q v H') → R vs H) (h : tEv Z W (eDisp mk a) σ H Q) : tAv Z W a σ H R := by
  obtain ⟨N, F, e, S, P⟩ := h
  unfold eDisp at P
  refine ⟨N, F, e, S, ?_⟩
  cases q : a e with
  | no => rw [q] at P; exact P
  | ex z e1 => rw [q] at P; exact P
  | ok rs e1 =>
    rw [q] at P
    dsimp only at P
    intro vs F1 H1 f1 S1 h1
    cases q1 : fzs rs with
    | none => rw [q1] at P; exact P.elim
    | some ds =>
      rw [q1] at P
      dsimp only at P
      split at P
      · rename_i hz
        have r := fzs_rd h1 q1
        exact hR F1 H1 vs ds S1.le r (by rw [sizeLine_eq, r.length]; exact hz) (op_end S1 (PostE.shift P f1))
      · exact P.elim
theorem disp_lst {a : AV} {Q : VK} (h : tEv Z W (eDisp mkLst a) σ H Q) : tLst (tAv Z W a) σ H Q := tEv_disp (fun F H vs ds l r z q => ⟨z, fin_lst l q r⟩) h
theorem disp_tup {a : AV} {Q : VK} (h : tEv Z W (eDisp mkTup a) σ H Q) : tTup (tAv Z W a) σ H Q := tEv_disp (fun F H vs ds l r z q => ⟨z, fin_tup l q r⟩) h

/-! ### one's own object at a slot is changed -/
theorem mine_own {k : D → Bool} {s : Sl} (h : mine k s = true) : s.own = true ∧ ∃ d, s.val = some d ∧ k d = true := by
  cases s <;> simp only [mine] at h <;> first | exact ⟨rfl, _, rfl, h⟩ | cases h
theorem own_at (S : SOk Z N F H σ e) {i : Nat} {s : Sl} {d : D} (h : S3.slot e i = s) (ho : s.own = true) (hd : s.val = some d) : ∃ a, σ[i]? = some (some (.ref a)) ∧ F a = none ∧ Top Z F H a d ∧ e[i]? = some s := by
  have ne : s ≠ .no := fun z => by rw [z] at ho; cases ho
  have g := slot_get h ne
  obtain ⟨o, h1, h2⟩ := S.slot i s g
  cases s <;> simp only [Sl.own] at ho <;> try (cases ho; done)
  all_goals (simp only [Sl.val, Option.some.injEq] at hd; subst hd; obtain ⟨a, rfl, f, _, t⟩ := h2; exact ⟨a, h1, f, t, g⟩)
/-- a change: it reads the kept arguments, and lays another object at a -/
def SoundM (Z : Wd) (r : V → List V → Hp → VK → Prop) (k : D → Bool) (op : D → List D → Option (D × RV)) : Prop :=
  ∀ F H a vs d ds d' rr Q, Same F H → F a = none → Top Z F H a d → RpA Z F vs ds → k d = true → op d ds = some (d', rr) →
    (∀ v F' o, Same F F' → Same F' H → (∀ b u, H b = some u → F b = none → F' b = none) → Top Z F' (upd H a o) a d' → (∃ d, rr = .fz d ∧ Rp Z F' v d) → Q v (upd H a o)) → r (.ref a) vs H Q
theorem tEv_mut {i : Nat} {k : D → Bool} {op : D → List D → Option (D × RV)} {a : AV} {Q : VK} {r : V → List V → Hp → VK → Prop} {ty : V → Hp → Prop} (hs : SoundM Z r k op)
    (hty : ∀ F H p d, Top Z F H p d → k d = true → ty (.ref p) H) (h : tEv Z W (eMut i k op a) σ H Q) : tVar i σ H fun x H1 => ty x H1 ∧ tAv Z W a σ H1 fun vs H2 => r x vs H2 Q := by
  obtain ⟨N, F, e, S, P⟩ := h
  unfold eMut at P
  split at P
  · rename_i hm
    obtain ⟨ho, d0, hd0, hk0⟩ := mine_own hm
    obtain ⟨p, h1, f0, t0, g0⟩ := own_at S rfl ho hd0
    refine ⟨.ref p, h1, hty F H p d0 t0 hk0, N, F, e, S, ?_⟩
    cases q : a e with
    | no => rw [q] at P; exact P
    | ex z e1 => rw [q] at P; exact P
    | ok rs e1 =>
      rw [q] at P
      dsimp only at P
      intro vs F1 H1 f1 S1 hl
      cases q1 : fzs rs with
      | none => rw [q1] at P; exact P.elim
      | some ds =>
        rw [q1] at P
        dsimp only at P
        split at P
        · rename_i hm1
          obtain ⟨ho1, d1, hd1, hk1⟩ := mine_own hm1
          obtain ⟨p1, h2, f2, t2, g2⟩ := own_at S1 rfl ho1 hd1
          rw [h1] at h2
          cases h2
          rw [hd1] at P
          dsimp only at P
          cases q3 : op d1 ds with
          | none => rw [q3] at P; exact P.elim
          | some pr =>
            obtain ⟨d', rr⟩ := pr
            rw [q3] at P
            dsimp only at P
            refine hs F1 H1 p vs d1 ds d' rr Q S1.le f2 t2 (fzs_rd hl q1) hk1 q3 fun v F' o f' l' nf0 t' ⟨d2, er, rv⟩ => ?_
            have nf : ∀ b u, H1 b = some u → NT u → F1 b = none → F' b = none := fun b u hb _ hn => nf0 b u hb hn
            subst er
            have S2 : SOk Z N F' H1 σ e1 := S1.grow f' (Same.refl _) l' nf
            have S3' := S2.write g2 ho1 h1 t'
            exact P v F' _ (f1.trans f') S3' rv
        · exact P.elim
  · exact P.elim
theorem m_append : SoundM Z rAppend isLst mAppend := by
  intro F H a vs d ds d' rr Q l fa t r hk ho q
  cases d <;> simp only [isLst] at hk <;> try (cases hk; done)
  rename_i xs
  obtain ⟨ys, ha, ra⟩ := t
  cases r with
  | nil => simp only [mAppend] at ho; cases ho
  | cons h1 h2 =>
    cases h2 with
    | cons _ _ => simp only [mAppend] at ho; cases ho
    | nil =>
      simp only [mAppend] at ho
      split at ho
      · rename_i hz
        cases ho
        refine ⟨a, ys, _, rfl, rfl, ha, by rw [sizeLine_eq, ra.length]; exact hz, ?_⟩
        exact q .non F _ (Same.refl _) l (fun _ _ _ h => h) ⟨_, upd_same, ra.append (.cons h1 .nil)⟩ ⟨_, rfl, .non⟩
      · cases ho
theorem ty_lst {K : PySem.W.Frag} : ∀ F H p d, Top Z F H p d → isLst d = true → tyV K "list" (.ref p) H := by
  intro F H p d t k
  cases d <;> simp only [isLst] at k <;> try (cases k; done)
  obtain ⟨xs, h, _⟩ := t
  exact .inl ⟨rfl, xs, SqL.of h⟩

/-! ### tests -/
theorem tTv_rd {p : D → Option Bool} {f : EV} {Q : Bool → Hp → Prop} {R : VK} (h : tTv Z W (tRd p f) σ H Q) (hR : ∀ F H v d b, Same F H → RdV Z F H v d → p d = some b → Q b H → R v H) : tEv Z W f σ H R := by
  obtain ⟨N, F, e, S, P⟩ := h
  unfold tRd at P
  refine ⟨N, F, e, S, ?_⟩
  cases q : f e with
  | no => rw [q] at P; exact P
  | ex z e1 => rw [q] at P; exact P
  | ok r e1 =>
    rw [q] at P
    dsimp only at P
    intro x F1 H1 f1 S1 R1
    obtain ⟨F2, f2, S2, r2⟩ := RvOk.hold S1 R1
    cases d1 : S3.rd r e1 with
    | none => rw [d1] at P; exact P.elim
    | some d =>
      rw [d1] at P
      dsimp only at P
      cases d2 : p d with
      | none => rw [d2] at P; exact P.elim
      | some b =>
        rw [d2] at P
        exact hR F2 H1 x d b S2.le (r2.rd S2 d1) d2 (P F2 H1 (f1.trans f2) S2)
theorem test_val {f : EV} {Q : Bool → Hp → Prop} (h : tTv Z W (tVal f) σ H Q) : tB (tEv Z W f) σ H Q :=
  tTv_rd h fun F H v d b l r hp q => by
    cases d <;> simp only [asBool] at hp <;> cases hp
    exact ⟨_, r.bl, q⟩
theorem tru_rd {K : PySem.W.Frag} (hK : Z.K = K) {F H : Hp} {v : V} {d : D} {b : Bool} (l : Same F H) (r : RdV Z F H v d) (h : truth d = some b) : TruV K v H b := by
  cases d <;> simp only [truth] at h <;> cases h
  · rw [r.non]; rfl
  · rw [r.bl]; rfl
  · rw [r.int]; rfl
  · rw [r.str.1]
    refine ⟨r.str.2.1, ?_⟩
    rename_i x
    by_cases c : x.length = 0
    · rw [c]; rfl
    · rw [bne_iff_ne.mpr c, bne_iff_ne.mpr (by omega)]
  · obtain ⟨a, xs, rfl, ha, ra⟩ := r.lst l
    refine .inl ⟨xs, SqL.of ha, ?_⟩
    cases ra <;> rfl
  · obtain ⟨a, xs, rfl, ha, ra⟩ := r.tup l
    refine .inr (.inl ⟨xs, SqT.of ha, ?_⟩)
    cases ra <;> rfl
theorem test_tru {K : PySem.W.Frag} (hK : Z.K = K) {f : EV} {Q : Bool → Hp → Prop} (h : tTv Z W (tTru f) σ H Q) : tEv Z W f σ H fun x H1 => ∃ k, TruV K x H1 k ∧ Q k H1 :=
  tTv_rd h fun F H v d b l r hp q => ⟨b, tru_rd hK l r hp, q⟩
/-- a first test, then what the rest asks -/
theorem bindT {f : TV} {g : Bool → TV} {Q R : Bool → Hp → Prop} {h0 : Env → RT} (S : SOk Z N F H σ e) (e0 : h0 e = match f e with | .ok b e1 => g b e1 | .ex x e1 => .ex x e1 | .no => .no) (P : PostT Z N F σ W Q (h0 e))
    (K : ∀ b F1 H1 e1, Same F F1 → SOk Z N F1 H1 σ e1 → PostT Z N F1 σ W Q (g b e1) → R b H1) : tTv Z W f σ H R := by
  rw [e0] at P
  refine ⟨N, F, e, S, ?_⟩
  cases q : f e with
  | no => rw [q] at P; exact P
  | ex z e1 => rw [q] at P; exact P
  | ok b e1 => rw [q] at P; exact fun F1 H1 f1 S1 => K b F1 H1 e1 f1 S1 (PostT.shift (r := g b e1) P f1)
theorem test_and {f g : TV} {Q : Bool → Hp → Prop} (h : tTv Z W (tAndS f g) σ H Q) : tAnd (tTv Z W f) (tTv Z W g) σ H Q := by
  obtain ⟨N, F, e, S, P⟩ := h
  refine bindT (g := fun b => if b then g else fun e => .ok false e) S (by unfold tAndS; cases f e with | ok b e1 => cases b <;> rfl | ex x e1 => rfl | no => rfl) P fun b F1 H1 e1 f1 S1 P1 => ?_
  cases b with
  | true => exact iteT ⟨N, F1, e1, S1, P1⟩
  | false => exact iteF (P1 F1 H1 (Same.refl _) S1)
theorem test_or {f g : TV} {Q : Bool → Hp → Prop} (h : tTv Z W (tOrS f g) σ H Q) : tOr (tTv Z W f) (tTv Z W g) σ H Q := by
  obtain ⟨N, F, e, S, P⟩ := h
  refine bindT (g := fun b => if b then fun e => .ok true e else g) S (by unfold tOrS; cases f e with | ok b e1 => cases b <;> rfl | ex x e1 => rfl | no => rfl) P fun b F1 H1 e1 f1 S1 P1 => ?_
  cases b with
  | true => exact iteT (P1 F1 H1 (Same.refl _) S1)
  | false => exact iteF ⟨N, F1, e1, S1, P1⟩
theorem test_not {f : TV} {Q : Bool → Hp → Prop} (h : tTv Z W (tNotS f) σ H Q) : tNot (tTv Z W f) σ H Q := by
  obtain ⟨N, F, e, S, P⟩ := h
  exact bindT (g := fun b e => .ok (!b) e) S (by unfold tNotS; cases f e with | ok b e1 => rfl | ex x e1 => rfl | no => rfl) P fun b F1 H1 e1 f1 S1 P1 => P1 F1 H1 (Same.refl _) S1
/-- x and y, x or y, not x as values -/
theorem and_rd {K : PySem.W.Frag} (hK : Z.K = K) {f g : EV} {Q : VK} (h : tEv Z W (eAnd f g) σ H Q) : tAndT K (tEv Z W f) (tEv Z W g) σ H Q := by
  obtain ⟨N, F, e, S, P⟩ := h
  refine bindL S P fun x F1 H1 e1 r f1 S1 R1 P1 => ?_
  have rr := fun d => RvOk.rd (d := d) S1 R1
  cases d1 : S3.rd r e1 with
  | none => rw [d1] at P1; exact P1.elim
  | some d =>
    rw [d1] at P1
    dsimp only at P1
    cases d2 : truth d with
    | none => rw [d2] at P1; exact P1.elim
    | some b =>
      rw [d2] at P1
      refine ⟨b, tru_rd hK S1.le (rr d d1) d2, ?_⟩
      cases b with
      | true => exact iteT ⟨N, F1, e1, S1, P1⟩
      | false => exact iteF (P1 x F1 H1 (Same.refl _) S1 R1)
theorem or_rd {K : PySem.W.Frag} (hK : Z.K = K) {f g : EV} {Q : VK} (h : tEv Z W (eOr f g) σ H Q) : tOrT K (tEv Z W f) (tEv Z W g) σ H Q := by
  obtain ⟨N, F, e, S, P⟩ := h
  refine bindL S P fun x F1 H1 e1 r f1 S1 R1 P1 => ?_
  have rr := fun d => RvOk.rd (d := d) S1 R1
  cases d1 : S3.rd r e1 with
  | none => rw [d1] at P1; exact P1.elim
  | some d =>
    rw [d1] at P1
    dsimp only at P1
    cases d2 : truth d with
    | none => rw [d2] at P1; exact P1.elim
    | some b =>
      rw [d2] at P1
      refine ⟨b, tru_rd hK S1.le (rr d d1) d2, ?_⟩
      cases b with
      | true => exact iteT (P1 x F1 H1 (Same.refl _) S1 R1)
      | false => exact iteF ⟨N, F1, e1, S1, P1⟩
end

section
variable {ca : Str → Option Addr} {W : WX} {X : Cx} {a b c : Expr} {es rest : List Expr} {fa fb fc : EV} {ga : AV} {ta tb : TV} {pos p : Pos}
theorem av_nil : Av ca W X [] aNil := PA_imp pa_nil fun _ _ _ => tAv_nil
theorem av_keep (ha : Ev ca W X a fa) (hr : Av ca W X es ga) (hs : starEach (a :: es) X.env = (false, eval a X.env) :: starEach es X.env := by rfl) : Av ca W X (a :: es) (aKeep fa ga) := PA_imp (pa_cons ha hr hs) fun _ _ _ => tAv_keep
theorem av_cons (ha : Ev ca W X a fa) (hr : Av ca W X es ga) (hs : starEach (a :: es) X.env = (false, eval a X.env) :: starEach es X.env := by rfl) : Av ca W X (a :: es) (aCons fa ga) := PA_imp (pa_cons ha hr hs) fun _ _ _ => tAv_cons
theorem ev_lst (h : Av ca W X es ga) : Ev ca W X (.List es pos) (eDisp mkLst ga) := PE_imp (pe_lst h) fun _ _ _ => disp_lst
theorem ev_tup {k : Nat} (h : Av ca W X es ga) : Ev ca W X (.Tuple es k pos) (eDisp mkTup ga) := PE_imp (pe_tup h) fun _ _ _ => disp_tup
/-- x.append(a), x a slot -/
theorem ev_append {i : Nat} {x : Str} {px apos : Pos} (hx : PE X (.Name x px) (tVar i)) (ha : Av ca W X [a] ga)
    (hbase : attributeBase (.Name x px) "append" X.env (eval (.Name x px) X.env) = eval (.Name x px) X.env := by rfl)
    (hline : (apos.endLine == pos.line) = true := by rfl) (hs : starEach [a] X.env = (false, eval a X.env) :: starEach [] X.env := by rfl) : Ev ca W X (.Call (.Attribute (.Name x px) "append" apos) [a] [] pos) (eMut i isLst mAppend ga) :=
  PE_imp (pe_bm PySem.F.plainAttrs_list PySem.F.slot_list_append PySem.F.type_list_append mt_append hx ha hbase (by rw [hs]; rfl) hline hs (by rfl)) fun _ _ _ => tEv_mut m_append ty_lst
/-! tests -/
theorem tv_tru (h : Ev ca W X a fa) (he : ∀ whole, isTrue a X.env whole = (do let v ← whole; standAt a.pos; holding [v] (truthy v)) := by intro _; rfl) : Tv ca W X a (tTru fa) := PT_imp (pt_truth h he) fun _ _ _ => test_tru rfl
theorem tv_cmp {op : CmpOp} {r : V → V → Hp → VK → Prop} {o : D → D → Option RV} (ho : OpR X (compareOp op) r) (hs : Sound2 (zw ca X) r o) (ha : Ev ca W X a fa) (hb : Ev ca W X b fb) (hm : behindInMarks op b = false) : Tv ca W X (.Compare a [op] [b] pos) (tVal (eOp2 o fa fb)) :=
  PT_imp (pt_cmpR ho ha hb hm) fun σ H Q h => two hs (Q := fun x H' => ∃ k, x = .bl k ∧ Q k H') (test_val h)
theorem tv_not (h : Tv ca W X a ta) : Tv ca W X (.UnaryOp .Not a pos) (tNotS ta) := PT_imp (pt_not h) fun _ _ _ => test_not
theorem wv_and1 (h : Tv ca W X a ta) : PW X (.BoolOp .And [a] pos) (tTv (zw ca X) W ta) := pw_and1 h
theorem wv_or1 (h : Tv ca W X a ta) : PW X (.BoolOp .Or [a] pos) (tTv (zw ca X) W ta) := pw_or1 h
theorem wv_and (ha : Tv ca W X a ta) (hb : PW X (.BoolOp .And (b :: rest) pos) (tTv (zw ca X) W tb)) : PW X (.BoolOp .And (a :: b :: rest) pos) (tTv (zw ca X) W (tAndS ta tb)) := PW_imp (pw_and ha hb) fun _ _ _ => test_and
theorem wv_or (ha : Tv ca W X a ta) (hb : PW X (.BoolOp .Or (b :: rest) pos) (tTv (zw ca X) W tb)) : PW X (.BoolOp .Or (a :: b :: rest) pos) (tTv (zw ca X) W (tOrS ta tb)) := PW_imp (pw_or ha hb) fun _ _ _ => test_or
theorem tv_w {e : Expr} (h : PW X e (tTv (zw ca X) W ta)) : Tv ca W X e ta := h.pt
theorem ev_one {op : BoolOp} (ha : Ev ca W X a fa) : Ev ca W X (.BoolOp op [a] pos) fa := pe_one ha
theorem ev_and (ha : Ev ca W X a fa) (hb : Ev ca W X (.BoolOp .And (b :: rest) pos) fb) : Ev ca W X (.BoolOp .And (a :: b :: rest) pos) (eAnd fa fb) := PE_imp (pe_andT ha hb) fun _ _ _ => and_rd rfl
theorem ev_or (ha : Ev ca W X a fa) (hb : Ev ca W X (.BoolOp .Or (b :: rest) pos) fb) : Ev ca W X (.BoolOp .Or (a :: b :: rest) pos) (eOr fa fb) := PE_imp (pe_orT ha hb) fun _ _ _ => or_rd rfl
end
end S3

/-! B8: statements. -/
namespace S3
open PySem L2
section
variable {Z : Wd} {F F' H H' : Hp} {N : En} {σ : St} {e e' : Env} {v x y : V} {W : WX} {E : Ends}
/-- an expression, then what the rest of the statement asks -/
theorem bindS {f : EV} {k : RV → SV} {R : VK} (S : SOk Z N F H σ e) (P : PostS Z N F W E (sE f k e))
    (K : ∀ x F1 H1 e1 r, Same F F1 → SOk Z N F1 H1 σ e1 → RvOk Z N F1 H1 σ e1 x r → PostS Z N F1 W E (k r e1) → R x H1) : tEv Z W f σ H R := by
  unfold sE at P
  refine ⟨N, F, e, S, ?_⟩
  cases q : f e with
  | no => rw [q] at P; exact P
  | ex z e1 => rw [q] at P; exact fun cls d F1 H1 f1 S1 x => P cls d F1 H1 σ f1 S1 x
  | ok r e1 => rw [q] at P; exact fun x F1 H1 f1 S1 R1 => K x F1 H1 e1 r f1 S1 R1 (PostS.shift (r := k r e1) P f1)
theorem bindST {f : TV} {g : Bool → SV} {R : Bool → Hp → Prop} {h0 : RS} (S : SOk Z N F H σ e) (e0 : h0 = match f e with | .ok b e1 => g b e1 | .ex x e1 => .ex x e1 | .no => .no) (P : PostS Z N F W E h0)
    (K : ∀ b F1 H1 e1, Same F F1 → SOk Z N F1 H1 σ e1 → PostS Z N F1 W E (g b e1) → R b H1) : tTv Z W f σ H R := by
  rw [e0] at P
  refine ⟨N, F, e, S, ?_⟩
  cases q : f e with
  | no => rw [q] at P; exact P
  | ex z e1 => rw [q] at P; exact fun cls d F1 H1 f1 S1 x => P cls d F1 H1 σ f1 S1 x
  | ok b e1 => rw [q] at P; exact fun F1 H1 f1 S1 => K b F1 H1 e1 f1 S1 (PostS.shift (r := g b e1) P f1)

theorem st_nx (h : tSv Z W sNx E σ H) : tNext E σ H := by
  obtain ⟨N, F, e, S, P⟩ := h
  exact P F H σ (Same.refl _) S
theorem st_seq {f g : SV} (h : tSv Z W (sSeq f g) E σ H) : tSeq (tSv Z W f) (tSv Z W g) E σ H := by
  obtain ⟨N, F, e, S, P⟩ := h
  unfold sSeq sBind at P
  refine ⟨N, F, e, S, ?_⟩
  cases q : f e with
  | no => rw [q] at P; exact P
  | nx e1 => rw [q] at P; exact fun F1 H1 σ1 f1 S1 => ⟨N, F1, e1, S1, PostS.shift P f1⟩
  | rt r e1 => rw [q] at P; exact P
  | bk e1 => rw [q] at P; exact P
  | ct e1 => rw [q] at P; exact P
  | ex x e1 => rw [q] at P; exact P
theorem st_expr {f : EV} (h : tSv Z W (sExpr f) E σ H) : tDrop (tEv Z W f) E σ H := by
  obtain ⟨N, F, e, S, P⟩ := h
  exact bindS S P fun x F1 H1 e1 r f1 S1 R1 P1 => P1 F1 H1 σ (Same.refl _) S1
theorem st_ret {f : EV} (h : tSv Z W (sRet f) E σ H) : tRet (tEv Z W f) E σ H := by
  obtain ⟨N, F, e, S, P⟩ := h
  refine bindS S P fun x F1 H1 e1 r f1 S1 R1 P1 => ?_
  cases r with
  | fz d => exact P1 x F1 H1 σ (Same.refl _) S1 R1
  | nw d => exact P1 x F1 H1 σ (Same.refl _) S1 R1
  | «at» i =>
    obtain ⟨h1, s, h2, h3⟩ := R1
    have q : S3.slot e1 i = s := slot_of h2
    unfold ret at P1
    dsimp only at P1
    rw [q] at P1
    obtain ⟨o, g1, g2⟩ := S1.slot i s h2
    rw [h1] at g1
    cases g1
    cases s with
    | fz d =>
      obtain ⟨w, e1, r⟩ := g2
      cases e1
      exact P1 x F1 H1 σ (Same.refl _) S1 r
    | ow d =>
      obtain ⟨a, e1, fa, na, t⟩ := g2
      cases e1
      refine P1 _ F1 H1 σ (Same.refl _) (S1.forget i) ⟨a, rfl, fa, na, t, fun j s' hj l => ?_⟩
      rcases get_set hj with ⟨_, rfl, _⟩ | ⟨ne, hj'⟩
      · exact l
      · exact S1.sep i j _ s' a h2 hj' ne rfl (by rw [h1]; rfl) l
    | dp g d =>
      cases g with
      | false => exact P1.elim
      | true =>
        obtain ⟨v, R, e1, t, new⟩ := g2
        cases e1
        refine P1 _ F1 H1 σ (Same.refl _) (S1.forget i) ⟨R, t, fun b m => (new b m).elim id (fun z => absurd z.1 (by decide)), fun b m j s' hj l => ?_⟩
        rcases get_set hj with ⟨_, rfl, _⟩ | ⟨ne, hj'⟩
        · exact l
        · exact S1.sep i j _ s' b h2 hj' ne rfl (by rw [h1]; exact ⟨_, R, rfl, t, m⟩) l
    | _ => exact P1.elim
  | dn d => exact P1 x F1 H1 σ (Same.refl _) S1 R1
theorem st_if {c : TV} {f g : SV} (h : tSv Z W (sIf c f g) E σ H) : tIfS (tTv Z W c) (tSv Z W f) (tSv Z W g) E σ H := by
  obtain ⟨N, F, e, S, P⟩ := h
  refine bindST (g := fun b => if b then f else g) S (by unfold sIf; cases c e with | ok b e1 => cases b <;> rfl | ex x e1 => rfl | no => rfl) P fun b F1 H1 e1 f1 S1 P1 => ?_
  cases b with
  | true => exact iteT ⟨N, F1, e1, S1, P1⟩
  | false => exact iteF ⟨N, F1, e1, S1, P1⟩
/-- a value is given to a slot -/
theorem set_ok {i : Nat} {r : RV} (S : SOk Z N F H σ e) (R : RvOk Z N F H σ e v r) (h : setS i r e = some e') : ∃ F', Same F F' ∧ SOk Z N F' H (σ.set i (some v)) e' := by
  cases r with
  | fz d => cases h; exact ⟨F, Same.refl _, S.set R⟩
  | nw d =>
    cases h
    obtain ⟨a, rfl, fa, na, t, ap⟩ := R
    exact ⟨F, Same.refl _, S.setOw fa na t ap⟩
  | «at» j =>
    simp only [setS, Option.map_eq_some_iff] at h
    obtain ⟨⟨d, e1⟩, h1, rfl⟩ := h
    obtain ⟨F', f, S', r⟩ := RvOk.stl S R h1
    exact ⟨F', f, S'.set r⟩
  | dn d =>
    cases h
    obtain ⟨Q, t, new, ap⟩ := R
    exact ⟨F, Same.refl _, S.setDp t (fun b m => .inl (new b m)) ap⟩
theorem st_set {i : Nat} {f : EV} (h : tSv Z W (sSet i f) E σ H) : tAsg (tEv Z W f) (gName i) E σ H := by
  obtain ⟨N, F, e, S, P⟩ := h
  refine bindS S P fun x F1 H1 e1 r f1 S1 R1 P1 => ?_
  cases q : setS i r e1 with
  | none => rw [q] at P1; exact P1.elim
  | some e2 =>
    rw [q] at P1
    obtain ⟨F2, f2, S2⟩ := set_ok S1 R1 q
    exact P1 F2 H1 _ f2 S2
/-! targets -/
def tgIx : Tg → List Nat
  | .one i => [i]
  | .tup is => is
/-- the slots but those at is are as they were -/
def Off (is : List Nat) (σ σ' : St) : Prop := σ'.length = σ.length ∧ ∀ j, j ∉ is → σ'[j]? = σ[j]?
theorem Off.set (i : Nat) (is : List Nat) (σ σ' : St) (o : Option V) (h : Off is (σ.set i o) σ') : Off (i :: is) σ σ' := by
  refine ⟨by rw [h.1, List.length_set], fun j hj => ?_⟩
  rw [List.mem_cons, not_or] at hj
  rw [h.2 j hj.2, List.getElem?_set_ne (Ne.symm hj.1)]
def TgOk (Z : Wd) (g : TG) (t : Tg) : Prop := ∀ (N : En) (F H : Hp) (σ : St) (e : Env) (v : V) (d : D) (e1 : Env) (Q : St → Hp → Prop), SOk Z N F H σ e → Rp Z F v d → tgt t d e = some e1 → (∀ σ', SOk Z N F H σ' e1 → Off (tgIx t) σ σ' → Q σ' H) → g v σ H Q
theorem tg_one {i : Nat} : TgOk Z (gName i) (.one i) := fun N F H σ e v d e1 Q S r h q => by
  cases h
  exact q _ (S.set r) (Off.set i [] _ _ _ ⟨rfl, fun _ _ => rfl⟩)
def TgsOk (Z : Wd) (g : TGs) (is : List Nat) : Prop := ∀ (N : En) (F H : Hp) (σ : St) (e : Env) (vs : List V) (ds : List D) (e1 : Env) (Q : St → Hp → Prop), SOk Z N F H σ e → RpA Z F vs ds → setAll is ds e = some e1 → (∀ σ', SOk Z N F H σ' e1 → Off is σ σ' → Q σ' H) → g vs σ H Q
theorem tgs_nil : TgsOk Z gNil [] := fun N F H σ e vs ds e1 Q S r h q => by
  cases r with
  | nil => cases h; exact ⟨rfl, q _ S ⟨rfl, fun _ _ => rfl⟩⟩
  | cons _ _ => cases h
theorem tgs_cons {i : Nat} {is : List Nat} {g : TGs} (k : TgsOk Z g is) : TgsOk Z (gCons (gName i) g) (i :: is) := fun N F H σ e vs ds e1 Q S r h q => by
  cases r with
  | nil => cases h
  | cons r1 r2 => exact ⟨_, _, rfl, k N F H _ _ _ _ e1 Q (S.set r1) r2 h fun σ' S' o => q σ' S' (Off.set i is _ _ _ o)⟩
theorem setAll_len : ∀ {is : List Nat} {ds : List D} {e e1 : Env}, setAll is ds e = some e1 → is.length = ds.length
  | [], [], _, _, _ => rfl
  | [], _ :: _, _, _, h => by cases h
  | _ :: _, [], _, _, h => by cases h
  | _ :: is, _ :: ds, _, _, h => congrArg Nat.succ (setAll_len (is := is) (ds := ds) h)
theorem tg_tup {is : List Nat} {g : TGs} {n : Nat} (k : TgsOk Z g is) (hn : n = is.length) {K : PySem.W.Frag} (hK : Z.K = K) : TgOk Z (gTup K n g) (.tup is) := fun N F H σ e v d e1 Q S r h q => by
  cases d <;> simp only [tgt] at h <;> try (cases h; done)
  obtain ⟨a, xs, rfl, ha, ra⟩ := RdV.tup (H := H) S.le (.inl r)
  exact ⟨a, xs, rfl, SqT.of ha, by rw [ra.length, ← setAll_len h, hn], k N F H σ e xs _ e1 Q S ra h q⟩
theorem st_unp {is : List Nat} {f : EV} {g : TG} (k : TgOk Z g (.tup is)) (h : tSv Z W (sUnp is f) E σ H) : tAsg (tEv Z W f) g E σ H := by
  obtain ⟨N, F, e, S, P⟩ := h
  refine bindS S P fun x F1 H1 e1 r f1 S1 R1 P1 => ?_
  cases q : stl r e1 with
  | none => rw [q] at P1; exact P1.elim
  | some pr =>
    obtain ⟨d, e2⟩ := pr
    rw [q] at P1
    cases d <;> try exact P1.elim
    rename_i ds
    dsimp only at P1
    cases q2 : setAll is ds e2 with
    | none => rw [q2] at P1; exact P1.elim
    | some e3 =>
      rw [q2] at P1
      obtain ⟨F2, f2, S2, r2⟩ := RvOk.stl S1 R1 q
      exact k N F2 H1 σ e2 x (.tup ds) e3 _ S2 r2 q2 fun σ' S3 _ => P1 F2 H1 σ' f2 S3

/-! ### loops -/
/-- the walker J gives the items ds, from F on -/
def WalkOk (Z : Wd) (N : En) (F : Hp) (J : It) (ds : List D) : Prop := ∀ F' H' σ e, SOk Z N F' H' σ e → Same F F' → ∀ i,
  (∀ d, ds[i]? = some d → J.go i H' ∧ ∀ x H2, J.yld i H' x H2 → ∃ F2, Gr F' H' F2 H2 ∧ Rp Z F2 x d) ∧ (ds.length ≤ i → J.stop i H')
theorem for_sound {J : It} {ds : List D} {tmp : List Nat} {t : Tg} {g : TG} {b : SV} (wk : WalkOk Z N F J ds) (tk : TgOk Z g t) (S : SOk Z N F H σ e) (P : PostS Z N F W E (forL tmp t b ds e)) :
    ∃ Wm : Nat → Nat → St → Hp → Prop, (∃ m, Wm 0 m σ H) ∧ ∀ i m σ H, Wm i m σ H →
      (J.stop i H ∧ E.nx σ H) ∨ (J.go i H ∧ ∃ Nx : St → Hp → Prop, (∀ σ' H', Nx σ' H' → ∃ m', m' < m ∧ Wm (i + 1) m' σ' H') ∧ ∀ x H', J.yld i H x H' → g x σ H' fun σ2 H2 => tSv Z W b { E with nx := Nx, ct := Nx, bk := E.nx } σ2 H2) := by
  refine ⟨fun i m σ H => m = ds.length - i ∧ i ≤ ds.length ∧ ∃ F' e', Same F F' ∧ SOk Z N F' H σ e' ∧ PostS Z N F' W E (forL tmp t b (ds.drop i) e'), ⟨ds.length, rfl, Nat.zero_le _, F, e, Same.refl _, S, P⟩, ?_⟩
  rintro i m σ H ⟨rfl, hi, F1, e1, f1, S1, P1⟩
  obtain ⟨w1, w2⟩ := wk F1 H σ e1 S1 f1 i
  by_cases hlt : i < ds.length
  · have ed : ds.drop i = ds[i] :: ds.drop (i + 1) := List.drop_eq_getElem_cons hlt
    have ei : ds[i]? = some ds[i] := List.getElem?_eq_getElem hlt
    rw [ed] at P1
    generalize ds[i] = d at P1 ei
    obtain ⟨go, yl⟩ := w1 d ei
    unfold forL at P1
    cases q : tgt t d e1 with
    | none => rw [q] at P1; exact P1.elim
    | some e2 =>
      rw [q] at P1
      dsimp only at P1
      refine .inr ⟨go, fun σ' H' => ∃ F' e', Same F F' ∧ SOk Z N F' H' σ' e' ∧ PostS Z N F' W E (forL tmp t b (ds.drop (i + 1)) e'), fun σ' H' ⟨F', e', f', S', P'⟩ => ⟨ds.length - (i + 1), by omega, rfl, hlt, F', e', f', S', P'⟩, fun x H2 hy => ?_⟩
      obtain ⟨F2, g2, r2⟩ := yl x H2 hy
      refine tk N F2 H2 σ e1 x d e2 _ (S1.gr g2) r2 q fun σ' S2 _ => ⟨N, F2, e2, S2, ?_⟩
      cases q2 : b e2 with
      | no => rw [q2] at P1; exact P1
      | nx e3 => rw [q2] at P1; exact fun F3 H3 σ3 f3 S3 => ⟨F3, _, (f1.trans g2.f).trans f3, S3.wipe tmp, PostS.shift P1 (g2.f.trans f3)⟩
      | ct e3 => rw [q2] at P1; exact fun F3 H3 σ3 f3 S3 => ⟨F3, _, (f1.trans g2.f).trans f3, S3.wipe tmp, PostS.shift P1 (g2.f.trans f3)⟩
      | bk e3 => rw [q2] at P1; exact fun F3 H3 σ3 f3 S3 => P1 F3 H3 σ3 (g2.f.trans f3) (S3.wipe tmp)
      | rt r e3 => rw [q2] at P1; exact fun v F3 H3 σ3 f3 => P1 v F3 H3 σ3 (g2.f.trans f3)
      | ex x e3 => rw [q2] at P1; exact fun c d' F3 H3 σ3 f3 => P1 c d' F3 H3 σ3 (g2.f.trans f3)
  · have e0 : ds.drop i = [] := List.drop_eq_nil_of_le (Nat.le_of_not_lt hlt)
    rw [e0] at P1
    exact .inl ⟨w2 (Nat.le_of_not_lt hlt), P1 F1 H σ (Same.refl _) S1⟩
/-- what is walked, settled -/
theorem walk_ok {r : RV} {d : D} (S : SOk Z N F H σ e) (R : RvOk Z N F H σ e v r) (h : walk r e = some (d, e')) :
    ∃ F', Same F F' ∧ SOk Z N F' H σ e' ∧ (Rp Z F' v d ∨ ∃ a, v = .ref a ∧ (∃ u, N.H a = some u) ∧ a ∉ N.M ∧ Top Z F' H a d) := by
  cases r with
  | fz x => cases h; exact ⟨F, Same.refl _, S, .inl R⟩
  | nw x =>
    cases h
    obtain ⟨F', f, S', r⟩ := RvOk.stl (e' := e) S R rfl
    exact ⟨F', f, S', .inl r⟩
  | «at» i =>
    have R' := R
    obtain ⟨h1, s, h2, h3⟩ := R
    have q : S3.slot e i = s := slot_of h2
    unfold walk at h
    dsimp only at h
    rw [q] at h
    cases s with
    | fz x =>
      cases h
      obtain ⟨F', f, S', r⟩ := RvOk.stl (e' := e) (d := d) S R' (by unfold S3.stl; dsimp only; rw [q])
      exact ⟨F', f, S', .inl r⟩
    | ow x =>
      cases h
      obtain ⟨F', f, S', r⟩ := RvOk.stl (e' := e.set i (.fz d)) (d := d) S R' (by unfold S3.stl; dsimp only; rw [q])
      exact ⟨F', f, S', .inl r⟩
    | bo x =>
      cases h
      obtain ⟨o, g1, w, rfl, g2⟩ := S.slot i _ h2
      rw [h1] at g1
      cases g1
      refine ⟨F, Same.refl _, S, ?_⟩
      rcases g2 with g2 | ⟨a, rfl, _, u, m, t⟩
      · exact .inl g2
      · exact .inr ⟨a, rfl, u, m, t⟩
    | no => cases h
    | mu x => cases h
    | dp g x =>
      cases g with
      | false => cases h
      | true =>
        cases h
        obtain ⟨F', f, S', r⟩ := RvOk.stl (e' := e.set i (.fz x.sbT)) (d := x.sbT) S R' (by unfold S3.stl; dsimp only; rw [q])
        exact ⟨F', f, S', .inl r⟩
  | dn x =>
    cases h
    obtain ⟨F', f, S', r⟩ := RvOk.stl (e' := e) S R rfl
    exact ⟨F', f, S', .inl r⟩
theorem walk_lst {K : PySem.W.Frag} (hK : Z.K = K) {ds : List D} (S : SOk Z N F H σ e) (h : Rp Z F v (.lst ds) ∨ ∃ a, v = .ref a ∧ (∃ u, N.H a = some u) ∧ a ∉ N.M ∧ Top Z F H a (.lst ds)) :
    ∃ a, v = .ref a ∧ (∃ xs, SqL K H a xs) ∧ WalkOk Z N F (Itl K a) ds := by
  obtain ⟨a, xs, rfl, ha, ra, st⟩ : ∃ a xs, v = .ref a ∧ H a = some (.lst xs) ∧ RpA Z F xs ds ∧ ∀ F' H' σ e, SOk Z N F' H' σ e → Same F F' → H' a = some (.lst xs) := by
    rcases h with h | ⟨a, rfl, ⟨u, hu⟩, m, xs, ha, ra⟩
    · cases h with
      | lst k r => exact ⟨_, _, rfl, S.le _ _ k, r, fun F' H' σ e S' f => S'.le _ _ (f _ _ k)⟩
    · have e1 := S.h0 a u hu m
      rw [ha] at e1
      cases e1
      exact ⟨a, xs, rfl, ha, ra, fun F' H' σ e S' f => S'.h0 a _ hu m⟩
  refine ⟨a, rfl, ⟨xs, SqL.of ha⟩, fun F' H' σ' e' S' f i => ⟨fun d hd => ?_, fun hl => ⟨xs, SqL.of (st _ _ _ _ S' f), by rw [ra.length]; exact hl⟩⟩⟩
  have hx := st _ _ _ _ S' f
  obtain ⟨w, hw, rw'⟩ := ra.get hd
  refine ⟨⟨xs, w, SqL.of hx, hw⟩, fun x H2 ⟨e2, y⟩ => ?_⟩
  subst e2
  have := y xs (SqL.of hx)
  rw [hw] at this
  cases this
  exact ⟨F', Gr.refl S'.le, rw'.mono f⟩
theorem walk_tup {K : PySem.W.Frag} (hK : Z.K = K) {ds : List D} (S : SOk Z N F H σ e) (h : Rp Z F v (.tup ds)) : ∃ a, v = .ref a ∧ (∃ xs, SqT K H a xs) ∧ WalkOk Z N F (Itt K a) ds := by
  cases h with
  | @tup a xs _ k ra =>
    refine ⟨a, rfl, ⟨xs, SqT.of (S.le _ _ k)⟩, fun F' H' σ' e' S' f i => ⟨fun d hd => ?_, fun hl => ⟨xs, SqT.of (S'.le _ _ (f _ _ k)), by rw [ra.length]; exact hl⟩⟩⟩
    have hx := S'.le _ _ (f _ _ k)
    obtain ⟨w, hw, rw'⟩ := ra.get hd
    refine ⟨⟨xs, w, SqT.of hx, hw⟩, fun x H2 ⟨e2, y⟩ => ?_⟩
    subst e2
    have := y xs (SqT.of hx)
    rw [hw] at this
    cases this
    exact ⟨F', Gr.refl S'.le, rw'.mono f⟩
theorem walk_scr {K : PySem.W.Frag} (hK : Z.K = K) {ds : List D} (S : SOk Z N F H σ e) (h : Rp Z F v (.scr ds)) : ∃ a, v = .ref a ∧ (∃ xs, SqL K H a xs) ∧ WalkOk Z N F (Itl K a) ds := by
  subst hK
  cases h with
  | @scr a xs _ k ra =>
    refine ⟨a, rfl, ⟨xs, Same.seq S.le k⟩, fun F' H' σ' e' S' f i => ⟨fun d hd => ?_, fun hl => ⟨xs, Same.seq S'.le (Same.seq f k), by rw [ra.length]; exact hl⟩⟩⟩
    have hx := Same.seq S'.le (Same.seq f k)
    obtain ⟨w, hw, rw'⟩ := ra.get hd
    refine ⟨⟨xs, w, hx, hw⟩, fun x H2 ⟨e2, y⟩ => ?_⟩
    subst e2
    have := y xs hx
    rw [hw] at this
    cases this
    exact ⟨F', Gr.refl S'.le, rw'.mono f⟩
theorem walk_str {x : Str} (hx : sOk x = true) : WalkOk Z N F (Its x) (x.cps.toList.map fun c => .str ⟨#[c]⟩) := fun F' H' σ' e' S' f i => by
  refine ⟨fun d hd => ?_, fun hl => ?_⟩
  · rw [List.getElem?_map, Option.map_eq_some_iff] at hd
    obtain ⟨c, hc, rfl⟩ := hd
    have hc' : x.cps[i]? = some c := by rw [← hc, Array.getElem?_toList]
    refine ⟨(Array.getElem?_eq_some_iff.mp hc').1, fun v H2 ⟨e2, c2, hc2, ev⟩ => ?_⟩
    subst e2 ev
    rw [hc'] at hc2
    cases hc2
    refine ⟨F', Gr.refl S'.le, .str _ (sOk_of (by show 1 ≤ LIM; decide) ?_)⟩
    have h3 := Array.all_eq_true_iff_forall_mem.mp (sOk_cps hx) c (Array.mem_of_getElem? hc')
    simpa using h3
  · rw [List.length_map, Array.length_toList] at hl
    exact hl
def PostW (Z : Wd) (N : En) (F : Hp) (σ : St) (W : WX) (R : It → Hp → Prop) : RW → Prop
  | .no => False
  | .ok xs e => ∀ J F' H', Same F F' → SOk Z N F' H' σ e → WalkOk Z N F' J xs → R J H'
  | .ex x e => ∀ cls d F' H', Same F F' → SOk Z N F' H' σ e → ExOk Z F' H' x cls d → W cls d σ H'
def tWv (Z : Wd) (W : WX) (w : WV) : TI := fun σ H R => ∃ N F e, SOk Z N F H σ e ∧ PostW Z N F σ W R (w e)
theorem PostW.shift {R : It → Hp → Prop} {r : RW} (h : PostW Z N F σ W R r) (s : Same F F') : PostW Z N F' σ W R r := by
  cases r with
  | no => exact h
  | ok r e => exact fun J F2 H2 s2 => h J F2 H2 (s.trans s2)
  | ex x e => exact fun c d F2 H2 s2 => h c d F2 H2 (s.trans s2)
/-- what a for, a comprehension may walk -/
def iAny (K : PySem.W.Frag) (te : TE) : TI := fun σ H R => iList K te σ H R ∨ iTup K te σ H R ∨ iStr te σ H R
theorem PI_or {X : Cx} {tg iter : Expr} {w1 w2 : TI} (h1 : PI X tg iter w1) (h2 : PI X tg iter w2) : PI X tg iter (fun σ H R => w1 σ H R ∨ w2 σ H R) := ⟨fun p s σ H R I q => by
  rcases q with q | q
  · exact h1.run p s σ H R I q
  · exact h2.run p s σ H R I q⟩
theorem PI_imp {X : Cx} {tg iter : Expr} {w1 w2 : TI} (h1 : PI X tg iter w1) (i : ∀ σ H R, w2 σ H R → w1 σ H R) : PI X tg iter w2 := ⟨fun p s σ H R I q => h1.run p s σ H R I (i σ H R q)⟩
theorem pi_any {X : Cx} {tg iter : Expr} {te : TE} (h : PE X iter te) : PI X tg iter (iAny X.K te) := PI_or (pi_list h) (PI_or (pi_tup h) (pi_str h))
theorem wv_any_rd {K : PySem.W.Frag} (hK : Z.K = K) {f : EV} {R : It → Hp → Prop} (h : tWv Z W (wAny f) σ H R) : iAny K (tEv Z W f) σ H R := by
  obtain ⟨N, F, e, S, P⟩ := h
  unfold wAny wE at P
  cases q : f e with
  | no => rw [q] at P; exact P.elim
  | ex z e1 =>
    rw [q] at P
    refine .inl ⟨N, F, e, S, ?_⟩
    rw [q]
    exact fun cls d F1 H1 f1 S1 x => P cls d F1 H1 f1 S1 x
  | ok r e0 =>
    rw [q] at P
    dsimp only at P
    cases q1 : walk r e0 with
    | none => rw [q1] at P; exact P.elim
    | some pr =>
      obtain ⟨d, e1⟩ := pr
      rw [q1] at P
      dsimp only at P
      cases q2 : items d with
      | none => rw [q2] at P; exact P.elim
      | some xs =>
        rw [q2] at P
        dsimp only at P
        have h : ∀ J F2 H2, Same F F2 → SOk Z N F2 H2 σ e1 → WalkOk Z N F2 J xs → R J H2 := P
        cases d <;> simp only [items] at q2 <;> cases q2
        · refine .inr (.inr ⟨N, F, e, S, ?_⟩)
          rw [q]
          intro v F1 H1 f1 S1 R1
          obtain ⟨F2, f2, S2, h2⟩ := walk_ok S1 R1 q1
          rcases h2 with h2 | ⟨_, _, _, _, t⟩
          · have hs := RdV.str (H := H1) (.inl h2)
            exact ⟨_, hs.1, h _ F2 H1 (f1.trans f2) S2 (walk_str hs.2.2)⟩
          · exact t.elim
        · refine .inl ⟨N, F, e, S, ?_⟩
          rw [q]
          intro v F1 H1 f1 S1 R1
          obtain ⟨F2, f2, S2, h2⟩ := walk_ok S1 R1 q1
          obtain ⟨a, e1, h3, w⟩ := walk_lst hK S2 h2
          exact ⟨a, e1, h3, h _ F2 H1 (f1.trans f2) S2 w⟩
        · refine .inr (.inl ⟨N, F, e, S, ?_⟩)
          rw [q]
          intro v F1 H1 f1 S1 R1
          obtain ⟨F2, f2, S2, h2⟩ := walk_ok S1 R1 q1
          rcases h2 with h2 | ⟨_, _, _, _, t⟩
          · obtain ⟨a, e1, h3, w⟩ := walk_tup hK S2 h2
            exact ⟨a, e1, h3, h _ F2 H1 (f1.trans f2) S2 w⟩
          · exact t.elim
        · refine .inl ⟨N, F, e, S, ?_⟩
          rw [q]
          intro v F1 H1 f1 S1 R1
          obtain ⟨F2, f2, S2, h2⟩ := walk_ok S1 R1 q1
          rcases h2 with h2 | ⟨_, _, _, _, t⟩
          · obtain ⟨a, e1, h3, w⟩ := walk_scr hK S2 h2
            exact ⟨a, e1, h3, h _ F2 H1 (f1.trans f2) S2 w⟩
          · exact t.elim
/-- an int, then what the walk asks -/
theorem bindWI {f : EV} {k : RV → WV} {R : It → Hp → Prop} {R' : VK} (S : SOk Z N F H σ e) (P : PostW Z N F σ W R (wE (eI f) k e))
    (K : ∀ i F1 H1 e1, Same F F1 → SOk Z N F1 H1 σ e1 → PostW Z N F1 σ W R (k (.fz (.int i)) e1) → R' (.int i) H1) : tEv Z W f σ H R' := by
  unfold wE eI eBind at P
  refine ⟨N, F, e, S, ?_⟩
  cases q : f e with
  | no => rw [q] at P; exact P
  | ex z e1 => rw [q] at P; exact P
  | ok r e1 =>
    rw [q] at P
    cases r with
    | fz d =>
      cases d with
      | int i =>
        intro x F1 H1 f1 S1 R1
        have ex : x = .int i := RdV.int (H := H1) (.inl R1)
        subst ex
        exact K i F1 H1 e1 f1 S1 (PostW.shift (r := k (.fz (.int i)) e1) P f1)
      | _ => exact P.elim
    | _ => exact P.elim
theorem walk_rng {lo : Int} {n : Nat} : WalkOk Z N F (Itr lo n) ((List.range n).map fun i => .int (lo + (i : Nat))) := fun F' H' σ' e' S' f i => by
  refine ⟨fun d hd => ?_, fun hl => ?_⟩
  · rw [List.getElem?_map, Option.map_eq_some_iff] at hd
    obtain ⟨j, hj, rfl⟩ := hd
    obtain ⟨h1, h2⟩ := List.getElem?_eq_some_iff.mp hj
    rw [List.getElem_range] at h2
    subst h2
    rw [List.length_range] at h1
    refine ⟨h1, fun v H2 ⟨e2, ev⟩ => ?_⟩
    subst e2 ev
    exact ⟨F', Gr.refl S'.le, .int _⟩
  · rw [List.length_map, List.length_range] at hl
    exact hl
theorem wv_r1_rd {g : EV} {R : It → Hp → Prop} (h : tWv Z W (wR1 g) σ H R) : iRng1 (tCons (tEv Z W g) tNil) σ H R := by
  obtain ⟨N, F, e, S, P⟩ := h
  refine bindWI S P fun y F1 H1 e1 f1 S1 P1 => ?_
  dsimp only at P1
  split at P1
  · rename_i hb
    refine ⟨y, rfl, hb.1, hb.2, P1 _ F1 H1 (Same.refl _) S1 ?_⟩
    have e0 : rng 0 y = (List.range y.toNat).map fun i => D.int (0 + (i : Nat)) := by unfold rng; rw [Int.sub_zero]
    rw [e0]
    exact walk_rng
  · exact P1.elim
theorem for_post {tmp : List Nat} {t : Tg} {g : TG} {w : WV} {b : SV} (tk : TgOk Z g t) (S : SOk Z N F H σ e) (P : PostS Z N F W E (sFor tmp t w b e)) : tFor (fun _ _ R => PostW Z N F σ W R (w e)) g (tSv Z W b) E σ H := by
  unfold sFor at P
  show PostW Z N F σ W _ (w e)
  cases q : w e with
  | no => rw [q] at P; exact P
  | ex z e1 => rw [q] at P; exact fun cls d F1 H1 f1 S1 x => P cls d F1 H1 σ f1 S1 x
  | ok xs e1 => rw [q] at P; exact fun J F2 H2 f2 S2 wk => for_sound wk tk S2 (PostS.shift P f2)
theorem st_for {tmp : List Nat} {t : Tg} {g : TG} {w : WV} {b : SV} (tk : TgOk Z g t) (h : tSv Z W (sFor tmp t w b) E σ H) : tFor (tWv Z W w) g (tSv Z W b) E σ H :=
  let ⟨N, F, e, S, P⟩ := h
  ⟨N, F, e, S, for_post tk S P⟩
end

section
variable {ca : Str → Option Addr} {W : WX} {X : Cx} {a b c : Expr} {st : Stmt} {rest s1 s2 : List Stmt} {fa fb : EV} {t : TV} {f g : SV} {pos p p2 : Pos}
theorem bv_nil : Bv ca W X [] sNx := PSs_imp pss_nil fun _ _ _ => st_nx
theorem bv_one (h : Sv ca W X st f) : Bv ca W X [st] f := pss_one h
theorem bv_cons (h : Sv ca W X st f) (k : Bv ca W X rest g) : Bv ca W X (st :: rest) (sSeq f g) := PSs_imp (pss_cons h k) fun _ _ _ => st_seq
theorem sv_expr (h : Ev ca W X a fa) (hs : swapsWith a none pos.line X.env = pure false := by rfl) : Sv ca W X (.Expr a pos) (sExpr fa) := PS_imp (ps_expr h hs) fun _ _ _ => st_expr
theorem sv_ret (h : Ev ca W X a fa) : Sv ca W X (.Return (some a) pos) (sRet fa) := PS_imp (ps_ret h) fun _ _ _ => st_ret
theorem sv_if (hc : Tv ca W X c t) (h1 : Bv ca W X s1 f) (h2 : Bv ca W X s2 g) : Sv ca W X (.If c s1 s2 pos) (sIf t f g) := PS_imp (ps_if hc h1 h2) fun _ _ _ => st_if
theorem sv_set (i : Nat) {x : Str} (hN : X.N.Nodup) (h : Ev ca W X a fa) (hi : X.N[i]? = some x := by rfl) (hx : Loc X.env.scope x := by first | exact Or.inl rfl | exact Or.inr rfl) (hs : swapsWith a (some (.Name x p)) pos.line X.env = pure false := by rfl)
    (hf : X.fn x = true ∨ X.env.scope.names.lookup x = some .local := by first | exact .inl rfl | exact .inr rfl | assumption) : Sv ca W X (.Assign [.Name x p] a pos) (sSet i fa) := PS_imp (ps_set hN hi hx h hs hf) fun _ _ _ => st_set
/-- the text iter, walked to the target tg, says w -/
abbrev Wv (ca : Str → Option Addr) (W : WX) (X : Cx) (tg iter : Expr) (w : WV) : Prop := PI X tg iter (tWv (zw ca X) W w)
theorem wv_any {tg : Expr} (h : Ev ca W X a fa) : Wv ca W X tg a (wAny fa) := PI_imp (pi_any h) fun _ _ _ => wv_any_rd rfl
theorem wv_r1 {tg : Expr} (hm : X.mg "range" = none) (h : Ev ca W X a fa) (hg : Gl X "range" := by rfl) (hs : starEach [a] X.env = (false, eval a X.env) :: starEach [] X.env := by rfl) : Wv ca W X tg (.Call (.Name "range" p) [a] [] pos) (wR1 fa) := PI_imp (pi_range1 hg hm (pa_cons h pa_nil hs) (by rw [hs]; rfl)) fun _ _ _ => wv_r1_rd
theorem sv_for {tmp : List Nat} {tt : Tg} {tg : TG} {w : WV} (hp : PassesOwn (model X.prog X.w) X.A X.env X.xe) (hc : X.calm = true) (hg : PG X c tg) (tk : TgOk (zw ca X) tg tt) (h : Wv ca W X c a w) (hb : Bv ca W X s1 f)
    (hs : ∀ x, foldedSetIterable a X.env x = pure x := by intro _; rfl) : Sv ca W X (.For c a s1 [] pos) (sFor tmp tt w f) := PS_imp (ps_for hp hc h hg hb hs) fun _ _ _ => st_for tk
end
end S3

/-! B9: list comprehensions. -/
namespace S3
open PySem L2
section
variable {Z : Wd} {F F' H H' : Hp} {N : En} {σ : St} {e e' : Env} {v x y : V} {W : WX}
theorem get_lock {e : Env} {i : Nat} {s : Sl} (h : (lock e)[i]? = some s) : ∃ t, e[i]? = some t ∧ s = t.lock := by
  unfold lock at h
  rw [List.getElem?_map, Option.map_eq_some_iff] at h
  obtain ⟨t, h1, h2⟩ := h
  exact ⟨t, h1, h2.symm⟩
/-- all that is owned is lent to be read, from here on -/
theorem SOk.lockd (S : SOk Z N F H σ e) : SOk Z ⟨F, H, [], fun _ => none, fun _ => []⟩ F H σ (lock e) where
  le := S.le
  f0 := Same.refl _
  h0 := fun _ _ h _ => h
  nf := fun _ _ _ _ h => h
  len := by unfold lock; rw [List.length_map]; exact S.len
  slot := fun i s h => by
    obtain ⟨t, h1, rfl⟩ := get_lock h
    obtain ⟨o, g1, g2⟩ := S.slot i t h1
    refine ⟨o, g1, ?_⟩
    cases t with
    | no => trivial
    | fz d => exact g2
    | ow d => obtain ⟨a, rfl, f, n, t⟩ := g2; exact ⟨_, rfl, .inr ⟨a, rfl, f, t.there, by simp, t⟩⟩
    | mu d => obtain ⟨a, rfl, f, n, t⟩ := g2; exact ⟨_, rfl, .inr ⟨a, rfl, f, t.there, by simp, t⟩⟩
    | bo d =>
      obtain ⟨v, rfl, r | ⟨a, rfl, f, n, m, t⟩⟩ := g2
      · exact ⟨v, rfl, .inl r⟩
      · exact ⟨_, rfl, .inr ⟨a, rfl, f, t.there, by simp, t⟩⟩
    | dp g d => trivial
  sep := fun i j s t a h1 h2 ne o l1 l2 => by
    obtain ⟨s', _, rfl⟩ := get_lock h1
    cases s' <;> cases o
  mh := fun a m => absurd m (by simp)
  mus := fun i d h => by
    obtain ⟨t, _, q⟩ := get_lock h
    cases t <;> cases q
  bos := fun i d a r h k => by cases k
  lks := fun i j d a h m l => by cases m
  lkh := fun j a m => by cases m
theorem wipe_get {σ : St} {j : Nat} : ∀ {is : List Nat}, (wipe σ is)[j]? = if j ∈ is ∧ j < σ.length then some none else σ[j]?
  | [] => by simp [wipe]
  | i :: is => by
    have ih := wipe_get (σ := σ) (j := j) (is := is)
    have hl := wipe_length σ is
    unfold wipe
    by_cases q : i = j
    · subst q
      by_cases l : i < σ.length
      · rw [List.getElem?_set_self (by rw [hl]; exact l), if_pos ⟨List.mem_cons_self, l⟩]
      · rw [List.getElem?_eq_none (by rw [List.length_set, hl]; omega), if_neg (fun z => l z.2), List.getElem?_eq_none (by omega)]
    · rw [List.getElem?_set_ne q, ih]
      by_cases m : j ∈ is ∧ j < σ.length
      · rw [if_pos m, if_pos ⟨List.mem_cons_of_mem _ m.1, m.2⟩]
      · rw [if_neg m, if_neg]
        rintro ⟨m1, m2⟩
        rcases List.mem_cons.mp m1 with z | z
        · exact q z.symm
        · exact m ⟨z, m2⟩
theorem wipeE_get {e : Env} {j : Nat} : ∀ {is : List Nat}, (wipeE e is)[j]? = if j ∈ is ∧ j < e.length then some .no else e[j]?
  | [] => by simp [wipeE]
  | i :: is => by
    have ih := wipeE_get (e := e) (j := j) (is := is)
    have hl : ∀ is : List Nat, (wipeE e is).length = e.length := fun is => by
      induction is with
      | nil => rfl
      | cons a b ih => unfold wipeE; rw [List.length_set]; exact ih
    unfold wipeE
    by_cases q : i = j
    · subst q
      by_cases l : i < e.length
      · rw [List.getElem?_set_self (by rw [hl]; exact l), if_pos ⟨List.mem_cons_self, l⟩]
      · rw [List.getElem?_eq_none (by rw [List.length_set, hl]; omega), if_neg (fun z => l z.2), List.getElem?_eq_none (by omega)]
    · rw [List.getElem?_set_ne q, ih]
      by_cases m : j ∈ is ∧ j < e.length
      · rw [if_pos m, if_pos ⟨List.mem_cons_of_mem _ m.1, m.2⟩]
      · rw [if_neg m, if_neg]
        rintro ⟨m1, m2⟩
        rcases List.mem_cons.mp m1 with z | z
        · exact q z.symm
        · exact m ⟨z, m2⟩
theorem SOk.wipe2 (S : SOk Z N F H σ e) (is : List Nat) : SOk Z N F H (L2.wipe σ is) (wipeE e is) where
  le := S.le
  f0 := S.f0
  h0 := S.h0
  nf := S.nf
  len := by
    rw [wipe_length, S.len]
    induction is with
    | nil => rfl
    | cons a b ih => unfold wipeE; rw [List.length_set]; exact ih
  slot := fun i s h => by
    rw [wipeE_get] at h
    rw [wipe_get]
    split at h
    · rename_i m
      cases h
      rw [if_pos ⟨m.1, by rw [S.len]; exact m.2⟩]
      exact ⟨_, rfl, trivial⟩
    · rename_i m
      rw [if_neg (fun z => m ⟨z.1, by rw [← S.len]; exact z.2⟩)]
      exact S.slot i s h
  sep := fun i j s t a h1 h2 ne o l1 l2 => by
    rw [wipeE_get] at h1 h2
    split at h1
    · cases h1; cases o
    · rename_i m1
      split at h2
      · cases h2; exact l2
      · rename_i m2
        rw [wipe_get, if_neg (fun z => m1 ⟨z.1, by rw [← S.len]; exact z.2⟩)] at l1
        rw [wipe_get, if_neg (fun z => m2 ⟨z.1, by rw [← S.len]; exact z.2⟩)] at l2
        exact S.sep i j s t a h1 h2 ne o l1 l2
  mh := S.mh
  mus := fun i d h => by
    rw [wipeE_get] at h
    split at h
    · cases h
    · rename_i m
      rw [wipe_get, if_neg (fun z => m ⟨z.1, by rw [← S.len]; exact z.2⟩)]
      exact S.mus i d h
  bos := fun i d a r h k => by
    rw [wipeE_get] at h
    split at h
    · cases h
    · rename_i m
      rw [wipe_get, if_neg (fun z => m ⟨z.1, by rw [← S.len]; exact z.2⟩)]
      exact S.bos i d a r h k
  lks := fun i j d a h k l => by
    rw [wipeE_get] at h
    split at h
    · cases h
    · rename_i m
      rw [wipe_get, if_neg (fun z => m ⟨z.1, by rw [← S.len]; exact z.2⟩)] at l
      exact S.lks i j d a h k l
  lkh := S.lkh
theorem wipe_off {σ σ' : St} {is own : List Nat} (h : Off is σ σ') (sub : ∀ i ∈ is, i ∈ own) : wipe σ' own = wipe σ own := by
  apply List.ext_getElem?
  intro j
  rw [wipe_get, wipe_get, h.1]
  by_cases m : j ∈ own ∧ j < σ.length
  · rw [if_pos m, if_pos m]
  · rw [if_neg m, if_neg m]
    by_cases l : j < σ.length
    · exact h.2 j fun z => m ⟨sub j z, l⟩
    · rw [List.getElem?_eq_none (by rw [h.1]; omega), List.getElem?_eq_none (by omega)]
theorem wipe_wipe (σ : St) (own : List Nat) : wipe (wipe σ own) own = wipe σ own := by
  apply List.ext_getElem?
  intro j
  rw [wipe_get, wipe_get, wipe_length]
  split <;> rfl
abbrev W0 : WX := fun _ _ _ _ => False
theorem lc_sound {g : TG} {t : Tg} {own : List Nat} {c : TV} {f : EV} {J : It} {ds ys : List D} {Q : VK} (tk : TgOk Z g t) (sub : ∀ i ∈ tgIx t, i ∈ own) (S : SOk Z N F H σ e) (wk : WalkOk Z N F J ds)
    (hz : ds.length ≤ 16777216) (hl : lcL t c f ds (wipeE (lock e) own) [] = some ys) (P : PostE Z N F σ W Q (.ok (.nw (.lst ys)) e)) : ∀ A, H A = none →
    ∃ Wm : Nat → Nat → Hp → Prop, (∃ m, Wm 0 m (upd H A (.lst []))) ∧ ∀ i m H, Wm i m H → (J.stop i H ∧ Q (.ref A) H) ∨ (J.go i H ∧ ∃ Nx : Hp → Prop, (∀ H', Nx H' → ∃ m', m' < m ∧ Wm (i + 1) m' H') ∧
      ∀ x H', J.yld i H x H' → g x (wipe σ own) H' fun σ2 H2 => wipe σ2 own = wipe σ own ∧ tTv Z W0 c σ2 H2 fun b H3 =>
        if b = true then tEv Z W0 f σ2 H3 fun y H4 => ∃ acc, H4 A = some (.lst acc) ∧ acc.length < sizeLine ∧ Nx (upd H4 A (.lst (acc ++ [y]))) else Nx H3) := by
  intro A hA
  refine ⟨fun i m Hx => m = ds.length - i ∧ i ≤ ds.length ∧ ∃ F' Hm acc accD, Same F F' ∧ SOk Z N F' Hm σ e ∧ Hm A = none ∧ Hx = upd Hm A (.lst acc) ∧ RpA Z F' acc accD ∧ accD.length ≤ i ∧ lcL t c f (ds.drop i) (wipeE (lock e) own) accD = some ys,
    ⟨ds.length, rfl, Nat.zero_le _, F, H, [], [], Same.refl _, S, hA, rfl, .nil, Nat.le_refl _, hl⟩, ?_⟩
  rintro i m _ ⟨rfl, hi, F1, Hm, acc, accD, f1, S1, nA, rfl, ra, hacc, hl1⟩
  have SH : SOk Z N F1 (upd Hm A (.lst acc)) σ e := S1.gr (Gr.lay S1.le nA)
  obtain ⟨w1, w2⟩ := wk F1 _ σ e SH f1 i
  by_cases hlt : i < ds.length
  · have ed : ds.drop i = ds[i] :: ds.drop (i + 1) := List.drop_eq_getElem_cons hlt
    have ei : ds[i]? = some ds[i] := List.getElem?_eq_getElem hlt
    rw [ed] at hl1
    generalize ds[i] = d at hl1 ei
    obtain ⟨go, yl⟩ := w1 d ei
    refine .inr ⟨go, fun Hx => ∃ F' Hm acc accD, Same F F' ∧ SOk Z N F' Hm σ e ∧ Hm A = none ∧ Hx = upd Hm A (.lst acc) ∧ RpA Z F' acc accD ∧ accD.length ≤ i + 1 ∧ lcL t c f (ds.drop (i + 1)) (wipeE (lock e) own) accD = some ys,
      fun H' h => ⟨ds.length - (i + 1), by omega, rfl, hlt, h⟩, fun x H2 hy => ?_⟩
    obtain ⟨F2, g2, r2⟩ := yl x H2 hy
    have S2 := SH.gr g2
    have S3' := S2.lockd.wipe2 own
    unfold lcL at hl1
    cases q : tgt t d (wipeE (lock e) own) with
    | none => rw [q] at hl1; cases hl1
    | some e2 =>
      rw [q] at hl1
      dsimp only at hl1
      refine tk ⟨F2, H2, [], fun _ => none, fun _ => []⟩ F2 H2 (wipe σ own) (wipeE (lock e) own) x d e2 _ S3' r2 q fun σ2 S4 off => ⟨by rw [wipe_off off sub, wipe_wipe], ⟨F2, H2, [], fun _ => none, fun _ => []⟩, F2, e2, S4, ?_⟩
      -- the heap behind the turn, without the new list
      have A2 : H2 A = some (.lst acc) := g2.h _ _ upd_same
      have ntA : NT (HO.lst acc) := fun _ z => by cases z
      have FA : F2 A = none := g2.nf A _ upd_same ntA (none_le S1.le nA)
      have back : ∀ {F3 H3 : Hp} {σ3 : St} {e3 : Env}, SOk Z ⟨F2, H2, [], fun _ => none, fun _ => []⟩ F3 H3 σ3 e3 → H3 A = some (.lst acc) ∧ F3 A = none ∧ ∃ H3m : Hp, SOk Z N F3 H3m σ e ∧ H3m A = none ∧ ∀ o, upd H3 A o = upd H3m A o := by
        intro F3 H3 σ3 e3 T
        have k1 : H3 A = some (.lst acc) := T.h0 A _ A2 (by simp)
        have k2 : F3 A = none := T.nf A _ A2 ntA FA
        refine ⟨k1, k2, fun b => if b = A then none else H3 b, S1.grow (g2.f.trans T.f0) (fun b o hb => ?_) (fun b o hb => ?_) (fun b u hb nt n => ?_), if_pos rfl, fun o => ?_⟩
        · have nb : b ≠ A := ne_of_none hb nA
          rw [if_neg nb]
          exact T.h0 b o (g2.h _ _ (by rw [upd_ne nb]; exact hb)) (by simp)
        · have nb : b ≠ A := fun z => by subst z; rw [k2] at hb; cases hb
          rw [if_neg nb]
          exact T.le _ _ hb
        · have nb : b ≠ A := ne_of_none hb nA
          have hb' : upd Hm A (.lst acc) b = some u := by rw [upd_ne nb]; exact hb
          exact T.nf b u (g2.h _ _ hb') nt (g2.nf b u hb' nt n)
        · funext b
          show (if b = A then some o else H3 b) = (if b = A then some o else (if b = A then none else H3 b))
          by_cases z : b = A
          · rw [if_pos z, if_pos z]
          · rw [if_neg z, if_neg z, if_neg z]
      cases q2 : c e2 with
      | no => rw [q2] at hl1; cases hl1
      | ex z e3 => rw [q2] at hl1; cases hl1
      | ok b e3 =>
        rw [q2] at hl1
        intro F3 H3 f3 T3
        cases b with
        | false =>
          refine iteF ?_
          obtain ⟨k1, k2, H3m, S5, k3, k4⟩ := back T3
          refine ⟨F3, H3m, acc, accD, f1.trans (g2.f.trans f3), S5, k3, ?_, ra.mono (g2.f.trans f3), Nat.le_succ_of_le hacc, hl1⟩
          rw [← k4]
          funext b
          by_cases z : b = A
          · subst z; rw [upd_same, k1]
          · rw [upd_ne z]
        | true =>
          refine iteT ⟨⟨F2, H2, [], fun _ => none, fun _ => []⟩, F3, e3, T3, ?_⟩
          dsimp only at hl1
          cases q3 : f e3 with
          | no => rw [q3] at hl1; cases hl1
          | ex z e4 => rw [q3] at hl1; cases hl1
          | ok r e4 =>
            rw [q3] at hl1
            dsimp only at hl1
            cases q4 : stl r e4 with
            | none => rw [q4] at hl1; cases hl1
            | some pr =>
              obtain ⟨x', e5⟩ := pr
              rw [q4] at hl1
              dsimp only at hl1
              intro v F5 H5 f5 T5 R5
              obtain ⟨F6, f6, T6, r6⟩ := RvOk.stl T5 R5 q4
              obtain ⟨k1, k2, H6m, S6, k3, k4⟩ := back T6
              have ff : Same F1 F6 := g2.f.trans (f3.trans (f5.trans f6))
              refine ⟨acc, k1, ?_, F6, H6m, acc ++ [v], accD ++ [x'], f1.trans ff, S6, k3, k4 _, (ra.mono ff).append (.cons r6 .nil), by rw [List.length_append]; exact Nat.succ_le_succ hacc, hl1⟩
              rw [ra.length, sizeLine_eq]
              omega
  · have e0 : ds.drop i = [] := List.drop_eq_nil_of_le (Nat.le_of_not_lt hlt)
    rw [e0] at hl1
    unfold lcL at hl1
    cases hl1
    refine .inl ⟨w2 (Nat.le_of_not_lt hlt), P (.ref A) F1 _ f1 SH ⟨A, rfl, none_le S1.le nA, S1.nohave nA, ⟨acc, upd_same, ra⟩, fun j s hj l => ?_⟩⟩
    obtain ⟨_, u, hu⟩ := S1.live hj (S1.unlive hj l (Same.refl _) (fun _ _ z => z) fun _ _ _ _ _ _ _ => kp_same (same_upd nA))
    rw [nA] at hu; cases hu
theorem lc_post {g : TG} {t : Tg} {own : List Nat} {w : WV} {c : TV} {f : EV} {Q : VK} (tk : TgOk Z g t) (sub : ∀ i ∈ tgIx t, i ∈ own) (S : SOk Z N F H σ e) (P : PostE Z N F σ W Q (eLc own t w c f e)) : tLc (fun _ _ R => PostW Z N F σ W R (w e)) g (tTv Z W0 c) (tEv Z W0 f) own σ H Q := by
  unfold eLc at P
  show PostW Z N F σ W _ (w e)
  cases q : w e with
  | no => rw [q] at P; exact P
  | ex z e1 => rw [q] at P; exact P
  | ok xs e1 =>
    rw [q] at P
    dsimp only at P
    cases q1 : lcL t c f xs (wipeE (lock e1) own) [] with
    | none => rw [q1] at P; exact P.elim
    | some ys =>
      rw [q1] at P
      dsimp only at P
      split at P
      · rename_i hz
        exact fun J F1 H1 f1 S1 wk => lc_sound tk sub S1 wk hz q1 (PostE.shift P f1)
      · exact P.elim
theorem lc_rd {g : TG} {t : Tg} {own : List Nat} {w : WV} {c : TV} {f : EV} {Q : VK} (tk : TgOk Z g t) (sub : ∀ i ∈ tgIx t, i ∈ own) (h : tEv Z W (eLc own t w c f) σ H Q) : tLc (tWv Z W w) g (tTv Z W0 c) (tEv Z W0 f) own σ H Q :=
  let ⟨N, F, e, S, P⟩ := h
  ⟨N, F, e, S, lc_post tk sub S P⟩
theorem yes_rd {Q : Bool → Hp → Prop} (h : tTv Z W0 tYesS σ H Q) : tYes σ H Q := by
  obtain ⟨N, F, e, S, P⟩ := h
  exact P F H (Same.refl _) S
end
section
variable {ca : Str → Option Addr} {W : WX} {X : Cx} {fe : EV} {w : WV} {c : TV} {elt tg iter : Expr} {ifs : List Expr} {scope : Scope} {own : List (Str × Nat)} {pos : Pos} {g : TG} {t : Tg}
theorem ptv_nil : PTs X [] (tTv (zw ca X) W0 tYesS) := ⟨fun p s σ H Q I h => pts_nil.run p s σ H Q I (yes_rd h)⟩
theorem ev_lc (hc : X.calm = true) (hN : X.N.Nodup) (hi : Wv ca W X tg iter w) (ok : BlkOk X.N X.env.scope scope own) (tk : TgOk (zw ca X) g t) (sub : ∀ i ∈ tgIx t, i ∈ own.map (·.2))
    (hg : ∀ (s : Shared) (H : Hp) (C : Addr) (cl : List (Str × Addr)) (fp : List Addr), PG (X.blk s H scope (compEnvC scope cl C X.env) fp) tg g)
    (ht : ∀ (s : Shared) (H : Hp) (C : Addr) (cl : List (Str × Addr)) (fp : List Addr), PTs (X.blk s H scope (compEnvC scope cl C X.env) fp) ifs (tTv (zw ca X) W0 c))
    (he : ∀ (s : Shared) (H : Hp) (C : Addr) (cl : List (Str × Addr)) (fp : List Addr), Ev ca W0 (X.blk s H scope (compEnvC scope cl C X.env) fp) elt fe) (hs : ∀ x, foldedSetIterable iter X.env x = pure x := by intro _; rfl) :
    Ev ca W X (.ListComp elt [⟨tg, iter, ifs, 0⟩] scope pos) (eLc (own.map (·.2)) t w c fe) :=
  PE_imp (pe_lc hc hN hi ok hg ht he hs) fun _ _ _ => lc_rd tk sub
theorem sv_setLc (i : Nat) {y : Str} {py spos : Pos} (hc : X.calm = true) (hN : X.N.Nodup) (hyl : X.env.scope.names.lookup y = some .local) (hsw : swapsWith (.ListComp elt [⟨tg, iter, ifs, 0⟩] scope pos) (some (.Name y py)) spos.line X.env = pure true)
    (hi : Wv ca W X tg iter w) (ok : BlkOk X.N X.env.scope scope own) (tk : TgOk (zw ca X) g t) (sub : ∀ i ∈ tgIx t, i ∈ own.map (·.2))
    (hg : ∀ (s : Shared) (H : Hp) (C : Addr) (cl : List (Str × Addr)) (fp : List Addr), PG (X.blk s H scope (compEnvC scope cl C X.env) fp) tg g)
    (ht : ∀ (s : Shared) (H : Hp) (C : Addr) (cl : List (Str × Addr)) (fp : List Addr), PTs (X.blk s H scope (compEnvC scope cl C X.env) fp) ifs (tTv (zw ca X) W0 c))
    (he : ∀ (s : Shared) (H : Hp) (C : Addr) (cl : List (Str × Addr)) (fp : List Addr), Ev ca W0 (X.blk s H scope (compEnvC scope cl C X.env) fp) elt fe) (hy : X.N[i]? = some y := by rfl) (hs : ∀ x, foldedSetIterable iter X.env x = pure x := by intro _; rfl) :
    Sv ca W X (.Assign [.Name y py] (.ListComp elt [⟨tg, iter, ifs, 0⟩] scope pos) spos) (sSet i (eLc (own.map (·.2)) t w c fe)) :=
  PS_imp (ps_setLc hc hN hy hyl hsw hi ok hg ht he hs) fun D σ H h => by
    have h2 := st_set h
    exact lc_rd tk sub h2
end
end S3

/-! C1: defs: what a def promises, how it is called, how its body shows it. -/
namespace S3
open PySem L2
section
variable {Z : Wd} {F F' H H' : Hp} {N : En} {σ : St} {e e' : Env} {W : WX}
/-- the arguments, by their modes -/
inductive ArgsOk (Z : Wd) (F H : Hp) : List Md → List V → List D → Prop
  | nil : ArgsOk Z F H [] [] []
  | v {ms : List Md} {x : V} {vs : List V} {d : D} {ds : List D} : Rp Z F x d → ArgsOk Z F H ms vs ds → ArgsOk Z F H (.v :: ms) (x :: vs) (d :: ds)
  | r {ms : List Md} {x : V} {vs : List V} {d : D} {ds : List D} : RdV Z F H x d → ArgsOk Z F H ms vs ds → ArgsOk Z F H (.r :: ms) (x :: vs) (d :: ds)
  | m {ms : List Md} {a : Addr} {vs : List V} {d : D} {ds : List D} : F a = none → Top Z F H a d → ArgsOk Z F H ms vs ds → ArgsOk Z F H (.m :: ms) (.ref a :: vs) (d :: ds)
/-- a lent place: the slot that a parameter begins as -/
def pSl (m : Md) (d : D) : Sl := match m with | .v => .fz d | .r => .bo d | .m => .mu d
/-- the place of the i-th parameter, if it may be changed -/
def mAt (ms : List Md) (vs : List V) (i : Nat) : Option Addr := match ms[i]?, vs[i]? with
  | some .m, some (.ref a) => some a
  | _, _ => none
def mSet : List Md → List V → List Addr
  | .m :: ms, .ref a :: vs => a :: mSet ms vs
  | _ :: ms, _ :: vs => mSet ms vs
  | _, _ => []
theorem mem_mSet : ∀ {ms : List Md} {vs : List V} {a : Addr}, a ∈ mSet ms vs ↔ ∃ i, mAt ms vs i = some a
  | [], vs, a => by simp [mSet, mAt]
  | m :: ms, [], a => by cases m <;> simp [mSet, mAt]
  | m :: ms, v :: vs, a => by
    have ih := mem_mSet (ms := ms) (vs := vs) (a := a)
    have sh : ∀ i, mAt (m :: ms) (v :: vs) (i + 1) = mAt ms vs i := fun i => by simp [mAt]
    have h0 : ∀ b, (m = .m ∧ v = .ref b) ↔ mAt (m :: ms) (v :: vs) 0 = some b := fun b => by
      cases m <;> cases v <;> simp [mAt]
    have split : (∃ i, mAt (m :: ms) (v :: vs) i = some a) ↔ (m = .m ∧ v = .ref a) ∨ ∃ i, mAt ms vs i = some a := by
      constructor
      · rintro ⟨i, hi⟩
        cases i with
        | zero => exact .inl ((h0 a).mpr hi)
        | succ i => rw [sh] at hi; exact .inr ⟨i, hi⟩
      · rintro (h | ⟨i, hi⟩)
        · exact ⟨0, (h0 a).mp h⟩
        · exact ⟨i + 1, by rw [sh]; exact hi⟩
    rw [split]
    cases m <;> cases v <;> simp [mSet, ih] <;> try (constructor <;> intro h <;> simpa using h)
    all_goals (constructor <;> (rintro (h | h)) <;> first | exact .inl h.symm | exact .inr h)
/-- no place that may be changed is handed on twice -/
def ApartV (Z : Wd) (F H : Hp) (ms : List Md) (vs : List V) (ds : List D) : Prop :=
  ∀ i j a m d, i ≠ j → mAt ms vs i = some a → ms[j]? = some m → ds[j]? = some d → Live Z F H (vs[j]?) (pSl m d) a → False
/-- the heap behind a call -/
structure CGr (F H : Hp) (M : List Addr) (F' H' : Hp) : Prop where
  f : Same F F'
  le : Same F' H'
  h : ∀ b o, H b = some o → b ∉ M → H' b = some o
  nf : ∀ b o, H b = some o → NT o → F b = none → F' b = none
inductive OutsOk (Z : Wd) (F H : Hp) : List Md → List V → List D → Prop
  | nil : OutsOk Z F H [] [] []
  | v {ms : List Md} {x : V} {vs : List V} {ds : List D} : OutsOk Z F H ms vs ds → OutsOk Z F H (.v :: ms) (x :: vs) ds
  | r {ms : List Md} {x : V} {vs : List V} {ds : List D} : OutsOk Z F H ms vs ds → OutsOk Z F H (.r :: ms) (x :: vs) ds
  | m {ms : List Md} {a : Addr} {vs : List V} {d : D} {ds : List D} : Top Z F H a d → OutsOk Z F H ms vs ds → OutsOk Z F H (.m :: ms) (.ref a :: vs) (d :: ds)
def ResOk (Z : Wd) (H F' H' : Hp) (n : Bool) (v : V) (d : D) : Prop := if n = true then ∃ a, v = .ref a ∧ H a = none ∧ F' a = none ∧ Top Z F' H' a d else Rp Z F' v d
def PostC (Z : Wd) (F H : Hp) (ms : List Md) (vs : List V) (Q : VK) (E : XK) : RC → Prop
  | .no => False
  | .ok n d outs => ∀ v F' H', CGr F H (mSet ms vs) F' H' → OutsOk Z F' H' ms vs outs → ResOk Z H F' H' n v d → Q v H'
  | .ex x outs => ∀ cls dd F' H', CGr F H (mSet ms vs) F' H' → OutsOk Z F' H' ms vs outs → ExOk Z F' H' x cls dd → E cls dd H'
  | .dp d outs => ∀ v F' H', CGr F H (mSet ms vs) F' H' → OutsOk Z F' H' ms vs outs → (∃ R, OwT Z F' H' R v (.ob d) ∧ ∀ b ∈ R, H b = none) → Q v H'
/-- THE PROMISE of a def that does phi -/
def spOf (Z : Wd) (ms : List Md) (phi : List D → RC) : Sp := fun vs H Q E => ∃ F ds, Same F H ∧ ArgsOk Z F H ms vs ds ∧ ApartV Z F H ms vs ds ∧ PostC Z F H ms vs Q E (phi ds)

theorem ArgsOk.lens {ms : List Md} {vs : List V} {ds : List D} (h : ArgsOk Z F H ms vs ds) : vs.length = ms.length ∧ ds.length = ms.length := by
  induction h with
  | nil => exact ⟨rfl, rfl⟩
  | v _ _ ih => exact ⟨congrArg Nat.succ ih.1, congrArg Nat.succ ih.2⟩
  | r _ _ ih => exact ⟨congrArg Nat.succ ih.1, congrArg Nat.succ ih.2⟩
  | m _ _ _ ih => exact ⟨congrArg Nat.succ ih.1, congrArg Nat.succ ih.2⟩
theorem ArgsOk.at : ∀ {ms : List Md} {vs : List V} {ds : List D} {i : Nat} {m : Md} {d : D}, ArgsOk Z F H ms vs ds → ms[i]? = some m → ds[i]? = some d →
    ∃ v, vs[i]? = some v ∧ (match m with | .v => Rp Z F v d | .r => RdV Z F H v d | .m => ∃ a, v = .ref a ∧ F a = none ∧ Top Z F H a d)
  | _, _, _, _, _, _, .nil, h, _ => by simp at h
  | _, _, _, 0, _, _, .v a _, h, k => by simp at h k; subst h k; exact ⟨_, rfl, a⟩
  | _, _, _, 0, _, _, .r a _, h, k => by simp at h k; subst h k; exact ⟨_, rfl, a⟩
  | _, _, _, 0, _, _, .m a b _, h, k => by simp at h k; subst h k; exact ⟨_, rfl, _, rfl, a, b⟩
  | _, _, _, i + 1, _, _, .v a t, h, k => by
    obtain ⟨v, h1, h2⟩ := ArgsOk.at (i := i) t (by simpa using h) (by simpa using k)
    exact ⟨v, by simpa using h1, h2⟩
  | _, _, _, i + 1, _, _, .r a t, h, k => by
    obtain ⟨v, h1, h2⟩ := ArgsOk.at (i := i) t (by simpa using h) (by simpa using k)
    exact ⟨v, by simpa using h1, h2⟩
  | _, _, _, i + 1, _, _, .m a b t, h, k => by
    obtain ⟨v, h1, h2⟩ := ArgsOk.at (i := i) t (by simpa using h) (by simpa using k)
    exact ⟨v, by simpa using h1, h2⟩

/-! ### the body -/
theorem startE_get {ms : List Md} {ds : List D} {n i : Nat} {s : Sl} (hl : ds.length = ms.length) (h : (startE ms ds n)[i]? = some s) :
    (∃ m d, ms[i]? = some m ∧ ds[i]? = some d ∧ s = pSl m d) ∨ (ms.length ≤ i ∧ s = .no) := by
  unfold startE at h
  by_cases q : i < ms.length
  · rw [List.getElem?_append_left (by rw [List.length_map, List.length_zip, hl]; omega), List.getElem?_map, Option.map_eq_some_iff] at h
    obtain ⟨⟨m, d⟩, h1, rfl⟩ := h
    rw [List.getElem?_zip_eq_some] at h1
    exact .inl ⟨m, d, h1.1, h1.2, by cases m <;> rfl⟩
  · rw [List.getElem?_append_right (by rw [List.length_map, List.length_zip, hl]; omega), List.getElem?_replicate] at h
    split at h
    · cases h; exact .inr ⟨by omega, rfl⟩
    · cases h
theorem start_get {Nm : List Str} {vs : List V} {i : Nat} {v : V} (h : vs[i]? = some v) : (L2.start Nm vs)[i]? = some (some v) := by
  unfold L2.start
  rw [List.getElem?_append_left (by rw [List.length_map]; exact (List.getElem?_eq_some_iff.mp h).1), List.getElem?_map, h]
  rfl
/-- the frame's state at the entry -/
theorem start_ok {ms : List Md} {vs : List V} {ds : List D} {Nm : List Str} {n : Nat} (l : Same F H) (a : ArgsOk Z F H ms vs ds) (ap : ApartV Z F H ms vs ds) (hn : Nm.length = n) (hm : ms.length ≤ n) :
    SOk Z ⟨F, H, mSet ms vs, mAt ms vs, fun _ => []⟩ F H (L2.start Nm vs) (startE ms ds n) where
  le := l
  f0 := Same.refl _
  h0 := fun _ _ h _ => h
  nf := fun _ _ _ _ h => h
  len := by
    obtain ⟨h1, h2⟩ := a.lens
    unfold L2.start startE
    simp only [List.length_append, List.length_map, List.length_replicate, List.length_zip, h1, h2, hn]
    omega
  slot := fun i s h => by
    obtain ⟨h1, h2⟩ := a.lens
    rcases startE_get h2 h with ⟨m, d, k1, k2, rfl⟩ | ⟨k, rfl⟩
    · obtain ⟨v, g1, g2⟩ := a.at k1 k2
      refine ⟨_, start_get g1, ?_⟩
      cases m with
      | v => exact ⟨v, rfl, g2⟩
      | r =>
        refine ⟨v, rfl, ?_⟩
        by_cases rr : Rp Z F v d
        · exact .inl rr
        · rcases g2 with g2 | ⟨b, rfl, f, t⟩
          · exact (rr g2).elim
          · refine .inr ⟨b, rfl, f, t.there, fun hm => ?_, t⟩
            obtain ⟨j, hj⟩ := mem_mSet.mp hm
            have ne : j ≠ i := by
              rintro rfl
              unfold mAt at hj
              rw [k1] at hj
              cases hj
            refine ap j i b .r d ne hj k1 k2 ?_
            rw [g1]
            exact ⟨rfl, rr⟩
      | m =>
        obtain ⟨b, rfl, f, t⟩ := g2
        exact ⟨b, rfl, f, mem_mSet.mpr ⟨i, by unfold mAt; rw [k1, g1]⟩, t⟩
    · have hi : i < (startE ms ds n).length := (List.getElem?_eq_some_iff.mp h).1
      have hl : i < (L2.start Nm vs).length := by
        unfold L2.start startE at *
        simp only [List.length_append, List.length_map, List.length_replicate, List.length_zip, h1, h2, hn] at hi ⊢
        omega
      exact ⟨_, List.getElem?_eq_getElem hl, trivial⟩
  sep := fun i j s t b h1 h2 ne o l1 l2 => by
    obtain ⟨k1, k2⟩ := a.lens
    rcases startE_get k2 h1 with ⟨m, d, g1, g2, rfl⟩ | ⟨_, rfl⟩
    · cases m <;> try (cases o; done)
      obtain ⟨v, e1, b', rfl, f, t'⟩ := a.at g1 g2
      rcases startE_get k2 h2 with ⟨m2, d2, g3, g4, rfl⟩ | ⟨_, rfl⟩
      · obtain ⟨v2, e2, _⟩ := a.at g3 g4
        rw [start_get e1] at l1
        rw [start_get e2] at l2
        cases l1
        exact ap i j _ m2 d2 ne (by unfold mAt; rw [g1, e1]) g3 g4 (by rw [e2]; exact l2)
      · exact l2
    · cases o
  mh := fun b hb => by
    obtain ⟨i, hi⟩ := mem_mSet.mp hb
    unfold mAt at hi
    cases q1 : ms[i]? with
    | none => rw [q1] at hi; cases hi
    | some m =>
      have li : i < ds.length := by rw [a.lens.2]; exact (List.getElem?_eq_some_iff.mp q1).1
      obtain ⟨v, e1, g⟩ := a.at q1 (List.getElem?_eq_getElem li)
      rw [q1, e1] at hi
      cases m <;> cases v <;> cases hi
      obtain ⟨b', e2, f, t⟩ := g
      cases e2
      exact ⟨f, t.thereN, t.there⟩
  mus := fun i d h => by
    obtain ⟨k1, k2⟩ := a.lens
    rcases startE_get k2 h with ⟨m, d2, g1, g2, q⟩ | ⟨_, q⟩
    · cases m <;> cases q
      obtain ⟨v, e1, b, rfl, f, t⟩ := a.at g1 g2
      exact ⟨b, start_get e1, by show mAt ms vs i = _; unfold mAt; rw [g1, e1]⟩
    · cases q
  bos := fun i d a r h k => by cases k
  lks := fun i j d a h m l => by cases m
  lkh := fun j a m => by cases m
/-- the lent parameters' values at the end -/
theorem outs_ok : ∀ {ms : List Md} {vs : List V} {e : Env} {outs : List D} (k : Nat) (σ : St), vs.length = ms.length →
    (∀ i d, e[i]? = some (.mu d) → ∃ a, σ[k + i]? = some (some (.ref a)) ∧ mAt ms vs i = some a ∧ Top Z F H a d) → outsE ms e = some outs → OutsOk Z F H ms vs outs
  | [], [], _, _, _, _, _, _, h => by simp only [outsE] at h; cases h; exact .nil
  | m :: ms, v :: vs, e, outs, k, σ, hl, hm, h => by
    have rest : ∀ {e2 : Env} {s : Sl} {o : List D}, e = s :: e2 → outsE ms e2 = some o → OutsOk Z F H ms vs o := fun {e2 s o} he ho =>
      outs_ok (k + 1) σ (Nat.succ.inj hl) (fun i d hi => by
        obtain ⟨a, h1, h2, h3⟩ := hm (i + 1) d (by rw [he]; simpa using hi)
        exact ⟨a, by rw [show k + 1 + i = k + (i + 1) by omega]; exact h1, by simpa [mAt] using h2, h3⟩) ho
    cases m with
    | v => cases e with
      | nil => cases h
      | cons s e2 => exact .v (rest rfl h)
    | r => cases e with
      | nil => cases h
      | cons s e2 => exact .r (rest rfl h)
    | m => cases e with
      | nil => cases h
      | cons s e2 =>
        cases s <;> simp only [outsE] at h <;> try (cases h; done)
        rw [Option.map_eq_some_iff] at h
        obtain ⟨o, h1, rfl⟩ := h
        obtain ⟨a, g1, g2, g3⟩ := hm 0 _ rfl
        cases v <;> simp [mAt] at g2
        subst g2
        exact .m g3 (rest rfl h1)
theorem SOk.cgr {ms : List Md} {vs : List V} (S : SOk Z ⟨F, H, mSet ms vs, mAt ms vs, fun _ => []⟩ F' H' σ e) : CGr F H (mSet ms vs) F' H' := ⟨S.f0, S.le, S.h0, S.nf⟩
theorem SOk.outs {ms : List Md} {vs : List V} {outs : List D} (S : SOk Z ⟨F, H, mSet ms vs, mAt ms vs, fun _ => []⟩ F' H' σ e) (hl : vs.length = ms.length) (h : outsE ms e = some outs) : OutsOk Z F' H' ms vs outs :=
  outs_ok 0 σ hl (fun i d hi => by
    obtain ⟨a, h1, h2⟩ := S.mus i d hi
    obtain ⟨o, g1, b, rfl, f, m, t⟩ := S.slot i _ hi
    rw [h1] at g1
    cases g1
    exact ⟨a, by rw [Nat.zero_add]; exact h1, h2, t⟩) h
/-- the body's end is the def's end -/
theorem body_end {ms : List Md} {vs : List V} {r : RS} {Q : VK} {E : XK} (hl : vs.length = ms.length) (P : PostC Z F H ms vs Q E (finish ms r)) :
    PostS Z ⟨F, H, mSet ms vs, mAt ms vs, fun _ => []⟩ F (fun cls d _ H => E cls d H) { nx := fun _ H' => Q .non H', rt := Q } r := by
  cases r with
  | no => exact P
  | bk e => exact P.elim
  | ct e => exact P.elim
  | nx e =>
    unfold finish at P
    dsimp only at P
    cases q : outsE ms e with
    | none => rw [q] at P; exact P.elim
    | some o => rw [q] at P; exact fun F' H' σ' f S => P .non F' H' S.cgr (S.outs hl q) (by unfold ResOk; rw [if_neg Bool.false_ne_true]; exact .non)
  | ex x e =>
    unfold finish at P
    dsimp only at P
    cases q : outsE ms e with
    | none => rw [q] at P; exact P.elim
    | some o => rw [q] at P; exact fun cls d F' H' σ' f S k => P cls d F' H' S.cgr (S.outs hl q) k
  | rt r e =>
    unfold finish at P
    cases r with
    | «at» i => exact P.elim
    | fz d =>
      dsimp only at P
      cases q : outsE ms e with
      | none => rw [q] at P; exact P.elim
      | some o => rw [q] at P; exact fun v F' H' σ' f S k => P v F' H' S.cgr (S.outs hl q) (by unfold ResOk; rw [if_neg Bool.false_ne_true]; exact k)
    | nw d =>
      dsimp only at P
      cases q : outsE ms e with
      | none => rw [q] at P; exact P.elim
      | some o =>
        rw [q] at P
        intro v F' H' σ' f S k
        obtain ⟨a, rfl, fa, na, t, _⟩ := k
        exact P _ F' H' S.cgr (S.outs hl q) (by unfold ResOk; rw [if_pos rfl]; exact ⟨a, rfl, na, fa, t⟩)
    | dn d =>
      dsimp only at P
      cases q : outsE ms e with
      | none => rw [q] at P; exact P.elim
      | some o =>
        rw [q] at P
        intro v F' H' σ' f S k
        obtain ⟨R, t, na, _⟩ := k
        exact P _ F' H' S.cgr (S.outs hl q) ⟨R, t, na⟩
end
section
variable {P : Program} {w : World} {K : PySem.W.Frag} {mg : Str → Option Value} {base : Heap}
open PySem.Spec PyProof.Rows in
/-- THE RULE: a def of the text keeps the promise of its term -/
theorem fn_ok {ca : Str → Option Addr} {x qual : Str} {st : Stmt} {f : Addr} {fd : FuncData} {Nm ps : List Str} {k : Nat} {T : Def} {phi : String → List D → RC} (Fn : L2.Fun K x qual st f fd) (S : FnScope Nm ps (defScope st)) (hps : ps.length = T.ms.length) (hn : Nm.length = T.n) (hm : T.ms.length ≤ T.n)
    (body : ∀ (cdv : Value) (A : Around) (outer : List PySem.Env) (s : Shared) (H : Hp) (E : XK), Room k (A.deeper (envOfC qual (defScope st) s.heap.objs.size f cdv)) →
      L2N.Takes (cxOf (L2N.CX P w) P w K mg base Nm qual (defScope st) f cdv A outer s H E) (fun cls d _ H => E cls d H) →
      PassesOwn (model P w) (cxOf (L2N.CX P w) P w K mg base Nm qual (defScope st) f cdv A outer s H E).A (cxOf (L2N.CX P w) P w K mg base Nm qual (defScope st) f cdv A outer s H E).env (cxOf (L2N.CX P w) P w K mg base Nm qual (defScope st) f cdv A outer s H E).xe →
      PySem.W.kdsCode K cdv = true → Bv ca (fun cls d _ H => E cls d H) (cxOf (L2N.CX P w) P w K mg base Nm qual (defScope st) f cdv A outer s H E) (defBody st) (T.body phi)) :
    FnOk P w K mg base (L2N.CX P w) (k + 1) f fd ps (spOf ⟨P, w, K, ca⟩ T.ms (T.run phi)) := by
  obtain ⟨oc, od, kV, doc, pm, an, cdv, ct, osl, rfl, lk, hcd⟩ := Fn.ex
  refine fn_of lk hcd S (fun vs H Q E ⟨F, ds, l, a, _⟩ => by rw [a.lens.1, hps]) fun A outer s H vs Q E hr ⟨F, ds, l, a, ap, P⟩ => ?_
  refine ⟨_, body cdv A outer s H E hr (L2N.takes_of rfl rfl rfl rfl) (passes_of rfl) (kdsCode_of hcd), ⟨F, H, mSet T.ms vs, mAt T.ms vs, fun _ => []⟩, F, startE T.ms ds T.n, start_ok l a ap hn hm, ?_⟩
  unfold Def.run at P
  rw [if_pos a.lens.2] at P
  exact body_end a.lens.1 P
end
end S3

/-! C2: a def called. -/
namespace S3
open PySem L2
section
variable {Z : Wd} {F F' H H' : Hp} {N : En} {σ : St} {e e' : Env} {W : WX}
theorem args_ok (S : SOk Z N F H σ e) : ∀ {ms : List Md} {rs : List RV} {vs : List V} {ds : List D}, Helds Z F σ vs rs → argD ms rs e = some ds → ArgsOk Z F H ms vs ds
  | [], [], _, _, h, q => by cases h; simp only [argD] at q; cases q; exact .nil
  | [], _ :: _, _, _, _, q => by simp only [argD] at q; cases q
  | m :: ms, [], _, _, _, q => by cases m <;> simp only [argD] at q <;> cases q
  | m :: ms, r :: rs, _, _, h, q => by
    cases h with
    | cons h1 h2 =>
      cases m with
      | v =>
        cases r <;> simp only [argD] at q <;> try (cases q; done)
        rw [Option.map_eq_some_iff] at q
        obtain ⟨ds, q1, rfl⟩ := q
        exact .v h1 (args_ok S h2 q1)
      | r =>
        simp only [argD] at q
        cases d1 : S3.rd r e with
        | none => rw [d1] at q; cases q
        | some d =>
          rw [d1] at q
          dsimp only at q
          rw [Option.map_eq_some_iff] at q
          obtain ⟨ds, q1, rfl⟩ := q
          exact .r (h1.rd S d1) (args_ok S h2 q1)
      | m =>
        cases r <;> simp only [argD] at q <;> try (cases q; done)
        rename_i i
        cases d1 : S3.slot e i <;> rw [d1] at q <;> dsimp only at q <;> try (cases q; done)
        all_goals
          rw [Option.map_eq_some_iff] at q
          obtain ⟨ds, q1, rfl⟩ := q
          obtain ⟨a, g1, g2, g3, _⟩ := own_at S d1 rfl rfl
          have h1' : σ[i]? = some (some _) := h1
          rw [g1] at h1'
          cases h1'
          exact .m g2 g3 (args_ok S h2 q1)
theorem held_at : ∀ {vs : List V} {rs : List RV} {j : Nat} {v : V}, Helds Z F σ vs rs → vs[j]? = some v → ∃ r, rs[j]? = some r ∧ Held Z F σ v r
  | _, _, _, _, .nil, h => by simp at h
  | _, _, 0, _, .cons a _, h => by simp at h; subst h; exact ⟨_, rfl, a⟩
  | _, _, j + 1, _, .cons _ t, h => by
    obtain ⟨r, h1, h2⟩ := held_at (j := j) t (by simpa using h)
    exact ⟨r, by simpa using h1, h2⟩
def ArgAt (e : Env) (m : Md) (r : RV) (d : D) : Prop := match m with
  | .v => r = .fz d
  | .r => S3.rd r e = some d
  | .m => ∃ i, r = .at i ∧ (S3.slot e i).own = true ∧ (S3.slot e i).val = some d
theorem argD_at : ∀ {ms : List Md} {rs : List RV} {ds : List D} {j : Nat} {m : Md} {r : RV} {d : D}, argD ms rs e = some ds → ms[j]? = some m → rs[j]? = some r → ds[j]? = some d →
    ArgAt e m r d
  | [], _, _, _, _, _, _, _, h, _, _ => by simp at h
  | m :: ms, [], _, _, _, _, _, q, _, _, _ => by cases m <;> simp only [argD] at q <;> cases q
  | m :: ms, r :: rs, ds, j, _, _, _, q, h1, h2, h3 => by
    have key : ∃ d ds', ds = d :: ds' ∧ argD ms rs e = some ds' ∧ ArgAt e m r d := by
      cases m with
      | v =>
        cases r <;> simp only [argD] at q <;> try (cases q; done)
        rw [Option.map_eq_some_iff] at q
        obtain ⟨ds', q1, rfl⟩ := q
        exact ⟨_, _, rfl, q1, rfl⟩
      | r =>
        simp only [argD] at q
        cases d1 : S3.rd r e with
        | none => rw [d1] at q; cases q
        | some d =>
          rw [d1] at q
          dsimp only at q
          rw [Option.map_eq_some_iff] at q
          obtain ⟨ds', q1, rfl⟩ := q
          exact ⟨_, _, rfl, q1, d1⟩
      | m =>
        cases r <;> simp only [argD] at q <;> try (cases q; done)
        rename_i i
        cases d1 : S3.slot e i <;> rw [d1] at q <;> dsimp only at q <;> try (cases q; done)
        all_goals
          rw [Option.map_eq_some_iff] at q
          obtain ⟨ds', q1, rfl⟩ := q
          exact ⟨_, _, rfl, q1, i, rfl, by rw [d1]; rfl, by rw [d1]; rfl⟩
    obtain ⟨d, ds', rfl, q1, k⟩ := key
    cases j with
    | zero => simp at h1 h2 h3; subst h1 h2 h3; exact k
    | succ j => exact argD_at (j := j) q1 (by simpa using h1) (by simpa using h2) (by simpa using h3)
theorem mutIx_mem : ∀ {ms : List Md} {rs : List RV} {i p : Nat}, ms[i]? = some .m → rs[i]? = some (.at p) → p ∈ mutIx ms rs
  | [], _, _, _, h, _ => by simp at h
  | _ :: _, [], _, _, _, h => by simp at h
  | m :: ms, r :: rs, 0, p, h1, h2 => by simp at h1 h2; subst h1 h2; exact List.mem_cons_self
  | m :: ms, r :: rs, i + 1, p, h1, h2 => by
    have ih := mutIx_mem (ms := ms) (rs := rs) (i := i) (p := p) (by simpa using h1) (by simpa using h2)
    cases m <;> cases r <;> simp only [mutIx] <;> first | exact ih | exact List.mem_cons_of_mem _ ih
theorem atIx_count1 : ∀ {rs : List RV} {i p : Nat}, rs[i]? = some (.at p) → 1 ≤ (atIx rs).count p
  | [], _, _, h => by simp at h
  | r :: rs, 0, p, h => by simp at h; subst h; simp [atIx]
  | r :: rs, i + 1, p, h => by
    have ih := atIx_count1 (rs := rs) (i := i) (p := p) (by simpa using h)
    cases r <;> simp only [atIx] <;> first | exact ih | (rw [List.count_cons]; omega)
theorem atIx_count2 : ∀ {rs : List RV} {i j p : Nat}, i < j → rs[i]? = some (.at p) → rs[j]? = some (.at p) → 2 ≤ (atIx rs).count p
  | [], _, _, _, _, h, _ => by simp at h
  | r :: rs, 0, 0, _, l, _, _ => absurd l (Nat.lt_irrefl _)
  | r :: rs, i + 1, 0, _, l, _, _ => absurd l (Nat.not_lt_zero _)
  | r :: rs, 0, j + 1, p, _, h, k => by
    simp at h
    subst h
    have := atIx_count1 (rs := rs) (i := j) (p := p) (by simpa using k)
    simp only [atIx, List.count_cons_self]
    omega
  | r :: rs, i + 1, j + 1, p, l, h, k => by
    have ih := atIx_count2 (rs := rs) (i := i) (j := j) (p := p) (by omega) (by simpa using h) (by simpa using k)
    cases r <;> simp only [atIx] <;> first | exact ih | (rw [List.count_cons]; omega)
theorem apart_no {ms : List Md} {rs : List RV} {i j p : Nat} (h : apart ms rs = true) (hm : ms[i]? = some .m) (h1 : rs[i]? = some (.at p)) (h2 : rs[j]? = some (.at p)) (ne : i ≠ j) : False := by
  unfold apart at h
  have q := List.all_eq_true.mp h p (mutIx_mem hm h1)
  rw [beq_iff_eq] at q
  rcases Nat.lt_or_gt_of_ne ne with l | l
  · have := atIx_count2 l h1 h2; omega
  · have := atIx_count2 l h2 h1; omega
theorem apart_ok (S : SOk Z N F H σ e) {ms : List Md} {rs : List RV} {vs : List V} {ds : List D} (hl : Helds Z F σ vs rs) (q : argD ms rs e = some ds) (ap : apart ms rs = true) : ApartV Z F H ms vs ds := by
  intro i j a m d ne hi hj hd lv
  have A := args_ok S hl q
  unfold mAt at hi
  cases q1 : ms[i]? with
  | none => rw [q1] at hi; cases hi
  | some mi =>
    cases q2 : vs[i]? with
    | none => rw [q1, q2] at hi; cases mi <;> cases hi
    | some vi =>
      rw [q1, q2] at hi
      cases mi <;> cases vi <;> cases hi
      have li : i < ds.length := by rw [A.lens.2]; exact (List.getElem?_eq_some_iff.mp q1).1
      obtain ⟨ri, g1, g2⟩ := held_at hl q2
      obtain ⟨p, e1, ho, hv⟩ := argD_at q q1 g1 (List.getElem?_eq_getElem li)
      subst e1
      have g2' : σ[p]? = some (some (.ref a)) := g2
      have np : S3.slot e p ≠ .no := fun z => by rw [z] at ho; cases ho
      have gp := slot_get rfl np
      have lp : Live Z F H ((σ[p]?).join) (S3.slot e p) a := by
        rw [g2']
        cases q5 : S3.slot e p <;> rw [q5] at ho <;> first | rfl | cases ho
      obtain ⟨vj, hvj, _⟩ := A.at hj hd
      rw [hvj] at lv
      obtain ⟨rj, k1, k2⟩ := held_at hl hvj
      have kd := argD_at q hj k1 hd
      have atj : ∀ p2, rj = .at p2 → vj = .ref a → (∀ x, S3.slot e p2 = .fz x → x = d) → (∀ x, S3.slot e p2 = .bo x → x = d) → ¬ Rp Z F (.ref a) d ∨ (S3.slot e p2).own = true → False := by
        intro p2 e2 e3 z1 z3 z2
        subst e2 e3
        have k2' : σ[p2]? = some (some (.ref a)) := k2
        by_cases pp : p = p2
        · subst pp; exact apart_no ap q1 g1 k1 ne
        · cases q6 : S3.slot e p2 with
          | no =>
            cases m with
            | v => cases kd
            | r => have kd' : (S3.slot e p2).val = some d := kd; rw [q6] at kd'; cases kd'
            | m => obtain ⟨_, e5, o5, _⟩ := kd; cases e5; rw [q6] at o5; cases o5
          | fz x =>
            have e7 := z1 x q6
            subst e7
            obtain ⟨o, h1, w, rfl, r⟩ := S.slot p2 _ (slot_get q6 (by intro z; cases z))
            rw [k2'] at h1
            cases h1
            rcases z2 with z2 | z2
            · exact z2 r
            · rw [q6] at z2; cases z2
          | bo x =>
            have e7 := z3 x q6
            subst e7
            rcases z2 with z2 | z2
            · exact S.sep p p2 _ _ a gp (slot_get q6 (by intro z; cases z)) pp (Sl.own_ex ho) lp (by rw [k2']; exact ⟨rfl, z2⟩)
            · rw [q6] at z2; cases z2
          | ow x => exact S.sep p p2 _ _ a gp (slot_get q6 (by intro z; cases z)) pp (Sl.own_ex ho) lp (by rw [k2']; rfl)
          | mu x => exact S.sep p p2 _ _ a gp (slot_get q6 (by intro z; cases z)) pp (Sl.own_ex ho) lp (by rw [k2']; rfl)
          | dp g x =>
            cases m with
            | v => cases kd
            | r => have kd' : (S3.slot e p2).val = some d := kd; rw [q6] at kd'; cases kd'
            | m => obtain ⟨_, e5, o5, _⟩ := kd; cases e5; rw [q6] at o5; cases o5
      cases m with
      | v => exact lv
      | r =>
        obtain ⟨e3, nr⟩ := lv
        cases e3
        cases rj with
        | fz x => cases kd; exact nr k2
        | nw x => cases kd; exact nr k2
        | «at» p2 =>
          have kd' : (S3.slot e p2).val = some d := kd
          exact atj p2 rfl rfl (fun x hx => by rw [hx] at kd'; exact Option.some.inj kd') (fun x hx => by rw [hx] at kd'; exact Option.some.inj kd') (.inl nr)
        | dn x => cases kd
      | m =>
        have e3 : some vj = some (.ref a) := lv
        cases e3
        obtain ⟨p2, e5, o5, v5⟩ := kd
        subst e5
        exact atj p2 rfl rfl (fun x hx => by rw [hx] at o5; cases o5) (fun x hx => by rw [hx] at o5; cases o5) (.inr o5)

/-! the slots behind the call -/
/-- what has become of the slots: as they were, or (at is) another object's tree -/
def Wb (Z : Wd) (F H : Hp) (σ : St) (is : List Nat) (e e2 : Env) : Prop := e2.length = e.length ∧ ∀ j s2, e2[j]? = some s2 →
  ∃ s, e[j]? = some s ∧ ((j ∉ is ∧ s2 = s) ∨ (j ∈ is ∧ s.own = true ∧ ∃ a d', σ[j]? = some (some (.ref a)) ∧ s2 = reown s d' ∧ Top Z F H a d'))
theorem wb_ok : ∀ {is : List Nat} {ds : List D} {e e2 : Env}, wback is ds e = some e2 → is.Nodup →
    (∀ (k i : Nat) (d : D), is[k]? = some i → ds[k]? = some d → ∃ a, σ[i]? = some (some (V.ref a)) ∧ Top Z F H a d) → Wb Z F H σ is e e2
  | [], [], e, _, h, _, _ => by
    simp only [wback] at h
    cases h
    exact ⟨rfl, fun j s h => ⟨s, h, .inl ⟨by simp, rfl⟩⟩⟩
  | [], _ :: _, _, _, h, _, _ => by simp only [wback] at h; cases h
  | _ :: _, [], _, _, h, _, _ => by simp only [wback] at h; cases h
  | i :: is, d :: ds, e, e2, h, nd, ht => by
    obtain ⟨n1, n2⟩ := List.nodup_cons.mp nd
    obtain ⟨a, g1, g2⟩ := ht 0 i d rfl rfl
    have step : (S3.slot e i).own = true ∧ wback is ds (e.set i (reown (S3.slot e i) d)) = some e2 := by
      simp only [wback] at h
      cases q : S3.slot e i <;> rw [q] at h <;> dsimp only at h <;> first | exact ⟨rfl, h⟩ | cases h
    obtain ⟨o1, h1⟩ := step
    have ih := wb_ok h1 n2 fun k i' d' k1 k2 => ht (k + 1) i' d' (by simpa using k1) (by simpa using k2)
    have np : S3.slot e i ≠ .no := fun z => by rw [z] at o1; cases o1
    have gp := slot_get rfl np
    refine ⟨by rw [ih.1, List.length_set], fun j s2 hj => ?_⟩
    obtain ⟨s, k1, k2⟩ := ih.2 j s2 hj
    rcases get_set k1 with ⟨rfl, rfl, l⟩ | ⟨ne, k1'⟩
    · rcases k2 with ⟨_, rfl⟩ | ⟨m, _⟩
      · exact ⟨_, gp, .inr ⟨List.mem_cons_self, o1, a, d, g1, rfl, g2⟩⟩
      · exact (n1 m).elim
    · refine ⟨s, k1', ?_⟩
      rcases k2 with ⟨m, rfl⟩ | ⟨m, r⟩
      · exact .inl ⟨fun z => (List.mem_cons.mp z).elim (fun z => ne z.symm) m, rfl⟩
      · exact .inr ⟨List.mem_cons_of_mem _ m, r⟩
theorem live_reown {s : Sl} {d : D} {o : Option V} {a : Addr} (h : s.own = true) : Live Z F H o (reown s d) a ↔ Live Z F H o s a := by
  cases s <;> first | exact Iff.rfl | cases h
theorem SOk.callKp (S : SOk Z N F H σ e) {M : List Addr} {is : List Nat} (g : CGr F H M F' H') (hM : ∀ a, a ∈ M → ∃ i s, i ∈ is ∧ e[i]? = some s ∧ s.own = true ∧ σ[i]? = some (some (.ref a))) :
    (∀ {j : Nat} {s : Sl}, e[j]? = some s → j ∉ is → ∀ R d v f, s = .dp f d → (σ[j]?).join = some v → OwT Z F H R v (.ob d) → Kp R H H') ∧
    (∀ {j : Nat} {s : Sl} {a : Addr}, e[j]? = some s → (j ∉ is ∨ s.own = true) → Live Z F' H' ((σ[j]?).join) s a → Live Z F H ((σ[j]?).join) s a) := by
  have nM : ∀ {j : Nat} {s : Sl} {a : Addr}, e[j]? = some s → j ∉ is → Live Z F H ((σ[j]?).join) s a → a ∉ M := fun {j s a} h1 nj l hb => by
    obtain ⟨i, s', hi, h1', h2', h3'⟩ := hM a hb
    have ne : i ≠ j := fun z => nj (z ▸ hi)
    exact S.sep i j s' s a h1' h1 ne (Sl.own_ex h2') (by rw [h3']; cases s' <;> first | rfl | cases h2') l
  have kpc : ∀ {j : Nat} {s : Sl}, e[j]? = some s → j ∉ is → ∀ R d v f, s = .dp f d → (σ[j]?).join = some v → OwT Z F H R v (.ob d) → Kp R H H' := fun {j s} h1 nj R d v f es ev t b o hb m => by
    refine g.h b o hb fun hm => ?_
    rcases m with m | m
    · exact nM h1 nj (by rw [es]; exact ⟨v, R, ev, t, m⟩) hm
    · obtain ⟨i, s', hi, h1', h2', h3'⟩ := hM b hm
      have lv : Live Z F H ((σ[i]?).join) s' b := by rw [h3']; cases s' <;> first | rfl | cases h2'
      obtain ⟨_, u, hu, nt⟩ := S.liveN h1' lv
      rw [hb] at hu; cases hu
      exact m nt
  have ul : ∀ {j : Nat} {s : Sl} {a : Addr}, e[j]? = some s → (j ∉ is ∨ s.own = true) → Live Z F' H' ((σ[j]?).join) s a → Live Z F H ((σ[j]?).join) s a := fun {j s a} h1 nj l =>
    S.unlive h1 l g.f (fun b ⟨u, q, n⟩ => g.nf b u q n) fun R d v f es => by
      rcases nj with nj | nj
      · exact kpc h1 nj R d v f es
      · rw [es] at nj; cases nj
  exact ⟨kpc, ul⟩
theorem SOk.callLive (S : SOk Z N F H σ e) {M : List Addr} {is : List Nat} (g : CGr F H M F' H') (hM : ∀ a, a ∈ M → ∃ i s, i ∈ is ∧ e[i]? = some s ∧ s.own = true ∧ σ[i]? = some (some (.ref a)))
    (wb : Wb Z F' H' σ is e e') {j : Nat} {s : Sl} {b : Addr} (h : e'[j]? = some s) (l : Live Z F' H' ((σ[j]?).join) s b) : ∃ s0 u, e[j]? = some s0 ∧ Live Z F H ((σ[j]?).join) s0 b ∧ H b = some u := by
  obtain ⟨kpc, ul⟩ := S.callKp g hM
  obtain ⟨s0, g1, g2⟩ := wb.2 j s h
  have k1 : Live Z F H ((σ[j]?).join) s0 b := by
    rcases g2 with ⟨nj, rfl⟩ | ⟨_, ho, _, d', _, rfl, _⟩
    · exact ul g1 (.inl nj) l
    · exact ul g1 (.inr ho) ((live_reown ho).mp l)
  obtain ⟨_, u, hu⟩ := S.live g1 k1
  exact ⟨s0, u, g1, k1, hu⟩
/-- the frame's state behind a call -/
theorem SOk.called (S : SOk Z N F H σ e) {M : List Addr} {is : List Nat} (g : CGr F H M F' H') (hM : ∀ a, a ∈ M → ∃ i s, i ∈ is ∧ e[i]? = some s ∧ s.own = true ∧ σ[i]? = some (some (.ref a)))
    (wb : Wb Z F' H' σ is e e') : SOk Z N F' H' σ e' := by
  obtain ⟨kpc, ul⟩ := S.callKp g hM
  have nM : ∀ {j : Nat} {s : Sl} {a : Addr}, e[j]? = some s → j ∉ is → Live Z F H ((σ[j]?).join) s a → a ∉ M := fun {j s a} h1 nj l hb => by
    obtain ⟨i, s', hi, h1', h2', h3'⟩ := hM a hb
    have ne : i ≠ j := fun z => nj (z ▸ hi)
    exact S.sep i j s' s a h1' h1 ne (Sl.own_ex h2') (by rw [h3']; cases s' <;> first | rfl | cases h2') l
  exact {
  le := g.le
  f0 := S.f0.trans g.f
  h0 := fun b o h m => g.h b o (S.h0 b o h m) fun hb => by
    obtain ⟨i, s, _, h1, h2, h3⟩ := hM b hb
    obtain ⟨ov, k1, k2⟩ := S.slot i s h1
    rw [h3] at k1
    cases k1
    cases s <;> try (cases h2; done)
    · obtain ⟨c, e1, _, n, _⟩ := k2; cases e1; rw [n] at h; cases h
    · obtain ⟨c, e1, _, n, _⟩ := k2; cases e1; exact m n
  nf := fun b o h nt n => by
    by_cases m : b ∈ N.M
    · obtain ⟨x, ⟨u, y, ny⟩, z⟩ := S.mh b m
      exact g.nf b u y ny x
    · exact g.nf b o (S.h0 b o h m) nt (S.nf b o h nt n)
  len := by rw [S.len, wb.1]
  slot := fun j s2 hj => by
    obtain ⟨s, h1, h2⟩ := wb.2 j s2 hj
    obtain ⟨o, k1, k2⟩ := S.slot j s h1
    refine ⟨o, k1, ?_⟩
    rcases h2 with ⟨nj, rfl⟩ | ⟨mj, ho, a, d', g1, rfl, t⟩
    · have kp : ∀ a, Live Z F H o s2 a → ∀ u, H a = some u → H' a = some u := fun a l u hu => g.h a u hu fun hb => by
        obtain ⟨i, s, hi, h1', h2', h3'⟩ := hM a hb
        have ne : i ≠ j := fun z => nj (z ▸ hi)
        exact S.sep i j s s2 a h1' h1 ne (Sl.own_ex h2') (by rw [h3']; cases s <;> first | rfl | cases h2') (by rw [k1]; exact l)
      cases s2 with
      | no => trivial
      | fz d => obtain ⟨v, e, r⟩ := k2; exact ⟨v, e, r.mono g.f⟩
      | ow d => obtain ⟨a, e, x, y, t⟩ := k2; obtain ⟨u, hu, nt⟩ := t.thereN; exact ⟨a, e, g.nf _ _ hu nt x, y, t.keep g.f (kp a (by rw [e]; rfl))⟩
      | mu d => obtain ⟨a, e, x, y, t⟩ := k2; obtain ⟨u, hu, nt⟩ := t.thereN; exact ⟨a, e, g.nf _ _ hu nt x, y, t.keep g.f (kp a (by rw [e]; rfl))⟩
      | bo d =>
        obtain ⟨v, e, r⟩ := k2
        by_cases rr : Rp Z F v d
        · exact ⟨v, e, .inl (rr.mono g.f)⟩
        · rcases r with r | ⟨a, rfl, x, y, z, t⟩
          · exact (rr r).elim
          · obtain ⟨u, hu, nt⟩ := t.thereN
            exact ⟨_, e, .inr ⟨a, rfl, g.nf _ _ hu nt x, y, z, t.keep g.f (kp a (by rw [e]; exact ⟨rfl, rr⟩))⟩⟩
      | dp f d =>
        obtain ⟨v, R, e, t, y⟩ := k2
        exact ⟨v, R, e, t.mono g.f (fun b hb => by obtain ⟨q, u, hu, nt⟩ := t.there b hb; exact g.nf _ _ hu nt q) (kpc h1 nj R d v f rfl (by rw [k1]; exact e) t), y⟩
    · rw [k1] at g1
      cases g1
      cases s <;> try (cases ho; done)
      · obtain ⟨c, e1, x, y, t0⟩ := k2; cases e1; obtain ⟨u, hu, nt⟩ := t0.thereN; exact ⟨a, rfl, g.nf _ _ hu nt x, y, t⟩
      · obtain ⟨c, e1, x, y, t0⟩ := k2; cases e1; obtain ⟨u, hu, nt⟩ := t0.thereN; exact ⟨a, rfl, g.nf _ _ hu nt x, y, t⟩
  sep := fun i j s2 t2 a h1 h2 ne o l1 l2 => by
    obtain ⟨s, g1, g2⟩ := wb.2 i s2 h1
    obtain ⟨t, g3, g4⟩ := wb.2 j t2 h2
    have ho : s.ex = true := by
      rcases g2 with ⟨_, rfl⟩ | ⟨_, ho, _⟩
      · exact o
      · exact Sl.own_ex ho
    have k1 : Live Z F H ((σ[i]?).join) s a := by
      rcases g2 with ⟨nj, rfl⟩ | ⟨_, ho, _, d', _, rfl, _⟩
      · exact ul g1 (.inl nj) l1
      · exact ul g1 (.inr ho) ((live_reown ho).mp l1)
    have k2 : Live Z F H ((σ[j]?).join) t a := by
      rcases g4 with ⟨nj, rfl⟩ | ⟨_, ho, _, d', _, rfl, _⟩
      · exact ul g3 (.inl nj) l2
      · exact ul g3 (.inr ho) ((live_reown ho).mp l2)
    exact S.sep i j s t a g1 g3 ne ho k1 k2
  mh := fun a m => by
    obtain ⟨x, ⟨u, y, ny⟩, z⟩ := S.mh a m
    refine ⟨g.nf a u y ny x, ?_, z⟩
    by_cases hb : a ∈ M
    · obtain ⟨i, s, hi, h1', h2', h3'⟩ := hM a hb
      have il : i < e'.length := by rw [wb.1]; exact (List.getElem?_eq_some_iff.mp h1').1
      obtain ⟨s', k1, k2⟩ := wb.2 i _ (List.getElem?_eq_getElem il)
      rcases k2 with ⟨ni, _⟩ | ⟨_, _, a', d', e1, _, t⟩
      · exact (ni hi).elim
      · rw [h3'] at e1; cases e1; exact t.thereN
    · exact ⟨u, g.h a u y hb, ny⟩
  mus := fun i d h => by
    obtain ⟨s, g1, g2⟩ := wb.2 i _ h
    rcases g2 with ⟨_, rfl⟩ | ⟨_, ho, a, d', _, e1, _⟩
    · exact S.mus i d g1
    · cases s with
      | no => cases ho
      | fz d => cases ho
      | bo d => cases ho
      | dp f d => cases ho
      | ow d => simp only [reown] at e1; cases e1
      | mu d => exact S.mus i _ g1
  lkh := S.lkh
  lks := fun i j d a h m l => by
    obtain ⟨s, g1, g2⟩ := wb.2 i _ h
    rcases g2 with ⟨nj, rfl⟩ | ⟨_, ho, a, d', _, e1, _⟩
    · exact S.lks i j d a g1 m (ul g1 (.inl nj) l)
    · cases s with
      | no => cases ho
      | fz d => cases ho
      | bo d => cases ho
      | dp f d => cases ho
      | ow d => simp only [reown] at e1; cases e1
      | mu d => simp only [reown] at e1; cases e1
  bos := fun i d a r h k => by
    obtain ⟨s, g1, g2⟩ := wb.2 i _ h
    rcases g2 with ⟨_, rfl⟩ | ⟨_, ho, a, d', _, e1, _⟩
    · exact S.bos i d a r g1 k
    · cases s with
      | no => cases ho
      | fz d => cases ho
      | bo d => cases ho
      | dp f d => cases ho
      | ow d => simp only [reown] at e1; cases e1
      | mu d => simp only [reown] at e1; cases e1
  }
theorem outs_at : ∀ {ms : List Md} {rs : List RV} {vs : List V} {outs : List D}, Helds Z F σ vs rs → OutsOk Z F' H' ms vs outs → argD ms rs e = some ds →
    ∀ (k i : Nat) (d : D), (mutIx ms rs)[k]? = some i → outs[k]? = some d → ∃ a, σ[i]? = some (some (V.ref a)) ∧ Top Z F' H' a d := by
  intro ms
  induction ms generalizing ds with
  | nil => intro rs vs outs _ _ _ k i d h; simp [mutIx] at h
  | cons m ms ih =>
    intro rs vs outs hl ho q k i d h1 h2
    cases hl with
    | nil => cases m <;> simp [mutIx] at h1
    | @cons v vs r rs a hl =>
      have tail : ∃ ds', argD ms rs e = some ds' := by
        cases m with
        | v =>
          cases r <;> simp only [argD] at q <;> try (cases q; done)
          rw [Option.map_eq_some_iff] at q
          obtain ⟨ds', q1, _⟩ := q
          exact ⟨_, q1⟩
        | r =>
          simp only [argD] at q
          cases d1 : S3.rd r e with
          | none => rw [d1] at q; cases q
          | some d =>
            rw [d1] at q
            dsimp only at q
            rw [Option.map_eq_some_iff] at q
            obtain ⟨ds', q1, _⟩ := q
            exact ⟨_, q1⟩
        | m =>
          cases r <;> simp only [argD] at q <;> try (cases q; done)
          rename_i i
          cases d1 : S3.slot e i <;> rw [d1] at q <;> dsimp only at q <;> try (cases q; done)
          all_goals
            rw [Option.map_eq_some_iff] at q
            obtain ⟨ds', q1, _⟩ := q
            exact ⟨_, q1⟩
      obtain ⟨ds', q1⟩ := tail
      cases ho with
      | v ho => cases r <;> exact ih hl ho q1 k i d h1 h2
      | r ho => cases r <;> exact ih hl ho q1 k i d h1 h2
      | m t ho =>
        cases r <;> simp only [argD] at q <;> try (cases q; done)
        cases k with
        | zero => simp [mutIx] at h1 h2; subst h1 h2; exact ⟨_, a, t⟩
        | succ k => exact ih hl ho q1 k i d (by simpa [mutIx] using h1) (by simpa using h2)
theorem mset_at : ∀ {ms : List Md} {rs : List RV} {vs : List V} {ds : List D} {a : Addr}, Helds Z F σ vs rs → argD ms rs e = some ds → a ∈ mSet ms vs →
    ∃ i s, i ∈ mutIx ms rs ∧ e[i]? = some s ∧ s.own = true ∧ σ[i]? = some (some (.ref a)) := by
  intro ms rs vs ds a hl q h
  obtain ⟨j, hj⟩ := mem_mSet.mp h
  unfold mAt at hj
  cases q1 : ms[j]? with
  | none => rw [q1] at hj; cases hj
  | some mj =>
    cases q2 : vs[j]? with
    | none => rw [q1, q2] at hj; cases mj <;> cases hj
    | some vj =>
      rw [q1, q2] at hj
      cases mj <;> cases vj <;> cases hj
      obtain ⟨rj, g1, g2⟩ := held_at hl q2
      have len : ∀ {ms : List Md} {rs : List RV} {ds : List D}, argD ms rs e = some ds → ds.length = ms.length := by
        intro ms
        induction ms with
        | nil => intro rs ds q; cases rs <;> simp only [argD] at q <;> cases q; rfl
        | cons m ms ih =>
          intro rs ds q
          cases rs with
          | nil => cases m <;> simp only [argD] at q <;> cases q
          | cons r rs =>
            cases m with
            | v =>
              cases r <;> simp only [argD] at q <;> try (cases q; done)
              rw [Option.map_eq_some_iff] at q
              obtain ⟨ds', q1, rfl⟩ := q
              exact congrArg Nat.succ (ih q1)
            | r =>
              simp only [argD] at q
              cases d1 : S3.rd r e with
              | none => rw [d1] at q; cases q
              | some d =>
                rw [d1] at q
                dsimp only at q
                rw [Option.map_eq_some_iff] at q
                obtain ⟨ds', q1, rfl⟩ := q
                exact congrArg Nat.succ (ih q1)
            | m =>
              cases r <;> simp only [argD] at q <;> try (cases q; done)
              rename_i i
              cases d1 : S3.slot e i <;> rw [d1] at q <;> dsimp only at q <;> try (cases q; done)
              all_goals
                rw [Option.map_eq_some_iff] at q
                obtain ⟨ds', q1, rfl⟩ := q
                exact congrArg Nat.succ (ih q1)
      have lj : j < ds.length := by rw [len q]; exact (List.getElem?_eq_some_iff.mp q1).1
      obtain ⟨p, e1, ho, _⟩ := argD_at q q1 g1 (List.getElem?_eq_getElem lj)
      subst e1
      have np : S3.slot e p ≠ .no := fun z => by rw [z] at ho; cases ho
      exact ⟨p, _, mutIx_mem q1 g1, slot_get rfl np, ho, g2⟩
theorem mut_nodup : ∀ {ms : List Md} {rs : List RV}, apart ms rs = true → (mutIx ms rs).Nodup := by
  intro ms rs h
  have all : ∀ p ∈ mutIx ms rs, (atIx rs).count p = 1 := fun p hp => by
    unfold apart at h
    have q := List.all_eq_true.mp h p hp
    rwa [beq_iff_eq] at q
  clear h
  have le : ∀ (ms : List Md) (rs : List RV) (p : Nat), (mutIx ms rs).count p ≤ (atIx rs).count p := by
    intro ms
    induction ms with
    | nil => intro rs p; simp [mutIx]
    | cons m ms ih =>
      intro rs p
      cases rs with
      | nil => cases m <;> simp [mutIx]
      | cons r rs =>
        have := ih rs p
        cases m <;> cases r <;> simp only [mutIx, atIx, List.count_cons] <;> omega
  rw [List.nodup_iff_count]
  intro p
  by_cases hp : p ∈ mutIx ms rs
  · have := le ms rs p
    rw [all p hp] at this
    exact this
  · rw [List.count_eq_zero_of_not_mem hp]
    exact Nat.zero_le _
/-- THE CALL -/
theorem call_rd {ms : List Md} {phi : List D → RC} {a : AV} {Q : VK} (h : tEv Z W (eCall phi ms a) σ H Q) : tAv Z W a σ H fun vs H1 => spOf Z ms phi (vs ++ []) H1 Q (WE W σ) := by
  obtain ⟨N, F, e, S, P⟩ := h
  unfold eCall at P
  refine ⟨N, F, e, S, ?_⟩
  cases q : a e with
  | no => rw [q] at P; exact P
  | ex z e1 => rw [q] at P; exact P
  | ok rs e1 =>
    rw [q] at P
    dsimp only at P
    intro vs F1 H1 f1 S1 hl
    rw [List.append_nil]
    cases q1 : argD ms rs e1 with
    | none => rw [q1] at P; exact P.elim
    | some ds =>
      rw [q1] at P
      dsimp only at P
      split at P
      · rename_i ap
        refine ⟨F1, ds, S1.le, args_ok S1 hl q1, apart_ok S1 hl q1 ap, ?_⟩
        have P1 := PostE.shift P f1
        have after : ∀ {F' H' : Hp} {outs : List D} {e2 : Env}, CGr F1 H1 (mSet ms vs) F' H' → OutsOk Z F' H' ms vs outs → wback (mutIx ms rs) outs e1 = some e2 → SOk Z N F' H' σ e2 :=
          fun {F' H' outs e2} g ho w => S1.called g (fun a ha => mset_at hl q1 ha) (wb_ok w (mut_nodup ap) (outs_at hl ho q1))
        cases q2 : phi ds with
        | no => rw [q2] at P1; exact P1
        | ok n d outs =>
          rw [q2] at P1
          dsimp only at P1
          intro v F' H' g ho r
          cases q3 : wback (mutIx ms rs) outs e1 with
          | none => rw [q3] at P1; exact P1.elim
          | some e2 =>
            rw [q3] at P1
            have S2 := after g ho q3
            refine P1 v F' H' g.f S2 ?_
            unfold ResOk at r
            cases n with
            | false => rw [if_neg Bool.false_ne_true] at r; exact r
            | true =>
              rw [if_pos rfl] at r
              have l0 : ∀ {j : Nat} {s : Sl} {b : Addr}, e2[j]? = some s → Live Z F' H' ((σ[j]?).join) s b → H1 b ≠ none := fun {j s b} hj l z => by
                obtain ⟨s0, u, k1, k2, k3⟩ := S1.callLive g (fun a ha => mset_at hl q1 ha) (wb_ok q3 (mut_nodup ap) (outs_at hl ho q1)) hj l
                rw [z] at k3; cases k3
              obtain ⟨b, rfl, hb, fb, t⟩ := r
              exact ⟨b, rfl, fb, S1.nohave hb, t, fun j s hj l => l0 hj l hb⟩
        | dp d outs =>
          rw [q2] at P1
          dsimp only at P1
          intro v F' H' g ho ⟨R, t, hb⟩
          cases q3 : wback (mutIx ms rs) outs e1 with
          | none => rw [q3] at P1; exact P1.elim
          | some e2 =>
            rw [q3] at P1
            refine P1 v F' H' g.f (after g ho q3) ⟨R, t, fun b m => S1.nohave (hb b m), fun b m j s hj l => ?_⟩
            obtain ⟨s0, u, k1, k2, k3⟩ := S1.callLive g (fun a ha => mset_at hl q1 ha) (wb_ok q3 (mut_nodup ap) (outs_at hl ho q1)) hj l
            rw [hb b m] at k3; cases k3
        | ex x outs =>
          rw [q2] at P1
          dsimp only at P1
          intro cls dd F' H' g ho r
          cases q3 : wback (mutIx ms rs) outs e1 with
          | none => rw [q3] at P1; exact P1.elim
          | some e2 =>
            rw [q3] at P1
            exact P1 cls dd F' H' g.f (after g ho q3) r
      · exact P.elim
end
section
variable {ca : Str → Option Addr} {W : WX} {X : Cx} {a : Expr} {es : List Expr} {ga : AV} {pos p : Pos}
/-- a def of the module, as the module's code may call it -/
structure FnT (ca : Str → Option Addr) (P : Program) (w : World) (K : PySem.W.Frag) (mg : Str → Option Value) (base : Heap) (k : Nat) (n : Str) (ms : List Md) (phi : List D → RC) : Prop where
  ex : ∃ (f : Addr) (fd : FuncData) (ps : List Str), FnOk P w K mg base (L2N.CX P w) (2 * k) f fd ps (spOf ⟨P, w, K, ca⟩ ms phi) ∧ mg n = some (.ref f) ∧ PySem.W.keepIn K (.ref f) = true ∧ Binds K fd ps []
theorem ev_call {n : Str} {k : Nat} {ms : List Md} {phi : List D → RC} (G : FnT ca X.prog X.w X.K X.mg X.base k n ms phi) (hr : Room (2 * k + 1) X.A) (tk : L2N.Takes X W) (ha : Av ca W X (a :: es) ga) (hg : Gl X n := by rfl) (hdb : (n == ("__debug__" : Str)) = false := by decide)
    (he : starEach (a :: es) X.env = (false, eval a X.env) :: starEach es X.env := by rfl) (hpl : (backTo pos (starEach es X.env)).any (·.1) = false := by rfl) : Ev ca W X (.Call (.Name n p) (a :: es) [] pos) (eCall phi ms ga) := by
  obtain ⟨f, fd, ps, G, hm, hk, hb⟩ := G.ex
  exact PE_imp (pe_callSD G (hr.mono (Nat.le_succ _)) hg hm hk hb .nil (fun σ => L2N.passAt tk σ) ha hdb he hpl) fun _ _ _ => call_rd
open PySem.Spec PyProof.Rows in
end
end S3

/-! C3: chains, names from a tuple; the depth of calls; the law's end. -/
namespace S3
open PySem L2
/-- a o b o' c -/
def eChain (o o' : D → D → Option RV) (f g h : EV) : EV := eBind f fun r => eBind g fun q e => match rd r e, rd q e with
  | some x, some y => (match o x y with
    | some (.fz (.bl true)) => eBind h (fun p e => match rd q e, rd p e with
      | some y, some z => ofOp (o' y z) e
      | _, _ => .no) e
    | some (.fz (.bl false)) => .ok (.fz (.bl false)) e
    | _ => .no)
  | _, _ => .no
section
variable {Z : Wd} {F F' H H' : Hp} {N : En} {σ : St} {e e' : Env} {v x y : V} {W : WX} {E : Ends}
theorem chain_rd {r r' : V → V → Hp → VK → Prop} {o o' : D → D → Option RV} (hs : Sound2 Z r o) (hs' : Sound2 Z r' o') {fa fb fc : EV} {Q : VK} (h : tEv Z W (eChain o o' fa fb fc) σ H Q) :
    tChain r r' (tEv Z W fa) (tEv Z W fb) (tEv Z W fc) σ H Q := by
  obtain ⟨N, F, e, S, P⟩ := h
  refine bindL S P fun x F1 H1 e1 ra f1 S1 R1 P1 => ?_
  obtain ⟨F2, f2, S2, h2⟩ := RvOk.hold S1 R1
  refine bindL S2 (PostE.shift P1 f2) fun y F3 H3 e3 rb f3 T3 R3 P3 => ?_
  obtain ⟨F4, f4, S4, h4⟩ := RvOk.hold T3 R3
  have P4 := PostE.shift P3 f4
  have g2 := (h2.mono f3).mono f4
  cases d1 : S3.rd ra e3 with
  | none => rw [d1] at P4; exact P4.elim
  | some dx =>
    cases d2 : S3.rd rb e3 with
    | none => rw [d1, d2] at P4; exact P4.elim
    | some dy =>
      rw [d1, d2] at P4
      dsimp only at P4
      cases d3 : o dx dy with
      | none => rw [d3] at P4; exact P4.elim
      | some rr =>
        rw [d3] at P4
        have fin : ∀ b : Bool, rr = .fz (.bl b) → (if b = true then PostE Z N F4 σ W Q (eBind fc (fun p e => match S3.rd rb e, S3.rd p e with | some y, some z => ofOp (o' y z) e | _, _ => .no) e3) else PostE Z N F4 σ W Q (.ok (.fz (.bl false)) e3)) →
            r x y H3 fun z H4 => ∃ k, z = .bl k ∧ (if k = true then tEv Z W fc σ H4 fun w' H5 => r' y w' H5 Q else Q (.bl false) H4) := by
          rintro b rfl P5
          refine hs F4 H3 x y dx dy _ _ S4.le (g2.rd S4 d1) (h4.rd S4 d2) d3 fun v F' H' g n => ?_
          have T5 : SOk Z N F' H' σ e3 := S4.gr g
          have n' : Rp Z F' v (.bl b) := n
          refine ⟨b, RdV.bl (H := H') (.inl n'), ?_⟩
          cases b with
          | false =>
            rw [if_neg Bool.false_ne_true] at P5 ⊢
            exact P5 _ F' H' g.f T5 (.bl false)
          | true =>
            rw [if_pos rfl] at P5 ⊢
            have h5 := h4.mono g.f
            refine bindL T5 (PostE.shift P5 g.f) fun z F6 H6 e6 rc f6 T6 R6 P6 => ?_
            obtain ⟨F7, f7, S7, h7⟩ := RvOk.hold T6 R6
            have P7 := PostE.shift P6 f7
            have g5 := (h5.mono f6).mono f7
            cases d5 : S3.rd rb e6 with
            | none => rw [d5] at P7; exact P7.elim
            | some dy2 =>
              cases d6 : S3.rd rc e6 with
              | none => rw [d5, d6] at P7; exact P7.elim
              | some dz =>
                rw [d5, d6] at P7
                dsimp only at P7
                cases d7 : o' dy2 dz with
                | none => rw [d7] at P7; exact P7.elim
                | some r7 =>
                  rw [d7] at P7
                  exact hs' F7 H6 y z dy2 dz r7 Q S7.le (g5.rd S7 d5) (h7.rd S7 d6) d7 (op_end S7 P7)
        cases rr with
        | fz d =>
          cases d with
          | bl b =>
            refine fin b rfl ?_
            cases b with
            | true => exact P4
            | false => exact P4
          | _ => exact P4.elim
        | _ => exact P4.elim
end
section
variable {ca : Str → Option Addr} {W : WX} {X : Cx} {a b c : Expr} {fa fb fc : EV} {pos p : Pos} {st : Stmt}
theorem tv_chain {op op' : CmpOp} {r r' : R2} {o o' : D → D → Option RV} (ho : OpR X (compareOp op) r) (hs : Sound2 (zw ca X) r o) (ho' : OpR X (compareOp op') r') (hs' : Sound2 (zw ca X) r' o') (ha : Ev ca W X a fa) (hb : Ev ca W X b fb) (hc : Ev ca W X c fc)
    (hm : lastMarks [op, op'] [b, c] = false := by with_unfolding_all rfl) : Tv ca W X (.Compare a [op, op'] [b, c] pos) (tVal (eChain o o' fa fb fc)) := PT_imp (pt_chain ho ho' ha hb hc hm) fun _ _ Q h => by
  obtain h1 := test_val h
  have h2 := chain_rd hs hs' h1
  exact h2
theorem sv_unp {k n : Nat} {is : List Nat} {es : List Expr} {g : TGs} {p2 : Pos} (hc : X.calm = true) (h : Ev ca W X a fa) (hg : PGs X es g) (tk : TgsOk (zw ca X) g is) (hl : n = is.length := by rfl)
    (hn : (assignEach es X.env).length = n := by rfl) (hst : (assignEach es X.env).findIdx? (·.1) = none := by rfl) (hs : swapsWithSole [.Tuple es k p2] a pos.line X.env = pure false := by rfl) (hw : swappedStores [.Tuple es k p2] a X.env = pure none := by rfl)
    (h1 : (assignEach [.Tuple es k p2] X.env).map (·.2) = [assign (.Tuple es k p2) X.env] := by rfl) :
    Sv ca W X (.Assign [.Tuple es k p2] a pos) (sUnp is fa) := PS_imp (ps_asg h (pg_tup hc hg hn hst) hs hw h1) fun _ _ _ => st_unp (tg_tup tk hl rfl)
end
/-! ### in comprehensions nothing is raised -/
theorem takes0 {X : Cx} : L2N.Takes X W0 := fun u s' ⟨_, _, _, _, _, _, _, _, _, _, _, _, _, _, _, _, w⟩ => w.elim
section
variable {P : Program} {w : World} {K : PySem.W.Frag} {mg : Str → Option Value} {base : Heap} {ca : Str → Option Addr}
/-- at depth 0 nothing is promised -/
theorem FnT.zero {n : Str} {f : Addr} {fd : FuncData} {ps : List Str} {ms : List Md} {g : String} {tab : String → Option Def} (hf : mg n = some (.ref f)) (hk : PySem.W.keepIn K (.ref f) = true) (hb : Binds K fd ps []) : FnT ca P w K mg base 0 n ms (sem tab 0 g) :=
  ⟨f, fd, ps, ⟨fun vs H Q E ⟨_, _, _, _, _, z⟩ => z.elim, fun A outer s H args us vs Q E _ _ _ _ ⟨_, _, _, _, _, z⟩ => z.elim⟩, hf, hk, hb⟩
theorem FnT.succ {n : Str} {f : Addr} {fd : FuncData} {ps : List Str} {ms : List Md} {k : Nat} {g : String} {T : Def} {tab : String → Option Def} (h : FnOk P w K mg base (L2N.CX P w) (2 * (k + 1)) f fd ps (spOf ⟨P, w, K, ca⟩ T.ms (T.run (sem tab k)))) (hf : mg n = some (.ref f)) (hk : PySem.W.keepIn K (.ref f) = true)
    (hb : Binds K fd ps []) (ht : tab g = some T) (hm : T.ms = ms := by rfl) : FnT ca P w K mg base (k + 1) n ms (sem tab (k + 1) g) := by
  refine ⟨f, fd, ps, ?_, hf, hk, hb⟩
  subst hm
  have e : sem tab (k + 1) g = T.run (sem tab k) := by funext ds; simp only [sem, ht]
  rw [e]
  exact h
end

/-! ### the law's end -/
theorem u65 {k : Nat} {A : PySem.Around} (hr : Room k A) : A.units + 65 < PySem.cLine := by have := hr.un; omega
theorem law_end {Z : Wd} {phi : List D → RC} {H : Hp} {a : Addr} {ns : List Int} (hS : SqL Z.K H a (ns.map V.int)) (sol : phi [.scr (ns.map .int)] = .ok false (.bl true) []) : spOf Z [.v] phi [.ref a] H (fun v _ => v = .bl true) fun _ _ _ => False := by
  refine ⟨H, [.scr (ns.map .int)], Same.refl _, .v (.scr hS ?_) .nil, fun i j a m d _ hi => ?_, ?_⟩
  · clear sol hS
    induction ns with
    | nil => exact .nil
    | cons n ns ih => exact .cons (.int n) ih
  · unfold mAt at hi
    cases i with
    | zero => cases hi
    | succ i => cases hi
  · rw [sol]
    intro v F' H' g o r
    unfold ResOk at r
    rw [if_neg Bool.false_ne_true] at r
    exact RdV.bl (H := H') (.inl r)
theorem law_CX {P : Program} (w : World) (H : Hp) (s : Shared) (e : Value) (s' : Shared) (h : L2N.CX P w [] H s (fun _ _ _ => False) e s') : False := by
  obtain ⟨_, _, _, _, _, _, _, _, _, _, _, _, z⟩ := h
  exact z
theorem call_strA {X : Cx} : CallR X (.type "str") (fun xs H Q => (∃ a, xs = [V.str a] ∧ Q (.str a) H) ∨ ∃ i, xs = [V.int i] ∧ i.natAbs.log2 < 1920 ∧ Q (.str (toString i)) H) := CallR.or SkE.call_str_str call_str_int
end S3

/-! C4: more of the language: reversed, starred, dicts. -/
namespace S3
open PySem L2
/-! ### terms -/
def seqI : D → Option (List D)
  | .lst xs => some xs
  | .tup xs => some xs
  | _ => none
/-- *f, .. in a display -/
def aStar (f : EV) (g : AV) : AV := fun e => match f e with
  | .ok r e1 => (match (rd r e1).bind seqI with
    | some xs => (match g e1 with
      | .ok rs e2 => .ok (xs.map .fz ++ rs) e2
      | .ex x e2 => .ex x e2
      | .no => .no)
    | none => .no)
  | .ex x e1 => .ex x e1
  | .no => .no
section
variable {Z : Wd} {F F' H H' : Hp} {N : En} {σ : St} {e e' : Env} {v x y : V} {W : WX} {E : Ends}
theorem helds_map : ∀ {xs : List V} {ds : List D}, RpA Z F xs ds → Helds Z F σ xs (ds.map .fz)
  | _, _, .nil => .nil
  | _, _, .cons h r => .cons h (helds_map r)
theorem helds_app : ∀ {xs ys : List V} {rs qs : List RV}, Helds Z F σ xs rs → Helds Z F σ ys qs → Helds Z F σ (xs ++ ys) (rs ++ qs)
  | _, _, _, _, .nil, h => h
  | _, _, _, _, .cons a r, h => .cons a (helds_app r h)
theorem tAv_star {K : PySem.W.Frag} (hK : Z.K = K) {f : EV} {g : AV} {Q : List V → Hp → Prop} (h : tAv Z W (aStar f g) σ H Q) : StX.tStar K (tEv Z W f) (tAv Z W g) σ H Q := by
  obtain ⟨N, F, e, S, P⟩ := h
  unfold aStar at P
  refine ⟨N, F, e, S, ?_⟩
  cases q : f e with
  | no => rw [q] at P; exact P
  | ex z e1 => rw [q] at P; exact P
  | ok r e1 =>
    rw [q] at P
    dsimp only at P
    intro x F1 H1 f1 S1 R1
    obtain ⟨F2, f2, S2, h2⟩ := RvOk.hold S1 R1
    cases d1 : S3.rd r e1 with
    | none => rw [d1] at P; exact P.elim
    | some dx =>
      rw [d1] at P
      dsimp only [Option.bind] at P
      cases d2 : seqI dx with
      | none => rw [d2] at P; exact P.elim
      | some ds =>
        rw [d2] at P
        dsimp only at P
        have hx := h2.rd S2 d1
        obtain ⟨a, xs, ex, hq, ra⟩ : ∃ a xs, x = V.ref a ∧ (SqT K H1 a xs ∨ SqL K H1 a xs) ∧ RpA Z F2 xs ds := by
          cases dx <;> simp only [seqI] at d2 <;> cases d2
          · obtain ⟨a, xs, rfl, ha, ra⟩ := hx.lst S2.le; exact ⟨a, xs, rfl, .inr (SqL.of ha), ra⟩
          · obtain ⟨a, xs, rfl, ha, ra⟩ := hx.tup S2.le; exact ⟨a, xs, rfl, .inl (SqT.of ha), ra⟩
        refine ⟨a, xs, ex, hq, N, F2, e1, S2, ?_⟩
        cases q3 : g e1 with
        | no => rw [q3] at P; exact P
        | ex z e2 => rw [q3] at P; exact fun cls d F3 H3 f3 S3 x => P cls d F3 H3 ((f1.trans f2).trans f3) S3 x
        | ok rs e2 =>
          rw [q3] at P
          exact fun ys F3 H3 f3 S3 h3 => P (xs ++ ys) F3 H3 ((f1.trans f2).trans f3) S3 (helds_app (helds_map (ra.mono f3)) h3)
end
section
variable {Z : Wd} {F F' H H' : Hp} {N : En} {σ : St} {e e' : Env} {v x y : V} {W : WX} {E : Ends}
theorem PostE.imp {Q Q' : VK} {r : RE} (h : PostE Z N F σ W Q r) (i : ∀ v H, Q v H → Q' v H) : PostE Z N F σ W Q' r := by
  cases r with
  | no => exact h
  | ok r e => exact fun v F' H' f S R => i _ _ (h v F' H' f S R)
  | ex x e => exact h
end
section
variable {ca : Str → Option Addr} {W : WX} {X : Cx} {a b c : Expr} {fa fb fc : EV} {es : List Expr} {ga : AV} {pos p apos : Pos}
theorem av_star (h : Ev ca W X a fa) (k : Av ca W X es ga) (hs : starEach (.Starred a p :: es) X.env = (true, eval a X.env) :: starEach es X.env := by rfl) : Av ca W X (.Starred a p :: es) (aStar fa ga) := PA_imp (StX.pa_star h k hs) fun _ _ _ => tAv_star rfl
end
end S3

/-! C5: sets: {x}, set(xs), add, discard; sorted. -/
namespace S3
open PySem L2
/-! ### terms -/
def setOf (xs : List D) : Option RV := match toKeys xs with
  | some ks => if ks.length < 4000 then some (.nw (.st (dedKey ks))) else none
  | none => none
def opSet : D → Option RV
  | .lst xs => setOf xs
  | .tup xs => setOf xs
  | _ => none
section
variable {Z : Wd} {F F' H H' : Hp} {N : En} {σ : St} {e e' : Env} {v x y : V} {W : WX} {E : Ends}
theorem fin_st {ks : List Key} {Q : VK} (l : Same F H) (q : ∀ v F' H', Gr F H F' H' → NwOk Z H F' H' v (.nw (.st ks)) → Q v H') (r : kOk ks) : ∀ p, H p = none → Q (.ref p) (upd H p (SetGO Z.P Z.w p ks)) := fun p hp =>
  q (.ref p) F _ (Gr.lay l hp) ⟨p, rfl, hp, none_le l hp, upd_same, r⟩
theorem toKeys_ok : ∀ {ds : List D} {vs : List V} {ks : List Key}, RpA Z F vs ds → toKeys ds = some ks → kOk ks
  | [], _, _, .nil, e => by simp only [toKeys] at e; cases e; intro x h; cases h
  | d :: ds, _, _, .cons h r, e => by
    simp only [toKeys] at e
    cases q1 : toKey d with
    | none => rw [q1] at e; cases e
    | some k =>
      cases q2 : toKeys ds with
      | none => rw [q1, q2] at e; cases e
      | some ks =>
        rw [q1, q2] at e
        cases e
        intro x hx
        rcases List.mem_cons.mp hx with z | z
        · cases d <;> simp only [toKey] at q1 <;> cases q1
          · cases z
          · cases z; exact (RdV.str (H := fun _ => none) (.inl h)).2.2
        · exact toKeys_ok r q2 x z
theorem kOk_add {ks : List Key} {k : Key} (h : kOk ks) (h2 : kOk [k]) : kOk (addKey ks k) := by
  intro x hx
  unfold addKey at hx
  split at hx
  · exact h x hx
  · rcases List.mem_append.mp hx with z | z
    · exact h x z
    · exact h2 x z
theorem kOk_ded {ks : List Key} (h : kOk ks) : kOk (dedKey ks) := by
  have : ∀ (ks acc : List Key), kOk acc → kOk ks → kOk (ks.foldl addKey acc) := by
    intro ks
    induction ks with
    | nil => intro acc h _; exact h
    | cons k ks ih =>
      intro acc h1 h2
      exact ih _ (kOk_add h1 fun x hx => h2 x (by rw [List.mem_singleton] at hx; rw [hx]; exact List.mem_cons_self)) fun x hx => h2 x (List.mem_cons_of_mem _ hx)
  exact this ks [] (fun x hx => by cases hx) h
theorem s_set : Sound1 Z (fun x => rSetG Z.K Z.P Z.w [x]) opSet := by
  intro F H x dx rr Q l hx ho q
  have key : ∀ (xs : List D) (a : Addr) (vs : List V), RpA Z F vs xs → setOf xs = some rr → x = .ref a → (∀ ks : List Key, vs = ks.map kV → SqL Z.K H a (ks.map kV) ∨ SqT Z.K H a (ks.map kV)) → rSetG Z.K Z.P Z.w [x] H Q := fun xs a vs ra ho ex hs => by
    unfold setOf at ho
    cases h1 : toKeys xs with
    | none => rw [h1] at ho; cases ho
    | some ks =>
      rw [h1] at ho
      dsimp only at ho
      split at ho
      · rename_i hz
        cases ho
        have e := toKeys_rd ra h1
        exact ⟨a, ks, by rw [ex], hs ks e, by unfold PySem.scanBound; omega, fin_st l q (kOk_ded (toKeys_ok ra h1))⟩
      · cases ho
  cases dx <;> simp only [opSet] at ho <;> try (cases ho; done)
  · obtain ⟨a, vs, rfl, ha, ra⟩ := hx.lst l
    exact key _ a vs ra ho rfl fun ks e => .inl (by rw [← e]; exact SqL.of ha)
  · obtain ⟨a, vs, rfl, ha, ra⟩ := hx.tup l
    exact key _ a vs ra ho rfl fun ks e => .inr (by rw [← e]; exact SqT.of ha)
end
section
variable {ca : Str → Option Addr} {W : WX} {X : Cx} {a b c : Expr} {fa fb fc : EV} {es : List Expr} {ga : AV} {pos p apos : Pos}
end
end S3

/-! C6: enumerate, name += n, xs[i] = v, while (x := f) is None. -/
namespace S3
open PySem L2
/-! ### terms -/
def mPutL : D → D → D → Option D
  | .lst xs, .int k, v => (L2.ixN xs.length k).map fun j => .lst (xs.set j v)
  | _, _, _ => none
/-- xs[g] = f, xs at slot i -/
def sPutL (i : Nat) (f g : EV) : SV := sE f fun r e => match stl r e with
  | some (v, e1) => if mine isLst (slot e1 i) then (sE g fun q e2 => match rd q e2 with
    | some y => if mine isLst (slot e2 i) then (match (slot e2 i).val with
      | some d => (match mPutL d y v with
        | some d' => .nx (e2.set i (reown (slot e2 i) d'))
        | none => .no)
      | none => .no) else .no
    | none => .no) e1 else .no
  | none => .no
section
variable {Z : Wd} {F F' H H' : Hp} {N : En} {σ : St} {e e' : Env} {v x y : V} {W : WX} {E : Ends}
theorem mputL_rd {a : Addr} {d dy dv d' : D} (t : Top Z F H a d) (hy : RdV Z F H y dy) (rv : Rp Z F v dv) (h : mPutL d dy dv = some d') : ∃ (xs : List V) (k : Int) (j : Nat), y = .int k ∧ H a = some (.lst xs) ∧ ixN xs.length k = some j ∧ Top Z F (upd H a (.lst (xs.set j v))) a d' := by
  cases d <;> simp only [mPutL] at h <;> try (cases h; done)
  rename_i ds
  cases dy <;> simp only at h <;> try (cases h; done)
  rename_i k
  rw [Option.map_eq_some_iff] at h
  obtain ⟨j, hj, rfl⟩ := h
  obtain ⟨xs, ha, r⟩ := t
  exact ⟨xs, k, j, hy.int, ha, by rw [r.length]; exact hj, _, upd_same, r.set j rv⟩
theorem putL_rd {i : Nat} {f g : EV} (p : tSv Z W (sPutL i f g) E σ H) : tAsg (tEv Z W f) (gSub (tVar i) (tEv Z W g) rSetL) E σ H := by
  obtain ⟨N, F, e, S, P⟩ := p
  refine bindS S P fun v F1 H1 e1 r f1 S1 R1 P1 => ?_
  cases c1 : S3.stl r e1 with
  | none => rw [c1] at P1; exact P1.elim
  | some pr =>
    obtain ⟨dv, e2⟩ := pr
    rw [c1] at P1
    dsimp only at P1
    obtain ⟨F2, f2, S2, r2⟩ := RvOk.stl S1 R1 c1
    split at P1
    · rename_i hm
      obtain ⟨ho, d0, hd0, hk0⟩ := mine_own hm
      obtain ⟨a, h1, f0, t0, g0⟩ := own_at S2 rfl ho hd0
      refine ⟨.ref a, h1, ?_⟩
      refine bindS S2 (PostS.shift P1 f2) fun y F3 H3 e3 q f3 T3 R3 P3 => ?_
      obtain ⟨F4, f4, S4, h4⟩ := RvOk.hold T3 R3
      have P4 := PostS.shift P3 f4
      cases c2 : S3.rd q e3 with
      | none => rw [c2] at P4; exact P4.elim
      | some dy =>
        rw [c2] at P4
        dsimp only at P4
        split at P4
        · rename_i hm4
          obtain ⟨ho4, d4, hd4, hk4⟩ := mine_own hm4
          obtain ⟨a', h1', f0', t4, g4⟩ := own_at S4 rfl ho4 hd4
          rw [h1] at h1'
          cases h1'
          rw [hd4] at P4
          dsimp only at P4
          cases c3 : mPutL d4 dy dv with
          | none => rw [c3] at P4; exact P4.elim
          | some d' =>
            rw [c3] at P4
            obtain ⟨xs, k, j, ey, ha, hj, t'⟩ := mputL_rd t4 (h4.rd S4 c2) (r2.mono (f3.trans f4)) c3
            exact ⟨a, xs, k, j, rfl, ey, ha, hj, P4 F4 _ σ (Same.refl _) (S4.write g4 ho4 h1 t')⟩
        · exact P4.elim
    · exact P1.elim
end
section
variable {ca : Str → Option Addr} {W : WX} {X : Cx} {a b c : Expr} {fa fb fc : EV} {es : List Expr} {s1 : List Stmt} {ga : AV} {f : SV} {pos p p2 apos : Pos}
theorem sv_putL {i : Nat} {xx : Str} {px p2 : Pos} (hx : PE X (.Name xx px) (tVar i)) (ha : Ev ca W X a fa) (hb : Ev ca W X b fb) (hs : swapsWithSole [.Subscript (.Name xx px) b p2] a pos.line X.env = pure false := by rfl) (hw : swappedStores [.Subscript (.Name xx px) b p2] a X.env = pure none := by rfl)
    (h1 : (assignEach [.Subscript (.Name xx px) b p2] X.env).map (·.2) = [assign (.Subscript (.Name xx px) b p2) X.env] := by rfl)
    (hq : ∀ v, assign (.Subscript (.Name xx px) b p2) X.env v = (do
      let ov ← holding [v] (eval (.Name xx px) X.env)
      let iv ← holding [v, ov] (eval b X.env)
      standAt p2
      holding [v, ov, iv] (setItem ov iv v)
      release [v, ov, iv] []) := by intro _; rfl) :
    Sv ca W X (.Assign [.Subscript (.Name xx px) b p2] a pos) (sPutL i fa fb) := PS_imp (ps_asg ha (pg_sub hx hb set_list hq) hs hw h1) fun _ _ _ => putL_rd
end
end S3

/-! C7: comprehensions of two clauses: lists, sets. -/
namespace S3
open PySem L2
/-! ### terms -/
section
variable {β : Type}
end
section
variable {Z : Wd} {F F' H H' : Hp} {N : En} {σ : St} {e e' : Env} {v x y : V} {W : WX} {E : Ends}
/-! ### a heap without one place -/
/-! ### the block's slots behind a target -/
end
section
variable {ca : Str → Option Addr} {W : WX} {X : Cx} {fe f1 : EV} {w : WV} {c c1 : TV} {elt tg iter tg1 iter1 : Expr} {ifs ifs1 : List Expr} {scope : Scope} {own : List (Str × Nat)} {own1 : List Nat} {pos : Pos} {g g1 : TG} {t t1 : Tg}
end
end S3

/-! E1: an exception of an own class over ValueError whose __init__ says super().__init__('..') and keeps its arguments in fields of their names: what its making leaves. -/
namespace PySem
namespace S3X
open PySem.W PySem.Calls PyProof.Rows PySem.HandSPX

/-- the assignments self.f = f -/
def IsAsg : List Str → List Stmt → Prop
  | [], [] => True
  | f :: fs, s :: r => (∃ q1 q2 q3 q4, s = .Assign [.Attribute (.Name "self" q1) f q2] (.Name f q3) q4) ∧ IsAsg fs r
  | _, _ => False
/-- the text of such an __init__ -/
structure InitTxt (ps : Arguments) (sc : Scope) (body : List Stmt) (fs : List Str) : Prop where
  head : ∃ ar, (ps.posonlyargs ++ ps.args).head? = some ar ∧ ar.arg = "self"
  body : ∃ (txt : Str) (j : Nat) (p0 p1 p2 p3 p4 p5 : Pos) (asg : List Stmt), body = .Expr (.Call (.Attribute (.Call (.Name "super" p0) [] [] p1) "__init__" p2) [.Constant (.str txt) j p3] [] p4) p5 :: asg ∧ (p2.endLine == p4.line) = true ∧ IsAsg fs asg
  su : sc.names.lookup ("super" : Str) = some .globalImplicit
  cl : sc.names.lookup ("__class__" : Str) = some .free
  se : sc.names.lookup ("self" : Str) = some .local
  fl : ∀ f ∈ fs, sc.names.lookup f = some .local
  nd : (("self" : Str) :: fs).Nodup
  db : ∀ f ∈ fs, (f == ("__debug__" : Str)) = false
  nc : ∀ x ∈ sc.names, x.2 ≠ .cell
  co : sc.isCoroutine = false
  gn : sc.isGenerator = false
  kd : sc.kind = .function
/-- what the written part says of the class at C -/
structure ExT (prog : Program) (K : Frag) (C fI cc cda : Addr) (fd : FuncData) (fs : List Str) : Prop where
  cls : ∃ nm q N bs bm sn sub ab col dd k0 k1 k2 k3 k5, K.lookup C = some (excClassObj nm q C N bs bm true sn sub ab col dd k0 k1 k2 k3 k5 "ValueError.__new__") ∧ refsVE bm = true
  sa : findIn K (.ref C) "__setattr__" = some (some (.builtin "object.__setattr__"))
  exC : subIn K (.ref C) (.type "BaseException") = some true
  tyC : typeIn K (.ref C) = some (.type "type")
  kC : keepIn K (.ref C) = true
  noN : ∀ f ∈ fs, findIn K (.ref C) f = some none
  iC : findIn K (.ref C) "__init__" = some (some (.ref fI))
  tI : typeIn K (.ref fI) = some (.type "function")
  sup : ks_superIn K C C "__init__" = some (some (.builtin "ValueError.__init__"))
  vB : subIn K (.ref C) (.type "ValueError") = some true
  mC : mroIn K C (.ref C) = some true
  opq : nsIn K cStatics "thirdparty.any" = some none
  fn : ∃ oc od osl, K.lookup fI = some ⟨oc, od, .func fd, osl⟩
  fe : ∃ name qual params body scope dV kV doc pm an ct, fd = ksFn name qual params body scope dV kV doc pm an (.ref cda) ct cc ∧ InitTxt params scope body fs
  cd : codeIn K (.ref cda) fd.qualname = true
  code : ∃ ccl cdd vs ccs file tf, K.lookup cda = some ⟨ccl, cdd, .fields vs, ccs⟩ ∧ vs[2]? = some (.str file tf) ∧ ((prog.main.file : Str) == file) = true
  cell : ∃ cl cld csl, K.lookup cc = some ⟨cl, cld, .cell (some (.ref C)), csl⟩
  bd : ∀ (s : Shared) (e : Addr) (us : List Value), us.length = fs.length → BindsTo s fd ⟨.ref e :: us, []⟩ (("self", .ref e) :: fs.zip us)
  top : (prog.main.scope.names.lookup ("super" : Str)).isSome = false
abbrev exO (C : Addr) (d : Option Addr) (t : Addr) : Obj := { cls := .ref C, dict := d, data := .fields #[.ref t, .none, .none, .none, .bool false, .none] }
/-- fields put one after the other -/
def putAll : List (Str × Value) → (Str → Option Value) → Str → Option Value
  | [], m => m
  | (f, v) :: r, m => putAll r fun y => if y = f then some v else m y
section
variable {prog : Program} {w : World} {A : Around} {E : Value → Shared → Prop} {R : Result → Shared → Prop} {K : Frag} {C fI cc cda : Addr} {fd : FuncData} {fs : List Str}
theorem ldN {M : Model} {s : Shared} {env : Env} {m : Str → Option Value} {x : Str} {pos : Pos} {v : Value} {Q : Value → Shared → Prop} (hn : s.heap.Ns env.locals m) (hv : m x = some v) (h : Q v s)
    (hk : env.scope.kind = .function) (hl : env.kindOf x = some .local) (hd : (x == ("__debug__" : Str)) = false) : wpAny M A (eval (.Name x pos) env) Q E s := wpAny_Name (wpAny_loadName_local hk hl hn hv h) hd
theorem clsIn_of (T : ExT prog K C fI cc cda fd fs) : ∃ cd, clsIn K C = some cd ∧ refsVE cd.mro = true ∧ cd.hasDict = true := by
  obtain ⟨nm, q, N, bs, bm, sn, sub, ab, col, dd, k0, k1, k2, k3, k5, hC, hbm⟩ := T.cls
  refine ⟨{ name := nm, bases := bs, mro := .ref C :: bm, ns := N, qualname := q, hasDict := true, slotNames := sn, subclasses := sub, abstract := ab, collection := col, hasDel := false }, ?_, hbm, rfl⟩
  unfold clsIn; rw [hC] <;> rfl
/-- the further fields -/
theorem asgs_old (T : ExT prog K C fI cc cda fd fs) {env : Env} {m : Str → Option Value} {e : Addr} (hk : env.scope.kind = .function) (se : env.kindOf "self" = some .local) (ms : m "self" = some (.ref e)) :
    ∀ {l : List (Str × Value)} {body : List Stmt} {s : Shared} {dx t1 : Addr} {m0 : Str → Option Value} {nl : List Str} {Q : Flow → Shared → Prop}, IsAsg (l.map (·.1)) body → (∀ p ∈ l, m p.1 = some p.2 ∧ env.kindOf p.1 = some .local ∧ (p.1 == ("__debug__" : Str)) = false ∧ p.1 ∈ fs) →
      K.In s.heap → s.heap.Ns env.locals m → env.locals ≠ dx → env.locals ≠ e → dx ≠ e → (∀ o, K.lookup dx ≠ some o) → s.heap.get? e = some (exO C (some dx) t1) → s.heap.Ns1 dx m0 → Within m0 nl → nl.length + l.length ≤ 900 →
      (∀ h' tk, (∀ b o, b ≠ dx → s.heap.get? b = some o → h'.get? b = some o) → h'.Ns1 dx (putAll l m0) → Q .next { s with heap := h', toks := tk }) → wpAny (model prog w) A (execs body env) Q E s := by
  obtain ⟨cd, hcl, hmr, hdi⟩ := clsIn_of T
  intro l
  induction l with
  | nil =>
    intro body s dx t1 m0 nl Q hb _ _ _ _ _ _ _ _ hns _ _ hq
    cases body with
    | cons _ _ => exact hb.elim
    | nil => exact wpAny_execs_nil (hq s.heap s.toks (fun _ _ _ h => h) hns)
  | cons p l ih =>
    intro body s dx t1 m0 nl Q hb hp X hn nL ne nd nK he hns hw hz hq
    obtain ⟨f, v⟩ := p
    cases body with
    | nil => exact hb.elim
    | cons st body =>
      obtain ⟨⟨q1, q2, q3, q4, rfl⟩, hb⟩ := hb
      obtain ⟨mv, kf, df, hf⟩ := hp (f, v) List.mem_cons_self
      refine wpAny_execs_cons (plainObj_wpAny_Assign_Attribute ?_)
      refine ldN hn mv (ldN hn ms ?_ hk se (by decide)) hk kf df
      obtain ⟨hp', g, d, t, os⟩ := s
      obtain ⟨oD, esD, epD, hoD, hdD, _⟩ := hns.count hw
      refine set_plain X (ox := exO C (some dx) t1) (od := some oD) ⟨he, rfl, rfl, hoD⟩ T.sa ?_
      refine PySem.OEX.osa_old X he hns hw (by rw [List.length_cons] at hz; omega) hcl hmr hdi (T.noN f hf) (fun h' tk' k hn' => ?_)
      have X' : K.In h' := fun a o q => k a o (fun z => nK o (by rw [← z]; exact q)) (X a o q)
      refine ih hb (fun p hp' => hp p (List.mem_cons_of_mem _ hp')) X' (hn.at fun o q => k _ _ nL q) nL ne nd nK (k _ _ (Ne.symm nd) he) hn' (Within.cons f v hw) (by rw [List.length_cons] at hz ⊢; omega) fun h2 tk2 k2 hn2 => ?_
      exact hq h2 tk2 (fun b o hb ho => k2 b o hb (k b o hb ho)) hn2
end
end S3X
end PySem

/-! E2: the __init__ run, the exception made. -/
namespace PySem
namespace S3X
open PySem.W PySem.Calls PyProof.Rows PySem.HandSPX
section
variable {prog : Program} {w : World} {A : Around} {E : Value → Shared → Prop} {R : Result → Shared → Prop} {K : Frag} {C fI cc cda : Addr} {fd : FuncData} {fs : List Str}
theorem quiet_of {env : Env} (h : env.scope.kind = .function) : interactive env = false := by
  unfold interactive
  first
    | (rw [h]; rfl)
    | simp [Env.blockKind, h]
theorem not_in {h : Heap} {b : Addr} (X : K.In h) (n : h.get? b = none) : ∀ o, K.lookup b ≠ some o := fun o q => by
  have := X _ _ q
  rw [n] at this; cases this
theorem call_line {o : Expr} {name : Str} {apos pos : Pos} {args : List Expr} {env : Env} (hf : methodCallForm (args.length + 0) (backTo pos (starEach args env)) [] = true) (hl : (apos.endLine == pos.line) = true) :
    eval (.Call (.Attribute o name apos) args [] pos) env = (do
      let ov ← attributeBase o name env (eval o env)
      standAt apos.atName
      let (f, first) ← holding [ov] (getMethod ov name (do return (← importBound o env).getD true))
      callWith pos f first (backTo pos (starEach args env)) []) := by
  have e : backToKw pos (keywordEach [] env) = [] := rfl
  have hp : methodCallPos true o env apos pos = pure pos := by unfold methodCallPos; simp [hl]
  have hc : ∀ ov, calleeOf true o env ov name = getMethod ov name (do return (← importBound o env).getD true) := fun _ => rfl
  rw [arm_eval_Call]
  unfold methodCall
  simp only [List.length_nil, e, hf, hp, hc, pure_bind]
/-- super().__init__('..') -/
theorem sup_run (T : ExT prog K C fI cc cda fd fs) {name qual : Str} {params : Arguments} {scope : Scope} {body : List Stmt} {dV kV doc pm ct : Value} {an : Option Addr} (hfd : fd = ksFn name qual params body scope dV kV doc pm an (.ref cda) ct cc) (I : InitTxt params scope body fs)
    {L e t0 : Addr} {h : Heap} {g : Array GenState} {d : Drawn} {t : Nat} {os : OsState} {m mg mb : Str → Option Value} {txt : Str} {j : Nat} {p0 p1 p2 p3 p4 p5 : Pos} {Q : Flow → Shared → Prop} (hl : (p2.endLine == p4.line) = true) (X : K.In h) (hn : h.Ns L m) (ms : m "self" = some (.ref e)) (G : h.Ns mainGlobals mg) (hms : mg "super" = none) (B : h.Ns builtinsNs mb) (hbs : mb "super" = some (.type "super"))
    (hx : h.get? e = some (exO C none t0)) (hnx : ∀ o, K.lookup e ≠ some o)
    (hq : ∀ h' t1 tk, (∀ b o, b ≠ e → h.get? b = some o → h'.get? b = some o) → h'.get? e = some (exO C none t1) → Q .next ⟨h', g, d, tk, os⟩) :
    _root_.PySem.wpAt (model prog w) A (.func body (ksEnv qual scope L fI (.ref cda) cc)) (exec (.Expr (.Call (.Attribute (.Call (.Name "super" p0) [] [] p1) "__init__" p2) [.Constant (.str txt) j p3] [] p4) p5) (ksEnv qual scope L fI (.ref cda) cc)) Q E ⟨h, g, d, t, os⟩ := by
  obtain ⟨cdC, hcl, hmr, hdi⟩ := clsIn_of T
  obtain ⟨nm, q, N, bs, bm, sn, sub, ab, col, dd, k0, k1, k2, k3, k5, hC, hbm⟩ := T.cls
  obtain ⟨oc, od, osl, hf⟩ := T.fn
  obtain ⟨ar, har, hself⟩ := I.head
  obtain ⟨ccl, cdd, vs, ccs, file, tf, hcode, hvs, hfile⟩ := T.code
  obtain ⟨cl, cld, csl, hcell⟩ := T.cell
  refine ks_wpAt_Expr_any (ks_wpAt_MethodCall (pl := do return (← importBound (.Call (.Name "super" p0) [] [] p1) (ksEnv qual scope L fI (.ref cda) cc)).getD true) ?_ (call_line (by rfl) hl)) (hi := quiet_of I.kd)
  refine ks_wpAt_super_base (of := ⟨oc, od, .func fd, osl⟩) (fd := fd) I.su I.cl (by decide) rfl (X _ _ hf) rfl (by rw [hfd]; exact har) rfl (X _ _ hcode) rfl hvs hfile T.top ?_
  refine ks_loadName_global I.kd I.su (loadGlobal_builtin G hms B hbs ⟨rfl, ?_⟩)
  refine wpAny_loadName_free I.kd I.cl rfl ⟨_, X _ _ hcell, rfl⟩ ?_
  refine wpAny_loadName_local I.kd (by rw [hself]; exact I.se) hn (by rw [hself]; exact ms) ?_
  refine ks_wpAny_isType_cls (X _ _ hC) rfl ⟨rfl, ?_⟩
  refine ks_wpAny_call_super (X _ _ hC) rfl hx rfl (fun c z => by cases z) (looks_mroIn X T.mC) (fun h1 e1 kk1 => ?_)
  have hx1 := kk1 _ _ hx
  have X1 : K.In h1 := X.keeps kk1
  have J1 : InstAt h1 e (exO C none t0) C none := ⟨hx1, rfl, rfl, trivial⟩
  have hI : Looks (model prog w) h1 (isInstance (.ref e) (.type "ValueError")) true := J1.type.andThen (looks_subIn X1 T.vB)
  have sp := T.sup
  unfold ks_superIn at sp
  rw [hcl] at sp
  refine kxs_getMethod kxs_ValueError e1 (looks_opaque X1 T.opq) (l₀ := cdC.mro) ?_ rfl X1 sp hI (fun z => hnx _ (by rw [z]; exact hC)) (by decide) ?_
  · exact fun A Q E s k q => wpAny_bind ((looks_clsIn X1 hcl) A _ E s k (wpAny_pure q))
  have k2 : ∀ b o, h1.get? b = some o → (h1.push (kxs_mw "ValueError.__init__" e)).get? b = some o := fun b o z => Heap.get?_push_of_some _ z
  have hu : (h1.push (kxs_mw "ValueError.__init__" e)).get? h1.objs.size = some (kxs_mw "ValueError.__init__" e) := Heap.get?_push_at rfl rfl
  refine kxs_callWith (i := "ValueError.__init__") (x := e) (by rfl) (evalArgs_plain (spliced_cons (Constant_str (k := j) (pos := p3) (spliced_nil ⟨hu, ?_⟩))))
  have hC2 := (X1.keeps k2) _ _ hC
  have he2 := k2 _ _ hx1
  refine wpAny_call (codeAny_of_tree ?_)
  show wpAny _ A.in1 (callAny (.ref _) ⟨_, []⟩) _ _ _
  simp only [callAny]
  refine wpAny_bind (wpAny_load hu ?_)
  simp only [kxs_mw, show (Value.type "method-wrapper" == Value.type "method" || Value.type "method-wrapper" == Value.type "builtin_function_or_method" || Value.type "method-wrapper" == Value.type "method-wrapper") = true by decide, if_true]
  refine KFB.if_so (by decide) ?_
  refine wpAny_bind (check_bound_init F.excBase_ValueError.toExcCallFacts hC2 he2 rfl ?_)
  refine wpAny_bind (wpAny_pure (wpAny_pure ?_))
  refine ⟨plainId_quiet F.excBase_ValueError.init.plain _, codeAny_builtin F.excBase_ValueError.initEntry ?_⟩
  refine exc_init_tree (cls := .ref C) (t0 := t0) (dv := none) (c2 := .none) (c3 := .none) (b4 := .bool false) he2 (by rw [sizeLine_eq]; simp) (fun h3 kk3 e3 _ => ?_)
  exact hq h3 _ _ (fun b o hb ho => kk3 b o hb (k2 b o (kk1 b o ho))) e3
end
end S3X
end PySem

/-! E3: an exception made by its class's call; the rule for raise. -/
namespace PySem
namespace S3X
open PySem.W PySem.Calls PyProof.Rows PySem.HandSPX
theorem lookup_rev : ∀ {l : List (Str × Value)} {f : Str} {v : Value}, (l.map (·.1)).Nodup → (f, v) ∈ l → l.reverse.lookup f = some v
  | [], _, _, _, h => by cases h
  | (g, u) :: l, f, v, nd, h => by
    rw [List.map_cons, List.nodup_cons] at nd
    rw [List.reverse_cons, List.lookup_append]
    rcases List.mem_cons.mp h with e | e
    · obtain ⟨e1, e2⟩ := Prod.mk.inj e
      rw [e1, e2]
      have : l.reverse.lookup g = none := by
        rw [List.lookup_eq_none_iff]
        intro p hp
        have hp' := List.mem_reverse.mp hp
        have : p.1 ≠ g := fun z => nd.1 (by rw [← z]; exact List.mem_map.mpr ⟨p, hp', rfl⟩)
        simpa using Ne.symm this
      rw [this]
      simp [List.lookup]
    · rw [lookup_rev nd.2 e]
      rfl
theorem keys_zip : ∀ {fs : List Str} {us : List Value}, us.length = fs.length → (fs.zip us).map (·.1) = fs
  | [], _, _ => rfl
  | f :: fs, [], h => by cases h
  | f :: fs, u :: us, h => by rw [List.zip_cons_cons, List.map_cons, keys_zip (Nat.succ.inj h)]
section
variable {prog : Program} {w : World} {A : Around} {E : Value → Shared → Prop} {R : Result → Shared → Prop} {K : Frag} {C fI cc cda : Addr} {fd : FuncData} {fs : List Str}
theorem init_run (T : ExT prog K C fI cc cda fd fs) {s : Shared} {e t0 : Addr} {us : List Value} {mg mb : Str → Option Value} (hfs : fs ≠ []) (hz : fs.length ≤ 800) (hl : us.length = fs.length) (X : K.In s.heap) (hlim : s.heap.NoLimit) (G : s.heap.Ns mainGlobals mg) (hms : mg "super" = none) (B : s.heap.Ns builtinsNs mb) (hbs : mb "super" = some (.type "super"))
    (hx : s.heap.get? e = some (exO C none t0)) (hnx : ∀ o, K.lookup e ≠ some o) (hroom : A.depth < recursionLimit)
    (hq : ∀ h' tk dx t1, (∀ b o, b ≠ e → s.heap.get? b = some o → h'.get? b = some o) → h'.get? e = some (exO C (some dx) t1) → s.heap.objs.size ≤ dx → dx ≠ e → h'.Ns1 dx (putAll (fs.zip us) fun _ => none) → R (.ok (.ret .none)) { s with heap := h', toks := tk }) :
    codeAny (model prog w) A (.call (.ref fI) ⟨.ref e :: us, []⟩) R s := by
  obtain ⟨oc, od, osl, hf⟩ := T.fn
  obtain ⟨name, qual, params, body, scope, dV, kV, doc, pm, an, ct, hfd, I⟩ := T.fe
  obtain ⟨cdC, hcl, hmr, hdi⟩ := clsIn_of T
  have hkeys : ((("self" : Str), Value.ref e) :: fs.zip us).map (·.1) = ("self" : Str) :: fs := by rw [List.map_cons, keys_zip hl]
  have hnd : (((("self" : Str), Value.ref e) :: fs.zip us).map (·.1)).Nodup := by rw [hkeys]; exact I.nd
  have lk : ∀ {f v}, (f, v) ∈ (("self" : Str), Value.ref e) :: fs.zip us → ((("self" : Str), Value.ref e) :: fs.zip us).reverse.lookup f = some v := fun h => lookup_rev hnd h
  have hT := T
  have hbd := T.bd s e us hl
  have hcd := T.cd
  subst hfd
  refine ks_codeAny_call_defAt (body := body) (binds := ("self", .ref e) :: fs.zip us) hroom (X _ _ hf) rfl hlim (codeRec_of X hcd) rfl hbd I.nc (fun x hx => ?_) (fun h1 hns k1 => ?_) I.co I.gn I.kd
  · rcases List.mem_cons.mp hx with q | q
    · rw [q]; exact I.se
    · exact I.fl _ (by rw [← keys_zip hl]; exact List.mem_map.mpr ⟨x, q, rfl⟩)
  obtain ⟨hp, g, d, t, os⟩ := s
  have X1 : K.In h1 := X.keeps k1
  have hL : ∀ {b : Addr} {o : Obj}, hp.get? b = some o → hp.objs.size ≠ b := fun z => Nat.ne_of_gt (Heap.lt_size z)
  obtain ⟨txt, j, p0, p1, p2, p3, p4, p5, asg, hb, hl2, ha⟩ := I.body
  show _root_.PySem.wpAt (model prog w) (A.deeper (ksEnv qual scope hp.objs.size fI (.ref cda) cc)) (.func body (ksEnv qual scope hp.objs.size fI (.ref cda) cc)) (execs body (ksEnv qual scope hp.objs.size fI (.ref cda) cc)) _ _ _
  have hex : execs body (ksEnv qual scope hp.objs.size fI (.ref cda) cc) = execs (.Expr (.Call (.Attribute (.Call (.Name "super" p0) [] [] p1) "__init__" p2) [.Constant (.str txt) j p3] [] p4) p5 :: asg) (ksEnv qual scope hp.objs.size fI (.ref cda) cc) := by rw [← hb]
  rw [hex]
  refine ks_wpAt_execs_cons (sup_run hT rfl I hl2 X1 hns (lk List.mem_cons_self) (G.keeps k1) hms (B.keeps k1) hbs (k1 _ _ hx) hnx (fun h2 t2 tk2 k2 e2 => ?_))
  show _root_.PySem.wpAt _ _ _ (execs asg _) _ _ _
  refine wpAt_of_wpAny ?_
  cases hfs' : fs with
  | nil => exact (hfs hfs').elim
  | cons f fs' =>
    cases hus' : us with
    | nil => rw [hus', hfs'] at hl; cases hl
    | cons v us' =>
      rw [hfs'] at ha
      cases asg with
      | nil => exact ha.elim
      | cons st asg =>
        obtain ⟨⟨q1, q2, q3, q4, rfl⟩, ha⟩ := ha
        have hff : f ∈ fs := by rw [hfs']; exact List.mem_cons_self
        have hzip : fs.zip us = (f, v) :: fs'.zip us' := by rw [hfs', hus', List.zip_cons_cons]
        have X2 : K.In h2 := fun a o q => k2 a o (fun z => hnx o (by rw [← z]; exact q)) (X1 a o q)
        have n2 := hns.at fun o q => k2 _ _ (hL hx) q
        refine wpAny_execs_cons (plainObj_wpAny_Assign_Attribute ?_)
        refine ldN n2 (lk (List.mem_cons_of_mem _ (by rw [hzip]; exact List.mem_cons_self))) (ldN n2 (lk List.mem_cons_self) ?_ I.kd I.se (by decide)) I.kd (I.fl f hff) (I.db f hff)
        refine set_plain X2 (ox := exO C none t2) (od := none) ⟨e2, rfl, rfl, trivial⟩ T.sa ?_
        refine exc_osa X2 e2 hcl hmr hdi (T.noN f hff) (fun h3 tk3 dx k3 dn dne e3 n3 => ?_)
        have X3 : K.In h3 := fun a o q => k3 a o (fun z => hnx o (by rw [← z]; exact q)) (X2 a o q)
        have h2L : ∀ {b : Addr} {o : Obj}, h2.get? b = some o → b ≠ dx := fun z => Nat.ne_of_lt (Nat.lt_of_lt_of_le (Heap.lt_size z) dn)
        have dxn : h2.get? dx = none := by
          cases q : h2.get? dx with
          | none => rfl
          | some o => exact absurd rfl (h2L q)
        obtain ⟨oL, _, _, hoL, _⟩ := id n2
        have old : ∀ {b : Addr} {o : Obj}, b ≠ e → hp.get? b = some o → h2.get? b = some o := fun hb z => k2 _ _ hb (k1 _ _ z)
        have hlen : us'.length = fs'.length := by rw [hfs', hus'] at hl; exact Nat.succ.inj hl
        have szz : hp.objs.size ≤ dx := Nat.le_of_lt (Nat.lt_of_lt_of_le (Heap.lt_size hoL) dn)
        refine asgs_old hT (env := ksEnv qual scope hp.objs.size fI (.ref cda) cc) (m := fun x => ((("self" : Str), Value.ref e) :: fs.zip us).reverse.lookup x) (e := e) I.kd I.se (lk List.mem_cons_self) (l := fs'.zip us') (dx := dx) (t1 := t2) (nl := [f]) (by rw [keys_zip hlen]; exact ha) (fun p hp' => ?_) X3 (n2.at fun o q => k3 _ _ (hL hx) q) (h2L hoL) (hL hx) dne (not_in X2 dxn) e3 n3
          (Within.cons f v (fun y hy => absurd rfl hy)) (by rw [List.length_zip, hlen, Nat.min_self]; rw [hfs', List.length_cons] at hz; show 1 + fs'.length ≤ 900; omega) (fun h4 tk4 k4 n4 => ?_)
        · have hm : p.1 ∈ fs := by rw [hfs', ← keys_zip hlen]; exact List.mem_cons_of_mem _ (List.mem_map.mpr ⟨p, hp', rfl⟩)
          exact ⟨lk (List.mem_cons_of_mem _ (by rw [hzip]; exact List.mem_cons_of_mem _ hp')), I.fl _ hm, I.db _ hm, hm⟩
        · refine hq h4 tk4 dx t2 (fun b o hb z => ?_) ?_ szz dne (by rw [hzip]; exact n4)
          · have z2 := old hb z
            exact k4 b o (h2L z2) (k3 b o hb z2)
          · exact k4 _ _ (Ne.symm dne) e3
end
end S3X
end PySem

/-! E4: C(..), C such a class; raise C(..). -/
namespace PySem
namespace S3X
open PySem.W PySem.Calls PyProof.Rows PySem.HandSPX
section
variable {prog : Program} {w : World} {A : Around} {E : Value → Shared → Prop} {R : Result → Shared → Prop} {K : Frag} {C fI cc cda : Addr} {fd : FuncData} {fs : List Str}
theorem made (T : ExT prog K C fI cc cda fd fs) {s : Shared} {us : List Value} {mg mb : Str → Option Value} (hfs : fs ≠ []) (hz : fs.length ≤ 800) (hl : us.length = fs.length) (X : K.In s.heap) (hlim : s.heap.NoLimit) (G : s.heap.Ns mainGlobals mg) (hms : mg "super" = none) (B : s.heap.Ns builtinsNs mb) (hbs : mb "super" = some (.type "super"))
    (hroom : A.depth + 1 < recursionLimit)
    (hq : ∀ h' tk e d t1, (∀ b o, s.heap.get? b = some o → h'.get? b = some o) → s.heap.objs.size ≤ e → h'.get? e = some (exO C (some d) t1) → s.heap.objs.size ≤ d → d ≠ e → h'.Ns1 d (putAll (fs.zip us) fun _ => none) → R (.ok (.ret (.ref e))) { s with heap := h', toks := tk }) :
    codeAny (model prog w) A (.call (.ref C) ⟨us, []⟩) R s := by
  obtain ⟨nm, q, N, bs, bm, sn, sub, ab, col, dd, k0, k1, k2, k3, k5, hC, hbm⟩ := T.cls
  obtain ⟨hp, g, dr, tk, os⟩ := s
  have k : ∀ b o, hp.get? b = some o → ((hp.push (kdv_tup us)).push (excO C hp.objs.size)).get? b = some o := fun b o e => Heap.get?_push_of_some _ (Heap.get?_push_of_some _ e)
  have hget : ((hp.push (kdv_tup us)).push (excO C hp.objs.size)).get? (hp.objs.size + 1) = some (excO C hp.objs.size) := by heap_get
  have hnx : ∀ o, K.lookup (hp.objs.size + 1) ≠ some o := fun o z => by
    have y : hp.get? (hp.objs.size + 1) = some o := X _ _ z
    exact absurd (Nat.lt_of_succ_lt (Heap.lt_size y)) (Nat.lt_irrefl _)
  refine call_own F.excBase_ValueError (fun X => refsVE_contains X bm hbm) (X _ _ hC) (looks_findIn X T.iC) (fun self => bind_fn X self T.tI) (by rw [sizeLine_eq]; omega) ?_
  refine init_run (s := ⟨(hp.push (kdv_tup us)).push (excO C hp.objs.size), g, dr, tk, os⟩) T hfs hz hl (X.keeps k) (hlim.keeps k) (G.keeps k) hms (B.keeps k) hbs hget hnx ?_ fun h' tk' dx t1 k' hx dn dne hns => ?_
  · show A.depth + 1 < recursionLimit
    exact hroom
  · have old : ∀ b o, hp.get? b = some o → h'.get? b = some o := fun b o e => k' b o (Nat.ne_of_lt (Nat.lt_succ_of_lt (Heap.lt_size e))) (k b o e)
    have z : hp.objs.size + 1 + 1 ≤ dx := by
      first
        | (simpa only [Heap.size_push] using dn)
        | exact dn
        | (have q := dn; rw [Heap.size_push, Heap.size_push] at q; exact q)
    exact ⟨rfl, hq h' tk' (hp.objs.size + 1) dx t1 old (Nat.le_succ _) hx (Nat.le_trans (Nat.le_trans (Nat.le_succ _) (Nat.le_succ _)) z) dne hns⟩
end
end S3X
end PySem
namespace L2
open PySem PySem.Spec PyProof.Rows PySem.S3X
theorem relO_zip : ∀ {fs : List Str} {vs : List V} {us : List Value} {m0 : Str → Option Value}, fs.Nodup → Vals vs us → us.length = fs.length → ∀ f, (f ∉ fs → RelO none (m0 f)) → RelO ((fs.zip vs).lookup f) (putAll (fs.zip us) m0 f)
  | [], _, _, _, _, _, _, f, h => h (by simp)
  | g :: fs, _, _, _, _, .nil, hl, _, _ => by cases hl
  | g :: fs, v :: vs, u :: us, m0, nd, .cons r rr, hl, f, h => by
    rw [List.nodup_cons] at nd
    rw [List.zip_cons_cons, lookup_put, List.zip_cons_cons]
    show RelO _ (putAll (fs.zip us) (fun y => if y = g then some u else m0 y) f)
    by_cases e : f = g
    · subst e
      rw [if_pos rfl]
      have : ∀ {l : List (Str × Value)} {m : Str → Option Value}, f ∉ l.map (·.1) → putAll l m f = m f := fun {l} => by
        induction l with
        | nil => intro m _; rfl
        | cons p l ih =>
          intro m hn
          obtain ⟨a, b⟩ := p
          show putAll l _ f = _
          rw [ih fun z => hn (List.mem_cons_of_mem _ z), if_neg fun e => hn (by rw [e]; exact List.mem_cons_self)]
      rw [this (by rw [keys_zip (Nat.succ.inj hl)]; exact nd.1), if_pos rfl]
      exact r
    · rw [if_neg e]
      refine relO_zip nd.2 rr (Nat.succ.inj hl) f fun hn => ?_
      rw [if_neg e]
      exact h fun z => (List.mem_cons.mp z).elim e hn
section
variable {X : Cx} {C fI cc cda : Addr} {fd : FuncData} {fs : List Str} {e : Expr} {es : List Expr} {ta : TA} {p pos : Pos} {x : Str}
/-- C(e, ..) -/
def tMkX (C : Addr) (fs : List Str) (ta : TA) : St → Hp → XK → Prop := fun σ H Q => ta σ H fun vs H1 => vs.length = fs.length ∧ ∀ d, H1 d = none → Q (.ref C) (some d) (upd H1 d (.xd (fs.zip vs)))
theorem pmk_x {k : Nat} (T : ExT X.prog X.K C fI cc cda fd fs) (hfs : fs ≠ []) (hz : fs.length ≤ 800) (hnd : fs.Nodup) (hms : X.mg "super" = none) (hr : Room k X.A) (ha : PA X (e :: es) ta) (hg : Gl X x) (hm : X.mg x = some (.ref C))
    (hdb : (x == ("__debug__" : Str)) = false := by decide) (he : starEach (e :: es) X.env = (false, eval e X.env) :: starEach es X.env := by rfl) (hpl : (backTo pos (starEach es X.env)).any (·.1) = false := by rfl) :
    L2N.PMk X (.Call (.Name x p) (e :: es) [] pos) (tMkX C fs ta) := by
  intro pins s σ H Q I h
  refine wpAny_Call_Name_kw (ld_glob I hg hm ?_ hdb)
  refine PySem.W.callWith_K (h₀ := X.base) I.ok.mod.kin T.kC (thn (ha.run pos pins s σ H _ I h) fun us s1 hh => ?_) he hpl
  obtain ⟨vs, H1, I1, r1, hl, q1⟩ := hh
  refine ⟨I1.kIn, ?_⟩
  show wpAny _ _ (call (.ref C) us) _ _ _
  have hlim := I1.nolimit
  have hlu : us.length = fs.length := by rw [← r1.length]; exact hl
  obtain ⟨mb, h1, h2⟩ := I1.mod.blt
  have G := I1.mod.glob.keeps I1.bk
  have B := h1.keeps I1.bk
  obtain ⟨hp, g, dr, tk, os⟩ := s1
  refine wpAny_call (made T hfs hz hlu I1.kIn hlim G hms B ((h2 _ (by decide)).trans rfl) (by have := hr.dp; omega) fun h' tk' e d t1 kk hne hoe hnd' dne hns => ?_)
  show L2N.MkP X pins σ Q (.ref e) ⟨h', g, dr, tk', os⟩
  obtain ⟨G', g1, g2⟩ := restrict h' fun b => decide (b ≠ e)
  have gk : ∀ b, b ≠ e → G'.get? b = h'.get? b := fun b hb => g1 b (decide_eq_true hb)
  have ge : G'.get? e = none := g2 e (by simp)
  have old : ∀ b o, hp.get? b = some o → G'.get? b = some o := fun b o q => (gk b (Nat.ne_of_lt (Nat.lt_of_lt_of_le (Heap.lt_size q) hne))).trans (kk b o q)
  have ob : ObjOk X.prog X.w (upd H1 d (.xd (fs.zip vs))) G' d (.xd (fs.zip vs)) :=
    ⟨_, hns.at (fun o q => (gk d dne).trans q), fun f => relO_zip hnd r1 hlu f fun _ => True.intro⟩
  have J : Inv X pins σ (upd H1 d (.xd (fs.zip vs))) ⟨G', g, dr, tk', os⟩ := I1.laid (t' := tk') old hnd' ob
  refine ⟨e, exO C (some d) t1, _, ⟨G', g, dr, tk', os⟩, _, .ref C, some d, rfl, J, fun b o q => ?_, ge, hoe, ⟨rfl, rfl, fun vs e => by cases e; rfl⟩, rfl, rfl, ?_, rfl, I1.bare, raises_own T.exC T.tyC, q1 d (I1.hok.fresh hnd')⟩
  · by_cases hb : b = e
    · have q' : G'.get? b = some o := q
      rw [hb, ge] at q'; cases q'
    · exact (gk b hb).symm.trans q
  · rw [upd_ne (Ne.symm dne)]
    exact I1.hok.fresh hne
end
end L2

/-! E5: raise C(..), try: .. except D as n: .. -/
namespace S3
open PySem PySem.Spec L2
/-- raise C(..): the class's name, its fields -/
def sRaise (c : Str) (fs : List Str) (a : AV) : SV := fun e => match a e with
  | .ok rs e1 => (match fzs rs with
    | some ds => if ds.length = fs.length then .ex ⟨c, fs.zip ds⟩ e1 else .no
    | none => .no)
  | .ex x e1 => .ex x e1
  | .no => .no
/-- an exception class's name (other own classes' keys begin with @) -/
def xnm (c : Str) : Bool := match c.cps.toList with | 64 :: _ => false | _ => true
theorem xnm_mk (c : Str) : xnm (xmk c) = false := by
  have e : (xmk c).cps.toList = 64 :: 43 :: c.cps.toList := by
    show ((⟨#[64, 43]⟩ : Str).cps ++ c.cps).toList = _
    rw [Array.toList_append]
    rfl
  unfold xnm
  rw [e]
  rfl
theorem exOk0_of {Z : Wd} {F H : Hp} {x : Exn} {cls : PySem.Value} {d : Option PySem.Addr} (nm : xnm x.c = true) (h : ExOk Z F H x cls d) : ExOk0 Z F x cls d := by
  rcases h with h | ⟨c0, _, _, _, _, _, _, _, _, e, _⟩
  · exact h
  · rw [e, xnm_mk] at nm; cases nm
def nokeyB (c : Str) : Bool := decide (c ≠ "") && decide (c ≠ " ") && decide (c ≠ "  ")
/-- no exception in it -/
def xfree : Nat → D → Bool
  | _, .non => true | _, .bl _ => true | _, .int _ => true | _, .str _ => true | _, .st _ => true
  | n + 1, .lst xs => xs.all (xfree n)
  | n + 1, .tup xs => xs.all (xfree n)
  | n + 1, .scr xs => xs.all (xfree n)
  | n + 1, .kt xs => xs.all (xfree n)
  | n + 1, .dk xs => xs.all fun p => xfree n p.2
  | n + 1, .dt xs => xs.all fun p => xfree n p.2
  | n + 1, .obj c xs => nokeyB c && xs.all fun p => xfree n p.2
  | _, _ => false
/-- the slots without exceptions -/
def keepS (s : Sl) : Sl := match s with
  | .dp _ _ => .no
  | s => (match s.val with
    | some d => if xfree 12 d then s else .no
    | none => s)
def keepX (e : Env) : Env := e.map keepS
/-- try: b except C as (slot i): h; behind the suite what holds an exception is not known -/
def sTry (sub : Str → Bool) (i : Nat) (b h : SV) : SV := fun e => match b e with
  | .ex x e1 => if xnm x.c then (if sub x.c then (match h (e1.set i (.fz (.xn x.c x.fs))) with
      | .nx e2 => .nx ((keepX e2).set i .no)
      | .bk e2 => .bk ((keepX e2).set i .no)
      | .ct e2 => .ct ((keepX e2).set i .no)
      | .rt (.fz d) e2 => if xfree 12 d then .rt (.fz d) (keepX e2) else .no
      | .rt (.nw d) e2 => if xfree 12 d then .rt (.nw d) (keepX e2) else .no
      | _ => .no) else .ex x e1) else .no
  | r => r
/-- n.f, isinstance(n, C) of a caught exception -/
def opXf (f : Str) : D → Option RV
  | .xn c fs => if xnm c then (fs.lookup f).map .fz else none
  | _ => none
def opXis (sub : Str → Bool) : D → Option RV
  | .xn c _ => if xnm c then some (.fz (.bl (sub c))) else none
  | _ => none
def nokey (c : Str) : Prop := c ≠ "" ∧ c ≠ " " ∧ c ≠ "  "
/-- the classes' places with the exception's own -/
def caX (ca : Str → Option Addr) (a : Addr) (cls : Value) (d : Option Addr) : Str → Option Addr := fun s =>
  if s = "" then some a else if s = " " then d else if s = "  " then (match cls with | .ref C => some C | _ => none) else ca s
theorem caX_up {ca : Str → Option Addr} {a : Addr} {cls : Value} {d : Option Addr} (k : ca "" = none ∧ ca " " = none ∧ ca "  " = none) {c : Str} {C : Addr} (h : ca c = some C) : caX ca a cls d c = some C ∧ nokey c := by
  have h1 : c ≠ "" := fun z => by rw [z, k.1] at h; cases h
  have h2 : c ≠ " " := fun z => by rw [z, k.2.1] at h; cases h
  have h3 : c ≠ "  " := fun z => by rw [z, k.2.2] at h; cases h
  unfold caX
  rw [if_neg h1, if_neg h2, if_neg h3]
  exact ⟨h, h1, h2, h3⟩
theorem caX_a {ca : Str → Option Addr} {a : Addr} {cls : Value} {d : Option Addr} : caX ca a cls d "" = some a := by unfold caX; exact if_pos rfl
theorem caX_d {ca : Str → Option Addr} {a : Addr} {cls : Value} {d : Option Addr} : caX ca a cls d " " = d := by unfold caX; rw [if_neg (by decide)]; exact if_pos rfl
theorem caX_c {ca : Str → Option Addr} {a : Addr} {cls : Value} {d : Option Addr} : caX ca a cls d "  " = (match cls with | .ref C => some C | _ => none) := by unfold caX; rw [if_neg (by decide), if_neg (by decide)]; exact if_pos rfl
theorem caX_r {ca : Str → Option Addr} {a C : Addr} {d : Option Addr} : caX ca a (.ref C) d "  " = some C := caX_c
theorem caX_of {ca : Str → Option Addr} {a : Addr} {cls : Value} {d : Option Addr} {c : Str} {C : Addr} (n : nokey c) (h : caX ca a cls d c = some C) : ca c = some C := by
  unfold caX at h
  rwa [if_neg n.1, if_neg n.2.1, if_neg n.2.2] at h
section
variable {P : Program} {w : World} {K : PySem.W.Frag} {ca ca' : Str → Option Addr} {F H : Hp}
mutual
theorem Rp.up (k : ca "" = none) (u : ∀ c C, ca c = some C → ca' c = some C) : ∀ {v : V} {d : D}, Rp ⟨P, w, K, ca⟩ F v d → Rp ⟨P, w, K, ca'⟩ F v d
  | _, _, .non => .non
  | _, _, .bl b => .bl b
  | _, _, .int i => .int i
  | _, _, .str x h => .str x h
  | _, _, .lst h r => .lst h (RpA.up k u r)
  | _, _, .scr h r => .scr h (RpA.up k u r)
  | _, _, .tup h r => .tup h (RpA.up k u r)
  | _, _, .kt h r => .kt h (RpA.up k u r)
  | _, _, .dk h q r => .dk h q (RpP.up k u r)
  | _, _, .dt h q r => .dt h q (RpP.up k u r)
  | _, _, .st h n => .st h n
  | _, _, .obj c h r => .obj (u _ _ c) h (RpP.up k u r)
  | _, _, .xv c q h r => .xv (u _ _ c) q h (RpP.up k u r)
  | _, _, .cl c => .cl (u _ _ c)
  | _, _, .any => .any
  | _, _, .xn a b c n h r => by
    have z : ca "" = some _ := a
    rw [k] at z
    cases z
theorem RpA.up (k : ca "" = none) (u : ∀ c C, ca c = some C → ca' c = some C) : ∀ {v : List V} {d : List D}, RpA ⟨P, w, K, ca⟩ F v d → RpA ⟨P, w, K, ca'⟩ F v d
  | _, _, .nil => .nil
  | _, _, .cons h r => .cons (Rp.up k u h) (RpA.up k u r)
theorem RpP.up (k : ca "" = none) (u : ∀ c C, ca c = some C → ca' c = some C) : ∀ {κ : Type} {v : List (κ × V)} {d : List (κ × D)}, RpP ⟨P, w, K, ca⟩ F v d → RpP ⟨P, w, K, ca'⟩ F v d
  | _, _, _, .nil => .nil
  | _, _, _, .cons h r => .cons (Rp.up k u h) (RpP.up k u r)
end
theorem nokey_of {c : Str} (h : nokeyB c = true) : nokey c := by
  unfold nokeyB at h
  rw [Bool.and_eq_true, Bool.and_eq_true] at h
  exact ⟨of_decide_eq_true h.1.1, of_decide_eq_true h.1.2, of_decide_eq_true h.2⟩
theorem Rp.down (hd : ∀ c C, nokey c → ca c = some C → ca' c = some C) : ∀ {n : Nat} {v : V} {d : D}, xfree n d = true → Rp ⟨P, w, K, ca⟩ F v d → Rp ⟨P, w, K, ca'⟩ F v d := by
  intro n
  induction n with
  | zero =>
    intro v d h r
    cases d <;> first | (cases h; done) | skip
    · cases r; exact .non
    · cases r; exact .bl _
    · cases r; exact .int _
    · cases r with | str _ z => exact .str _ z
    · cases r with | st k z => exact .st k z
  | succ n ih =>
    intro v d h r
    have all : ∀ {vs : List V} {ds : List D}, ds.all (xfree n) = true → RpA ⟨P, w, K, ca⟩ F vs ds → RpA ⟨P, w, K, ca'⟩ F vs ds := fun {vs ds} => by
      induction ds generalizing vs with
      | nil => intro _ z; cases z; exact .nil
      | cons d ds ih2 =>
        intro hd z
        rw [List.all_cons, Bool.and_eq_true] at hd
        cases z with
        | cons z1 z2 => exact .cons (ih hd.1 z1) (ih2 hd.2 z2)
    have allP : ∀ {κ : Type} {vs : List (κ × V)} {ds : List (κ × D)}, (ds.all fun p => xfree n p.2) = true → RpP ⟨P, w, K, ca⟩ F vs ds → RpP ⟨P, w, K, ca'⟩ F vs ds := fun {κ vs ds} => by
      induction ds generalizing vs with
      | nil => intro _ z; cases z; exact .nil
      | cons d ds ih2 =>
        intro hd z
        rw [List.all_cons, Bool.and_eq_true] at hd
        cases z with
        | cons z1 z2 => exact .cons (ih hd.1 z1) (ih2 hd.2 z2)
    cases d <;> first | (cases h; done) | skip
    · cases r; exact .non
    · cases r; exact .bl _
    · cases r; exact .int _
    · cases r with | str _ z => exact .str _ z
    · cases r with | lst k z => exact .lst k (all h z)
    · cases r with | tup k z => exact .tup k (all h z)
    · cases r with | dk k q z => exact .dk k q (allP h z)
    · cases r with | dt k q z => exact .dt k q (allP h z)
    · cases r with | st k z => exact .st k z
    · simp only [xfree, Bool.and_eq_true] at h
      cases r with | obj c k z => exact .obj (hd _ _ (nokey_of h.1) c) k (allP h.2 z)
    · cases r with | scr k z => exact .scr k (all h z)
    · cases r with | kt k z => exact .kt k (all h z)
theorem RpA.down (hd : ∀ c C, nokey c → ca c = some C → ca' c = some C) {n : Nat} : ∀ {vs : List V} {ds : List D}, ds.all (xfree n) = true → RpA ⟨P, w, K, ca⟩ F vs ds → RpA ⟨P, w, K, ca'⟩ F vs ds
  | _, _, _, .nil => .nil
  | _, _, h, .cons a r => by
    rw [List.all_cons, Bool.and_eq_true] at h
    exact .cons (Rp.down hd h.1 a) (RpA.down hd h.2 r)
theorem RpP.down (hd : ∀ c C, nokey c → ca c = some C → ca' c = some C) {n : Nat} : ∀ {κ : Type} {vs : List (κ × V)} {ds : List (κ × D)}, (ds.all fun p => xfree n p.2) = true → RpP ⟨P, w, K, ca⟩ F vs ds → RpP ⟨P, w, K, ca'⟩ F vs ds
  | _, _, _, _, .nil => .nil
  | _, _, _, h, .cons a r => by
    rw [List.all_cons, Bool.and_eq_true] at h
    exact .cons (Rp.down hd h.1 a) (RpP.down hd h.2 r)
theorem Top.down (hd : ∀ c C, nokey c → ca c = some C → ca' c = some C) {n : Nat} {a : Addr} {d : D} (x : xfree n d = true) (h : Top ⟨P, w, K, ca⟩ F H a d) : Top ⟨P, w, K, ca'⟩ F H a d := by
  cases n with
  | zero => cases d <;> first | (cases x; done) | exact h
  | succ n =>
    cases d <;> simp only [Top] at h ⊢
    case lst => obtain ⟨_, h, r⟩ := h; exact ⟨_, h, r.down hd x⟩
    case dk => obtain ⟨q, _, h, r⟩ := h; exact ⟨q, _, h, r.down hd x⟩
    case dt => obtain ⟨q, _, h, r⟩ := h; exact ⟨q, _, h, r.down hd x⟩
    case st => exact h
    case obj =>
      simp only [xfree, Bool.and_eq_true] at x
      obtain ⟨_, _, _, c, h, r⟩ := h
      exact ⟨_, _, _, hd _ _ (nokey_of x.1) c, h, r.down hd x.2⟩
theorem Top.up (k : ca "" = none) (u : ∀ c C, ca c = some C → ca' c = some C) {a : Addr} {d : D} (h : Top ⟨P, w, K, ca⟩ F H a d) : Top ⟨P, w, K, ca'⟩ F H a d := by
  cases d <;> simp only [Top] at h ⊢
  case lst => obtain ⟨_, h, r⟩ := h; exact ⟨_, h, r.up k u⟩
  case dk => obtain ⟨q, _, h, r⟩ := h; exact ⟨q, _, h, r.up k u⟩
  case dt => obtain ⟨q, _, h, r⟩ := h; exact ⟨q, _, h, r.up k u⟩
  case st => exact h
  case obj => obtain ⟨_, _, _, c, h, r⟩ := h; exact ⟨_, _, _, u _ _ c, h, r.up k u⟩
mutual
theorem OwT.up (k : ca "" = none) (u : ∀ c C, ca c = some C → ca' c = some C) : ∀ {R : List Addr} {v : V} {d : D}, OwT ⟨P, w, K, ca⟩ F H R v d → OwT ⟨P, w, K, ca'⟩ F H R v d
  | _, _, _, .fz r => .fz (r.up k u)
  | _, _, _, .lst f h n r => .lst f h n (OwA.up k u r)
  | _, _, _, .tup h r => .tup h (OwA.up k u r)
  | _, _, _, .dk f h q n r => .dk f h q n (OwP.up k u r)
  | _, _, _, .obj f c h n r => .obj f (u _ _ c) h n (OwP.up k u r)
theorem OwA.up (k : ca "" = none) (u : ∀ c C, ca c = some C → ca' c = some C) : ∀ {R : List Addr} {v : List V} {d : List D}, OwA ⟨P, w, K, ca⟩ F H R v d → OwA ⟨P, w, K, ca'⟩ F H R v d
  | _, _, _, .nil => .nil
  | _, _, _, .cons h r n => .cons (OwT.up k u h) (OwA.up k u r) n
theorem OwP.up (k : ca "" = none) (u : ∀ c C, ca c = some C → ca' c = some C) : ∀ {κ : Type} {R : List Addr} {v : List (κ × V)} {d : List (κ × D)}, OwP ⟨P, w, K, ca⟩ F H R v d → OwP ⟨P, w, K, ca'⟩ F H R v d
  | _, _, _, _, .nil => .nil
  | _, _, _, _, .cons h r n => .cons (OwT.up k u h) (OwP.up k u r) n
end
theorem SOk.up {N : En} {σ : St} {e : Env} (k : ca "" = none) (u : ∀ c C, ca c = some C → ca' c = some C) (S : SOk ⟨P, w, K, ca⟩ N F H σ e) : SOk ⟨P, w, K, ca'⟩ N F H σ e where
  le := S.le
  f0 := S.f0
  h0 := S.h0
  nf := S.nf
  len := S.len
  slot := fun i s hs => by
    obtain ⟨o, h1, h2⟩ := S.slot i s hs
    refine ⟨o, h1, ?_⟩
    cases s with
    | no => trivial
    | fz d => obtain ⟨v, e, r⟩ := h2; exact ⟨v, e, r.up k u⟩
    | ow d => obtain ⟨b, e, x, y, t⟩ := h2; exact ⟨b, e, x, y, t.up k u⟩
    | bo d =>
      obtain ⟨v, e, r⟩ := h2
      rcases r with r | ⟨b, e2, x, y, z, t⟩
      · exact ⟨v, e, .inl (r.up k u)⟩
      · exact ⟨v, e, .inr ⟨b, e2, x, y, z, t.up k u⟩⟩
    | mu d => obtain ⟨b, e, x, y, t⟩ := h2; exact ⟨b, e, x, y, t.up k u⟩
    | dp g d => obtain ⟨v, R, e, t, y⟩ := h2; exact ⟨v, R, e, t.up k u, y⟩
  sep := fun i j s t b h1 h2 ne o l1 l2 => by
    have lv : ∀ {i : Nat} {s : Sl}, e[i]? = some s → Live ⟨P, w, K, ca'⟩ F H ((σ[i]?).join) s b → Live ⟨P, w, K, ca⟩ F H ((σ[i]?).join) s b := fun {i s} hs l => by
      obtain ⟨o, h1, h2⟩ := S.slot i s hs
      rw [h1] at l ⊢
      cases s <;> simp only [Live] at l ⊢
      case dp g d =>
        obtain ⟨v, R, e1, t, m⟩ := l
        obtain ⟨w', Q, e2, t2, _⟩ := h2
        have e1' : o = some v := e1
        rw [e1'] at e2; cases e2
        exact ⟨v, Q, e1, t2, by rw [← t.uniq (t2.up k u)]; exact m⟩
      all_goals first | exact l | exact ⟨l.1, fun r => l.2 (r.up k u)⟩ | exact l.elim
    exact S.sep i j s t b h1 h2 ne o (lv h1 l1) (lv h2 l2)
  mh := S.mh
  mus := S.mus
  bos := S.bos
  lks := fun i j d a h m l => S.lks i j d a h m ⟨l.1, fun r => l.2 (r.up k u)⟩
  lkh := S.lkh
theorem keepS_val {s t : Sl} (h : keepS s = t) (nt : t ≠ .no) : s = t ∧ (∀ d, t.val = some d → xfree 12 d = true) ∧ ∀ g d, t ≠ .dp g d := by
  cases s with
  | dp g d => exact (nt h.symm).elim
  | no => exact (nt h.symm).elim
  | _ =>
    simp only [keepS, Sl.val] at h
    split at h
    · rename_i z
      subst h
      exact ⟨rfl, fun d' hd => by simp only [Sl.val, Option.some.injEq] at hd; rw [← hd]; exact z, fun _ _ z => by cases z⟩
    · exact (nt h.symm).elim
theorem SOk.down (hd : ∀ c C, nokey c → ca c = some C → ca' c = some C) {N : En} {σ : St} {e : Env} (S : SOk ⟨P, w, K, ca⟩ N F H σ e) : SOk ⟨P, w, K, ca'⟩ N F H σ (keepX e) where
  le := S.le
  f0 := S.f0
  h0 := S.h0
  nf := S.nf
  len := by unfold keepX; rw [List.length_map, S.len]
  slot := fun i s hs => by
    unfold keepX at hs
    rw [List.getElem?_map, Option.map_eq_some_iff] at hs
    obtain ⟨s0, h1, h2⟩ := hs
    obtain ⟨o, g1, g2⟩ := S.slot i s0 h1
    refine ⟨o, g1, ?_⟩
    by_cases n : s = .no
    · subst n; trivial
    · obtain ⟨rfl, x, nd⟩ := keepS_val h2 n
      cases s0 with
      | no => trivial
      | fz d => obtain ⟨v, e, r⟩ := g2; exact ⟨v, e, r.down hd (x d rfl)⟩
      | ow d => obtain ⟨b, e, f, n, t⟩ := g2; exact ⟨b, e, f, n, t.down hd (x d rfl)⟩
      | bo d =>
        obtain ⟨v, e, r⟩ := g2
        rcases r with r | ⟨b, e2, f, y, z, t⟩
        · exact ⟨v, e, .inl (r.down hd (x d rfl))⟩
        · exact ⟨v, e, .inr ⟨b, e2, f, y, z, t.down hd (x d rfl)⟩⟩
      | mu d => obtain ⟨b, e, f, n, t⟩ := g2; exact ⟨b, e, f, n, t.down hd (x d rfl)⟩
      | dp g d => exact (nd g d rfl).elim
  sep := fun i j s t b h1 h2 ne o l1 l2 => by
    unfold keepX at h1 h2
    rw [List.getElem?_map, Option.map_eq_some_iff] at h1 h2
    obtain ⟨s0, h1, g1⟩ := h1
    obtain ⟨t0, h2, g2⟩ := h2
    have ns : s ≠ .no := fun z => by rw [z] at o; cases o
    have nt : t ≠ .no := fun z => by rw [z] at l2; exact l2
    obtain ⟨rfl, _, nd1⟩ := keepS_val g1 ns
    obtain ⟨rfl, x, nd2⟩ := keepS_val g2 nt
    have k1 : Live ⟨P, w, K, ca⟩ F H ((σ[i]?).join) s0 b := by cases s0 <;> first | exact l1 | exact (nd1 _ _ rfl).elim | cases o
    have k2 : Live ⟨P, w, K, ca⟩ F H ((σ[j]?).join) t0 b := by
      cases t0 with
      | bo d => exact ⟨l2.1, fun r => l2.2 (r.down hd (x d rfl))⟩
      | no => exact l2
      | fz d => exact l2
      | ow d => exact l2
      | mu d => exact l2
      | dp g d => exact (nd2 g d rfl).elim
    exact S.sep i j s0 t0 b h1 h2 ne o k1 k2
  mh := S.mh
  mus := fun i d h => by
    unfold keepX at h
    rw [List.getElem?_map, Option.map_eq_some_iff] at h
    obtain ⟨s0, h1, g1⟩ := h
    obtain ⟨rfl, _⟩ := keepS_val g1 (by intro z; cases z)
    exact S.mus i d h1
  bos := fun i d a r h k => by
    unfold keepX at h
    rw [List.getElem?_map, Option.map_eq_some_iff] at h
    obtain ⟨s0, h1, g1⟩ := h
    obtain ⟨rfl, _⟩ := keepS_val g1 (by intro z; cases z)
    exact S.bos i d a r h1 k
  lks := fun i j d a h m l => by
    unfold keepX at h
    rw [List.getElem?_map, Option.map_eq_some_iff] at h
    obtain ⟨s0, h1, g1⟩ := h
    obtain ⟨rfl, x, _⟩ := keepS_val g1 (by intro z; cases z)
    exact S.lks i j d a h1 m ⟨l.1, fun r => l.2 (r.down hd (x d rfl))⟩
  lkh := S.lkh
end
end S3

/-! E6: the rules for raise, try, and for what a suite reads of the exception. -/
namespace S3
open PySem PySem.Spec L2
section
variable {ca : Str → Option Addr} {W : WX} {X : Cx} {e : Expr} {es : List Expr} {fa : AV} {p pos pos2 : Pos} {x : Str}
/-- what is known of a class that is raised -/
structure ClsT (ca : Str → Option Addr) (P : Program) (K : PySem.W.Frag) (mg : Str → Option Value) (c : Str) (fs : List Str) : Prop where
  ex : ∃ C fI cc cda fd, ca c = some C ∧ PySem.S3X.ExT P K C fI cc cda fd fs ∧ mg c = some (.ref C)
theorem rpp_zip : ∀ {Z : Wd} {F : Hp} {fs : List Str} {vs : List V} {ds : List D}, RpA Z F vs ds → RpP Z F (fs.zip vs) (fs.zip ds)
  | _, _, [], _, _, _ => by rw [List.zip_nil_left, List.zip_nil_left]; exact .nil
  | _, _, _ :: _, _, _, .nil => .nil
  | _, _, _ :: _, _, _, .cons h r => .cons h (rpp_zip r)
theorem sv_raise {k : Nat} {fs : List Str} (T : ClsT ca X.prog X.K X.mg x fs) (hms : X.mg "super" = none) (hr : Room k X.A) (tk : L2N.Takes X W) (ha : Av ca W X (e :: es) fa) (hfs : fs ≠ [] := by decide) (hz : fs.length ≤ 800 := by decide) (hnd : fs.Nodup := by decide) (hc : X.calm = true := by rfl)
    (hg : Gl X x := by rfl) (hdb : (x == ("__debug__" : Str)) = false := by decide) (he : starEach (e :: es) X.env = (false, eval e X.env) :: starEach es X.env := by rfl) (hpl : (backTo pos (starEach es X.env)).any (·.1) = false := by rfl) :
    Sv ca W X (.Raise (some (.Call (.Name x p) (e :: es) [] pos)) none pos2) (sRaise x fs fa) := by
  obtain ⟨C, fI, cc, cda, fd, hC, T, hm⟩ := T.ex
  refine PS_imp (L2N.ps_raise hc tk (pmk_x T hfs hz hnd hms hr ha hg hm hdb he hpl)) fun D σ H h => ?_
  obtain ⟨N, F, e1, S, P⟩ := h
  refine ⟨N, F, e1, S, ?_⟩
  unfold sRaise at P
  cases q : fa e1 with
  | no => rw [q] at P; exact P.elim
  | ex y e2 => rw [q] at P; exact fun cls d F' H' s S' E' => P cls d F' H' σ s S' E'
  | ok rs e2 =>
    rw [q] at P
    dsimp only at P
    intro vs F' H1 s S1 hh
    cases q2 : fzs rs with
    | none => rw [q2] at P; exact P.elim
    | some ds =>
      rw [q2] at P
      dsimp only at P
      by_cases hl : ds.length = fs.length
      · rw [if_pos hl] at P
        have ra := fzs_rd hh q2
        refine ⟨by rw [ra.length]; exact hl, fun d hd => ?_⟩
        have g := Gr.layF (o := .xd (fs.zip vs)) S1.le hd
        refine P (.ref C) (some d) (upd F' d (.xd (fs.zip vs))) _ σ (s.trans g.f) (S1.gr g) (.inl ⟨C, hC, rfl, fun z => ?_, fun _ => ⟨d, fs.zip vs, rfl, upd_same, rpp_zip (ra.mono g.f)⟩⟩)
        exfalso
        cases fs with
        | nil => exact hfs rfl
        | cons f fs =>
          cases ds with
          | nil => cases hl
          | cons d ds => cases z
      · rw [if_neg hl] at P; exact P.elim
end
section
variable {ca : Str → Option Addr} {W : WX} {X : Cx} {x n : Str} {c : Value} {i : Nat} {body suite : List Stmt} {b₀ : Stmt} {np pos pos' : Pos} {b h : SV}
theorem try_end {N : En} {F F' H' : Hp} {σ' : L2.St} {e2 : Env} {D : Ends} {y : Exn} {sub : Str → Bool} {cls : Value} {d : Option Addr} (k0 : ca "" = none ∧ ca " " = none ∧ ca "  " = none) (hsub : ∀ m C, ca m = some C → xnm m = true → PySem.W.exmOne X.K (.ref C) c = some (sub m)) (nm : xnm y.c = true)
    (P : PostS (zw ca X) N F W D (if sub y.c then (match h (e2.set i (.fz (.xn y.c y.fs))) with
      | .nx e2 => .nx ((keepX e2).set i .no)
      | .bk e2 => .bk ((keepX e2).set i .no)
      | .ct e2 => .ct ((keepX e2).set i .no)
      | .rt (.fz d) e2 => if xfree 12 d then .rt (.fz d) (keepX e2) else .no
      | .rt (.nw d) e2 => if xfree 12 d then .rt (.nw d) (keepX e2) else .no
      | _ => .no) else .ex y e2)) (s : Same F F') (S1 : SOk (zw ca X) N F' H' σ' e2) (E1 : ExOk (zw ca X) F' H' y cls d) :
    wAs X.K c i (fun a cls d => tSv (zw (caX ca a cls d) X) (fun _ _ _ _ => False) h) W D cls d σ' H' := by
  obtain ⟨C, hC, rfl, hd0, hd1⟩ := exOk0_of nm E1
  refine ⟨sub y.c, hsub _ _ hC nm, fun hb1 a na => ?_, fun hb1 => ?_⟩
  · rw [if_pos hb1] at P
    obtain ⟨u, nk⟩ := caX_up (a := a) (cls := .ref C) (d := d) k0 hC
    have up : ∀ m C', ca m = some C' → caX ca a (.ref C) d m = some C' := fun m C' z => (caX_up k0 z).1
    have dn : ∀ m C', nokey m → caX ca a (.ref C) d m = some C' → ca m = some C' := fun m C' n z => caX_of n z
    have S2 : SOk (zw (caX ca a (.ref C) d) X) N F' H' σ' e2 := S1.up k0.1 up
    have rx : Rp (zw (caX ca a (.ref C) d) X) F' (.ref a) (.xn y.c y.fs) := by
      by_cases z : y.fs = []
      · rw [z]
        exact .xn (xs := []) (caX_a (ca := ca) (a := a) (cls := .ref C) (d := d)) (caX_r (ca := ca) (a := a) (d := d)) u nk (.inl ⟨rfl, (caX_d (ca := ca) (a := a) (cls := .ref C) (d := d)).trans (hd0 z)⟩) .nil
      · obtain ⟨dd, vs, z1, z2, z3⟩ := hd1 z
        exact .xn (caX_a (ca := ca) (a := a) (cls := .ref C) (d := d)) (caX_r (ca := ca) (a := a) (d := d)) u nk (.inr ⟨dd, (caX_d (ca := ca) (a := a) (cls := .ref C) (d := d)).trans z1, z2⟩) (z3.up k0.1 up)
    refine ⟨N, F', _, S2.set (i := i) rx, ?_⟩
    have W2 : ∀ {F2 H2 : Hp} {σ2 : L2.St} {e3 : Env}, SOk (zw (caX ca a (.ref C) d) X) N F2 H2 σ2 e3 → SOk (zw ca X) N F2 H2 (σ2.set i none) ((keepX e3).set i .no) := fun S3' => (S3'.down dn).wipe2 [i]
    cases q2 : h (e2.set i (.fz (.xn y.c y.fs))) with
    | no => rw [q2] at P; exact P.elim
    | ex _ _ => rw [q2] at P; exact P.elim
    | bk e3 =>
      rw [q2] at P
      exact fun F2 H2 σ2 s2 S3' => P F2 H2 (σ2.set i none) (s.trans s2) (W2 S3')
    | ct e3 =>
      rw [q2] at P
      exact fun F2 H2 σ2 s2 S3' => P F2 H2 (σ2.set i none) (s.trans s2) (W2 S3')
    | nx e3 =>
      rw [q2] at P
      exact fun F2 H2 σ2 s2 S3' => P F2 H2 (σ2.set i none) (s.trans s2) (W2 S3')
    | rt r e3 =>
      rw [q2] at P
      cases r with
      | «at» _ => exact P.elim
      | dn _ => exact P.elim
      | nw dv =>
        dsimp only at P
        by_cases z : xfree 12 dv = true
        · rw [if_pos z] at P
          intro v F2 H2 σ2 s2 S3' R
          have S4 := S3'.down dn
          obtain ⟨b, e1, f1, n1, t1, l1⟩ := R
          refine P v F2 H2 σ2 (s.trans s2) S4 ⟨b, e1, f1, n1, t1.down dn z, fun j sj hj lj => ?_⟩
          unfold keepX at hj
          rw [List.getElem?_map, Option.map_eq_some_iff] at hj
          obtain ⟨s0, g1, g2⟩ := hj
          have ns : sj ≠ .no := fun z => by rw [z] at lj; exact lj
          obtain ⟨rfl, x, nd⟩ := keepS_val g2 ns
          refine l1 j s0 g1 ?_
          cases s0 with
          | bo d => exact ⟨lj.1, fun r => lj.2 (r.down dn (x d rfl))⟩
          | no => exact lj
          | fz d => exact lj
          | ow d => exact lj
          | mu d => exact lj
          | dp g d => exact (nd g d rfl).elim
        · rw [if_neg z] at P; exact P.elim
      | fz dv =>
        dsimp only at P
        by_cases z : xfree 12 dv = true
        · rw [if_pos z] at P
          exact fun v F2 H2 σ2 s2 S3' R => P v F2 H2 σ2 (s.trans s2) (S3'.down dn) (Rp.down dn z R)
        · rw [if_neg z] at P; exact P.elim
  · have hb1' : ¬ sub y.c = true := by rw [hb1]; decide
    rw [if_neg hb1'] at P
    exact P (.ref C) d F' H' σ' s S1 E1
theorem sv_try {sub : Str → Bool} (i : Nat) (hs : X.stack = X.env :: X.outer) (hf : X.env.frame = some X.env.locals) (hN : X.N.Nodup) (k0 : ca "" = none ∧ ca " " = none ∧ ca "  " = none) (hsub : ∀ m C, ca m = some C → xnm m = true → PySem.W.exmOne X.K (.ref C) c = some (sub m)) (hc : Names X x c) (tk : L2N.Takes X W)
    (hb : ∀ (W : WX) (pn : List (Addr × Obj)) (xe : Value → Shared → Prop), L2N.Takes (X.tr pn xe) W → PassesOwn (model X.prog X.w) X.A X.env xe → Bv ca W (X.tr pn xe) body b)
    (hsu : ∀ (a : Addr) (oe : Obj) (cls : Value) (d : Option Addr) (pn : List (Addr × Obj)), L2N.Zn cls d oe → (∃ vs, oe.data = .fields vs) → Bv (caX ca a cls d) (fun _ _ _ _ => False) (X.suite a ((a, oe) :: pn)) (b₀ :: suite) h)
    (hi : X.N[i]? = some n := by rfl) (hln : X.env.kindOf n = some .local := by rfl) :
    Sv ca W X (.Try body [.ExceptHandler (some (.Name x np)) (some n) (b₀ :: suite) pos'] [] [] pos) (sTry sub i b h) := by
  refine PS_imp (L2N.ps_try_as (tb := fun W => tSv (zw ca X) W b) (ts := fun a cls d => tSv (zw (caX ca a cls d) X) (fun _ _ _ _ => False) h) hs hf hN hi hln hc tk hb hsu) fun D σ H hh => ?_
  obtain ⟨N, F, e1, S, P⟩ := hh
  refine ⟨N, F, e1, S, ?_⟩
  unfold sTry at P
  cases q : b e1 with
  | no => rw [q] at P; exact P
  | nx e2 => rw [q] at P; exact P
  | rt r e2 => rw [q] at P; exact P
  | bk e2 => rw [q] at P; exact P
  | ct e2 => rw [q] at P; exact P
  | ex y e2 =>
    rw [q] at P
    dsimp only at P
    intro cls d F' H' σ' s S1 E1
    by_cases nm : xnm y.c = true
    · rw [if_pos nm] at P
      exact try_end k0 hsub nm P s S1 E1
    · rw [if_neg nm] at P; exact P.elim
end
end S3

/-! E7: in an except suite: isinstance(n, C), n.f. -/
namespace S3
open PySem PySem.Spec L2
/-- what is asked of an exception's class -/
structure XcK (K : PySem.W.Frag) (C : Addr) (fs : List Str) : Prop where
  cl : (PySem.W.clsIn K C).isSome = true
  ga : PySem.W.findIn K (.ref C) "__getattribute__" = some (some (.builtin "BaseException.__getattribute__"))
  gt : PySem.W.findIn K (.ref C) "__getattr__" = some none
  sb : PySem.W.subIn K (.ref C) (.type "BaseException") = some true
  ha : PySem.W.findIn K (.ref C) "__class__" = some (some (.builtin "object.__class__"))
  hn : PySem.W.specialIn K (.builtin "object.__class__") "__get__" = some (some (.builtin "getset_descriptor.__get__"))
  ht : PySem.W.takesIn K (.builtin "object.__class__") = some true
  hm : PySem.W.mroIn K C (.type "object") = some true
  hd : PySem.W.hasDictIn K C = true
  no : ∀ f ∈ fs, PySem.W.findIn K (.ref C) f = some none
section
variable {X : Cx} {a : Addr} {oe : Obj} {cls : Value} {d : Option Addr} {pn : List (Addr × Obj)}
/-- the exception as an instance -/
theorem inst_at {pins : List (Addr × Obj)} {σ : L2.St} {H : Hp} {s : Shared} {C : Addr} (hz : Zc (.ref C) d oe) (hf : ∃ vs, oe.data = .fields vs) (I : Inv (X.suite a ((a, oe) :: pn)) pins σ H s) (hd : d = none ∨ ∃ dd vs, d = some dd ∧ H dd = some (.xd vs)) : ∃ od, PySem.W.InstAt s.heap a oe C od := by
  obtain ⟨hget, _⟩ := I.pin (a, oe) (List.mem_append_left _ List.mem_cons_self)
  obtain ⟨vs, hv⟩ := hf
  rcases hd with rfl | ⟨dd, ws, rfl, hdd⟩
  · exact ⟨none, hget, hz.1, by unfold PySem.W.notCls; rw [hv] <;> rfl, by rw [hz.2]; trivial⟩
  · have hx : ObjOk X.prog X.w H s.heap dd (.xd ws) := I.hok dd _ hdd
    obtain ⟨mA, hns, hr⟩ := hx
    obtain ⟨od, ho, hl⟩ := lookIn_ns hns
    exact ⟨some od, hget, hz.1, by unfold PySem.W.notCls; rw [hv] <;> rfl, by rw [hz.2]; exact ho⟩
def rXis (K : PySem.W.Frag) (a : Addr) (cls : Value) (d : Option Addr) (cv : Value) (fs : List Str) : List V → Hp → VK → Prop := fun xs H Q => ∃ c C b, xs = [.ref a, c] ∧ (∀ u, RelV c u → u = cv) ∧ cls = .ref C ∧ XcK K C fs ∧ (d = none ∨ ∃ dd vs, d = some dd ∧ H dd = some (.xd vs)) ∧ PySem.W.kitOne K (.ref C) cv = some b ∧ Q (.bl b) H
theorem call_xis (hz : Zc cls d oe) (hf : ∃ vs, oe.data = .fields vs) {cv : Value} {fs : List Str} : CallR (X.suite a ((a, oe) :: pn)) (.builtin "isinstance") (rXis X.K a cls d cv fs) := by
  intro pins s σ H xs us Q I r h
  obtain ⟨c, C, b, rfl, hcv, rfl, T, hd, e, q⟩ := h
  cases r with
  | cons rx rr =>
    cases rr with
    | cons rt rr =>
      cases rr
      cases rx
      have ec := hcv _ rt
      subst ec
      obtain ⟨od, J⟩ := inst_at hz hf I hd
      exact PySem.W.kia_one (PySem.W.kitx_exc T.cl T.ga T.gt T.sb T.ha T.hn T.ht T.hm) I.kIn J e (fun z => nomatch z) fun tk => ⟨.bl b, H, I.kept (t' := tk) fun _ _ z => z, rfl, q⟩
end
theorem RpP.lookF {Z : Wd} {F : Hp} : ∀ {xs : List (Str × V)} {ds : List (Str × D)} {f : Str} {y : D}, RpP Z F xs ds → ds.lookup f = some y → ∃ v, xs.lookup f = some v ∧ Rp Z F v y
  | [], _, _, _, h, q => by cases h; cases q
  | (k, v) :: xs, _, f, y, h, q => by
    cases h with
    | cons h r =>
      rw [List.lookup_cons] at q ⊢
      split at q
      · cases q; exact ⟨v, rfl, h⟩
      · exact RpP.lookF r q
section
variable {ca : Str → Option Addr} {W : WX} {X : Cx} {a : Addr} {oe : Obj} {cls : Value} {d : Option Addr} {pn : List (Addr × Obj)} {e : Expr} {fe : EV} {p p2 pos : Pos} {fs : List Str}
/-- what a frozen exception stands for -/
theorem xn_of {F H : Hp} {x : V} {c : Str} {ds : List (Str × D)} (l : Same F H) (h : RdV (zw (caX ca a cls d) (X.suite a ((a, oe) :: pn))) F H x (.xn c ds)) :
    ∃ C xs, x = .ref a ∧ cls = .ref C ∧ ca c = some C ∧ ((ds = [] ∧ d = none) ∨ ∃ dd, d = some dd ∧ F dd = some (.xd xs)) ∧ RpP (zw (caX ca a cls d) (X.suite a ((a, oe) :: pn))) F xs ds := by
  rcases h with h | ⟨_, _, _, t⟩
  · cases h with
    | xn h1 h2 h3 nk h4 r =>
      have e1 : caX ca a cls d "" = some _ := h1
      rw [caX_a] at e1
      cases e1
      have e2 : caX ca a cls d "  " = some _ := h2
      rw [caX_c] at e2
      have e3 : ca c = some _ := caX_of nk h3
      have hd' := h4.imp (fun (z : _ ∧ _) => And.intro z.1 ((caX_d (ca := ca) (a := a) (cls := cls) (d := d)).symm.trans z.2)) fun ⟨dd, x, y⟩ => (⟨dd, (caX_d (ca := ca) (a := a) (cls := cls) (d := d)).symm.trans x, y⟩ : ∃ dd, d = some dd ∧ F dd = some (HO.xd _))
      cases cls <;> try (cases e2; done)
      cases e2
      exact ⟨_, _, rfl, rfl, e3, hd', r⟩
  · exact t.elim
theorem s_xis {sub : Str → Bool} {vv : V} {cv : Value} (T : ∀ m C, ca m = some C → xnm m = true → XcK X.K C fs ∧ PySem.W.kitOne X.K (.ref C) cv = some (sub m)) (hr : ∀ u, RelV vv u → u = cv) :
    Sound1 (zw (caX ca a cls d) (X.suite a ((a, oe) :: pn))) (fun x => rXis X.K a cls d cv fs [x, vv]) (opXis sub) := by
  intro F H x dx rr Q l hx ho q
  cases dx <;> simp only [opXis] at ho <;> try (cases ho; done)
  split at ho
  rotate_left
  · cases ho
  rename_i nm
  cases ho
  obtain ⟨C, xs, rfl, rfl, hc, hd, r⟩ := xn_of l hx
  obtain ⟨T1, T2⟩ := T _ _ hc nm
  refine ⟨vv, C, _, rfl, hr, rfl, T1, ?_, T2, fin_bl l q⟩
  rcases hd with ⟨_, z⟩ | ⟨dd, z, y⟩
  · exact .inl z
  · exact .inr ⟨dd, xs, z, l _ _ y⟩
/-- isinstance(n, C) -/
theorem ev_xis {sub : Str → Bool} {n : Str} {vv : V} {cv : Value} (hz : Zc cls d oe) (hf : ∃ vs, oe.data = .fields vs) (T : ∀ m C, ca m = some C → xnm m = true → XcK X.K C fs ∧ PySem.W.kitOne X.K (.ref C) cv = some (sub m))
    (hv : PE (X.suite a ((a, oe) :: pn)) (.Name n p2) (tC vv)) (hr : ∀ u, RelV vv u → u = cv) (hm : X.mg "isinstance" = none) (he : Ev (caX ca a cls d) W (X.suite a ((a, oe) :: pn)) e fe) (hg : Gl (X.suite a ((a, oe) :: pn)) "isinstance" := by rfl)
    (hs : starEach [e, .Name n p2] X.env = (false, eval e X.env) :: starEach [.Name n p2] X.env := by rfl) :
    Ev (caX ca a cls d) W (X.suite a ((a, oe) :: pn)) (.Call (.Name "isinstance" p) [e, .Name n p2] [] pos) (eOp1 (opXis sub) fe) :=
  PE_imp (pe_callB (call_xis hz hf) hg hm (by decide +kernel) (pa_cons he (pa_cons hv pa_nil) hs) (by decide) (by decide) hs (by rfl)) fun _ _ _ => one (s_xis (fs := fs) T hr)
/-- n.f -/
def tXf (K : PySem.W.Frag) (a : Addr) (cls : Value) (d : Option Addr) (f : Str) (te : TE) : TE := fun σ H Q => te σ H fun x H1 => ∃ C dd xs v, x = .ref a ∧ cls = .ref C ∧ XcK K C [f] ∧ d = some dd ∧ H1 dd = some (.xd xs) ∧ xs.lookup f = some v ∧ Q v H1
theorem pe_xf {f : Str} {te : TE} (hz : Zc cls d oe) (hf : ∃ vs, oe.data = .fields vs) (he : PE (X.suite a ((a, oe) :: pn)) e te) (hb : attributeBase e f X.env (eval e X.env) = eval e X.env := by rfl) :
    PE (X.suite a ((a, oe) :: pn)) (.Attribute e f pos) (tXf X.K a cls d f te) := by
  refine ⟨fun pins s σ H Q I h => ?_⟩
  refine attr_of hb (thn (he.run pins s σ H _ I h) fun u s1 hh => ?_)
  obtain ⟨x, H1, I1, rx, C, dd, xs, v, ex, ec, T, ed, ea, hl, q⟩ := hh
  subst ex
  obtain rfl : u = Value.ref a := rx
  subst ec
  subst ed
  obtain ⟨ha, _⟩ := I1.pin (a, oe) (List.mem_append_left _ List.mem_cons_self)
  obtain ⟨vs, hdt⟩ := hf
  have hx : ObjOk X.prog X.w H1 s1.heap dd (.xd xs) := I1.hok dd _ ea
  obtain ⟨mA, hns, hr⟩ := hx
  obtain ⟨od, ho, hlk⟩ := lookIn_ns hns
  obtain ⟨u, hu, ru⟩ := RelO.some_of (v := v) (o := mA f) (by rw [← hl]; exact hr f)
  have J : PySem.W.InstAt s1.heap a oe C (some od) := ⟨ha, hz.1, by unfold PySem.W.notCls; rw [hdt] <;> rfl, by rw [hz.2]; exact ho⟩
  exact PySem.HandSPX.exc_get I1.kIn J T.ga T.gt T.sb (PySem.W.findObj_own T.hd (T.no f (by simp)) rfl (by rw [hlk, hu])) (handed_of ru) ⟨v, H1, I1.tok _, ru, q⟩
theorem ev_xf {f : Str} (hz : Zc cls d oe) (hf : ∃ vs, oe.data = .fields vs) (T : ∀ m C, ca m = some C → xnm m = true → XcK X.K C [f]) (he : Ev (caX ca a cls d) W (X.suite a ((a, oe) :: pn)) e fe) (hb : attributeBase e f X.env (eval e X.env) = eval e X.env := by rfl) :
    Ev (caX ca a cls d) W (X.suite a ((a, oe) :: pn)) (.Attribute e f pos) (eOp1 (opXf f) fe) := by
  refine PE_imp (pe_xf hz hf he hb) fun σ H Q h => ?_
  refine one (r := fun x H1 Q => ∃ C dd xs v, x = .ref a ∧ cls = .ref C ∧ XcK X.K C [f] ∧ d = some dd ∧ H1 dd = some (.xd xs) ∧ xs.lookup f = some v ∧ Q v H1) ?_ h
  intro F H x dx rr Q l hx ho q
  cases dx <;> simp only [opXf] at ho <;> try (cases ho; done)
  split at ho
  rotate_left
  · cases ho
  rename_i nm
  rw [Option.map_eq_some_iff] at ho
  obtain ⟨y, hy, rfl⟩ := ho
  obtain ⟨C, xs, rfl, rfl, hc, hd, r⟩ := xn_of l hx
  rcases hd with ⟨z, _⟩ | ⟨dd, z, z2⟩
  · rw [z] at hy; cases hy
  · obtain ⟨v, h1, h2⟩ := RpP.lookF r hy
    exact ⟨C, dd, xs, v, rfl, rfl, T _ _ hc nm, z, l _ _ z2, h1, fin_fz l q h2⟩
end
end S3

/-! E8: raise C(..) from D(..). -/
namespace S3F
open PySem PySem.Spec PyProof.Rows HotX
end S3F
namespace L2
open PySem PySem.Spec PyProof.Rows PySem.S3X S3F
section
variable {X : Cx} {pins : List (Addr × Obj)} {σ : St} {H : Hp} {s : Shared}
end
end L2

/-! E9: the rule for raise C(..) from D(..). -/
namespace L2
open PySem PySem.Spec PyProof.Rows PySem.S3X S3F
section
variable {X : Cx} {C fI cc cda : Addr} {fd : FuncData} {fs : List Str} {C2 fI2 cc2 cda2 : Addr} {fd2 : FuncData} {fs2 : List Str} {e : Expr} {es : List Expr} {e2 : Expr} {es2 : List Expr} {ta tb : TA} {p pos q0 q1 pos2 : Pos} {x y : Str}
end
end L2
namespace S3
open PySem PySem.Spec L2
section
variable {ca : Str → Option Addr} {W : WX} {X : Cx} {e : Expr} {es : List Expr} {e2 : Expr} {es2 : List Expr} {fa fb : AV} {p pos q0 q1 pos2 : Pos} {x y : Str}
end
end S3

/-! E10: raise C(), C an own exception class without __init__. -/
namespace L2
open PySem PySem.Spec PyProof.Rows
end L2
namespace S3
open PySem PySem.Spec L2
end S3

/-! F1: match over a tuple: cases of a head word or several and names behind it. -/
namespace S3
open PySem PySem.Spec L2
def hitL : List Str → D → Option Bool
  | [], _ => some false
  | l :: ls, h => match dEq h (.str l) with
    | some true => some true
    | some false => hitL ls h
    | none => none
def mGo : List (List Str × List Nat × SV) → List D → SV
  | [], _, e => .nx e
  | (ls, is, b) :: cs, ds, e => if ds.length = is.length + 1 then (match ds with
      | h :: rest => (match hitL ls h with
        | some true => (match setAll is rest e with
          | some e1 => b e1
          | none => .no)
        | some false => mGo cs ds e
        | none => .no)
      | [] => .no) else mGo cs ds e
def sMatch (f : EV) (cs : List (List Str × List Nat × SV)) : SV := sE f fun r e => match rd r e with
  | some (.tup ds) => mGo cs ds e
  | _ => .no
inductive LitPats : List Pattern → List Str → Prop
  | nil : LitPats [] []
  | cons {l : Str} {j : Nat} {p q : Pos} {ps : List Pattern} {ls : List Str} : LitPats ps ls → LitPats (.MatchValue (.Constant (.str l) j p) q :: ps) (l :: ls)
inductive HeadPat : Pattern → List Str → Prop
  | one {l : Str} {j : Nat} {p q : Pos} : HeadPat (.MatchValue (.Constant (.str l) j p) q) [l]
  | or {l : Str} {j : Nat} {p q q2 : Pos} {ps : List Pattern} {ls : List Str} : LitPats ps ls → HeadPat (.MatchOr (.MatchValue (.Constant (.str l) j p) q :: ps) q2) (l :: ls)
inductive CapPats (X : Cx) : List Pattern → List Nat → List Str → Prop
  | nil : CapPats X [] [] []
  | cons {n : Str} {q : Pos} {i : Nat} {ps : List Pattern} {is : List Nat} {ns : List Str} : X.N[i]? = some n → X.env.scope.names.lookup n = some .local → CapPats X ps is ns → CapPats X (.MatchAs none (some n) q :: ps) (i :: is) (n :: ns)
section
variable {ca : Str → Option Addr} {W : WX} {X : Cx}
inductive CasesOk (ca : Str → Option Addr) (W : WX) (X : Cx) : List MatchCase → List (List Str × List Nat × SV) → Prop
  | nil : CasesOk ca W X [] []
  | cons {p0 : Pattern} {ps : List Pattern} {pos : Pos} {body : List Stmt} {rest : List MatchCase} {ls : List Str} {is : List Nat} {ns : List Str} {b : SV} {cs : List (List Str × List Nat × SV)} : HeadPat p0 ls → CapPats X ps is ns → Bv ca W X body b → CasesOk ca W X rest cs →
      CasesOk ca W X (⟨.MatchSequence (p0 :: ps) pos, none, body⟩ :: rest) ((ls, is, b) :: cs)
theorem head_lit (hu : X.A.units + 65 < cLine) {pins : List (Addr × Obj)} {σ : L2.St} {F H : Hp} {s : Shared} {x : V} {u : Value} {d : D} {l : Str} {j : Nat} {p q : Pos} {b : Bool} {Q : Option (List (Str × Value)) → Shared → Prop} (I : Inv X pins σ H s) (r : RelV x u) (le : Same F H) (rx : Rp (zw ca X) F x d) (hb : dEq d (.str l) = some b)
    (hq : ∀ s' F' H', Gr F H F' H' → Inv X pins σ H' s' → Q (if b then some [] else none) s') (hl : sOk l = true) :
    wpAny (model X.prog X.w) X.A (matchPattern (.MatchValue (.Constant (.str l) j p) q) X.env u) Q X.xe s := by
  refine wpAny_matchPattern_Value (Calls.Constant_str ?_)
  have h := s_eq (Z := zw ca X) F H x (.str l) d (.str l) (.fz (.bl b)) (fun v H' => v = .bl b ∧ ∃ F', Gr F H F' H') le (.inl rx) (.inl (.str l hl)) (by unfold opEq; rw [hb]; rfl) (fun v F' H' g n => by cases n; exact ⟨rfl, F', g⟩)
  refine wpAny_mono (op_eqD (by omega) pins _ σ H x (.str l) u _ _ (I.tok _) r ⟨_, rfl⟩ h) (fun c s2 hc => ?_) fun _ _ z => z
  obtain ⟨v, H', I', rv, rfl, F', g⟩ := hc
  cases rv
  refine wpAny_truthy_bool ?_
  cases b
  · exact hq _ _ _ g I'
  · exact hq _ _ _ g I'
theorem first_lits (hu : X.A.units + 65 < cLine) {pins : List (Addr × Obj)} {σ : L2.St} {x : V} {u : Value} {d : D} {ps : List Pattern} {ls : List Str} (hp : LitPats ps ls) : ∀ {F H : Hp} {s : Shared} {b : Bool} {Q : Option (List (Str × Value)) → Shared → Prop}, Inv X pins σ H s → RelV x u → Same F H → Rp (zw ca X) F x d → hitL ls d = some b → (ls.all sOk = true) →
    (∀ s' F' H', Gr F H F' H' → Inv X pins σ H' s' → Q (if b then some [] else none) s') → wpAny (model X.prog X.w) X.A (matchFirst ps X.env u) Q X.xe s := by
  induction hp with
  | nil =>
    intro F H s b Q I r le rx hb _ hq
    cases hb
    exact wpAny_matchFirst_nil (hq _ _ _ (Gr.refl le) I)
  | @cons l j p q ps ls hp ih =>
    intro F H s b Q I r le rx hb hk hq
    rw [List.all_cons, Bool.and_eq_true] at hk
    unfold hitL at hb
    cases q1 : dEq d (.str l) with
    | none => rw [q1] at hb; cases hb
    | some b1 =>
      rw [q1] at hb
      refine wpAny_matchFirst_cons (head_lit hu I r le rx q1 (fun s1 F1 H1 g1 I1 => ?_) hk.1)
      cases b1 with
      | true => cases hb; exact hq _ _ _ g1 I1
      | false => exact ih I1 r g1.le (rx.mono g1.f) hb hk.2 fun s2 F2 H2 g2 I2 => hq _ _ _ (g1.trans g2) I2
theorem head_ok (hu : X.A.units + 65 < cLine) {pins : List (Addr × Obj)} {σ : L2.St} {x : V} {u : Value} {d : D} {p0 : Pattern} {ls : List Str} (hp : HeadPat p0 ls) {F H : Hp} {s : Shared} {b : Bool} {Q : Option (List (Str × Value)) → Shared → Prop} (I : Inv X pins σ H s) (r : RelV x u) (le : Same F H) (rx : Rp (zw ca X) F x d) (hb : hitL ls d = some b) (hk : ls.all sOk = true)
    (hq : ∀ s' F' H', Gr F H F' H' → Inv X pins σ H' s' → Q (if b then some [] else none) s') : wpAny (model X.prog X.w) X.A (matchPattern p0 X.env u) Q X.xe s := by
  cases hp with
  | one =>
    unfold hitL at hb
    rw [List.all_cons, Bool.and_eq_true] at hk
    rename_i l j p q
    cases q1 : dEq d (.str l) with
    | none => rw [q1] at hb; cases hb
    | some b1 =>
      rw [q1] at hb
      refine head_lit hu I r le rx q1 (fun s1 F1 H1 g1 I1 => ?_) hk.1
      cases b1 with
      | true => cases hb; exact hq _ _ _ g1 I1
      | false => cases hb; exact hq _ _ _ g1 I1
  | or hl =>
    refine wpAny_matchPattern_Or (first_lits hu (LitPats.cons hl) I r le rx hb hk fun s1 F1 H1 g1 I1 => ?_)
    cases b with
    | true => exact hq _ _ _ g1 I1
    | false => exact hq _ _ _ g1 I1
theorem cap_each {ps : List Pattern} {is : List Nat} {ns : List Str} (hp : CapPats X ps is ns) {M : Model} {A : Around} {E : Value → Shared → Prop} : ∀ {vs : List Value} {s : Shared} {Q : Option (List (Str × Value)) → Shared → Prop}, vs.length = ps.length → Q (some (ns.zip vs)) s → wpAny M A (matchEach ps X.env vs) Q E s := by
  induction hp with
  | nil =>
    intro vs s Q hl hq
    cases vs with
    | nil => exact wpAny_matchEach_nil hq
    | cons _ _ => cases hl
  | cons hi hn hp ih =>
    intro vs s Q hl hq
    cases vs with
    | nil => cases hl
    | cons v vs =>
      refine wpAny_matchEach_cons (wpAny_matchPattern_Capture (ih (Nat.succ.inj hl) ?_))
      exact hq
theorem cap_store (hN : X.N.Nodup) {pins : List (Addr × Obj)} {N : En} {F H : Hp} {ps : List Pattern} {is : List Nat} {ns : List Str} (hp : CapPats X ps is ns) : ∀ {xs : List V} {vs : List Value} {ds : List D} {σ : L2.St} {e e1 : Env} {s : Shared} {Q : Unit → Shared → Prop}, Vals xs vs → RpA (zw ca X) F xs ds → setAll is ds e = some e1 → Inv X pins σ H s → SOk (zw ca X) N F H σ e →
    (∀ σ' s', Inv X pins σ' H s' → SOk (zw ca X) N F H σ' e1 → Q () s') → wpAny (model X.prog X.w) X.A (assignInOrder ((ns.zip vs).map fun (n, _) => bindName X.env n) ((ns.zip vs).map (·.2))) Q X.xe s := by
  induction hp with
  | nil =>
    intro xs vs ds σ e e1 s Q r ra hs I S hq
    cases ds with
    | nil => cases hs; exact wpAny_assignInOrder_none (hq _ _ I S)
    | cons _ _ => cases hs
  | @cons n q i ps is ns hi hn hp ih =>
    intro xs vs ds σ e e1 s Q r ra hs I S hq
    cases ds with
    | nil => cases hs
    | cons d ds =>
      cases ra with
      | cons rx ra =>
        cases r with
        | cons rv r =>
          refine wpAny_assignInOrder_more (wpAny_bindName (store_ok I hN hi (.inl hn) rv (fun s' I' => ?_) (.inr hn)))
          exact ih r ra hs I' (S.set rx) hq
theorem CapPats.len {ps : List Pattern} {is : List Nat} {ns : List Str} (hp : CapPats X ps is ns) : ps.length = is.length ∧ (ps.findIdx? (·.isStar) = none) ∧ (ps.all fun p => !p.isStar) = true := by
  induction hp with
  | nil => exact ⟨rfl, rfl, rfl⟩
  | cons _ _ _ ih => exact ⟨congrArg Nat.succ ih.1, by rw [List.findIdx?_cons, ih.2.1]; rfl, by rw [List.all_cons, ih.2.2]; rfl⟩
theorem HeadPat.nostar {p : Pattern} {ls : List Str} (h : HeadPat p ls) : p.isStar = false ∧ p.isWildcard = false := by cases h <;> exact ⟨rfl, rfl⟩
theorem sv_match {subject : Expr} {f : EV} {cases : List MatchCase} {pos : Pos} {cs : List (List Str × List Nat × SV)} (hu : X.A.units + 65 < cLine) (hN : X.N.Nodup) (hcs : CasesOk ca W X cases cs) (hf : Ev ca W X subject f) (hk : (cs.all fun c => c.1.all sOk) = true := by (simp only [List.all_cons, List.all_nil]; decide +kernel)) (hc : X.calm = true := by rfl) :
    Sv ca W X (.Match subject cases pos) (sMatch f cs) := by
  refine ⟨fun pins s σ H D I h => ?_⟩
  obtain ⟨N, F, e, S, P⟩ := h
  have h1 : tEv (zw ca X) W f σ H (fun x H1 => ∃ F e ds, SOk (zw ca X) N F H1 σ e ∧ RdV (zw ca X) F H1 x (.tup ds) ∧ PostS (zw ca X) N F W D (mGo cs ds e)) := bindS S P fun x F1 H1 e1 r f1 S1 R1 P1 => by
    cases q : S3.rd r e1 with
    | none => rw [q] at P1; exact P1.elim
    | some d =>
      rw [q] at P1
      cases d <;> try (exact P1.elim)
      exact ⟨F1, e1, _, S1, RvOk.rd S1 R1 q, P1⟩
  refine wpAny_Match (thn (hf.run pins s σ H _ I h1) fun u s1 hh => ?_)
  obtain ⟨x, H1, I1, rx, F1, e1, ds, S1, hx, P1⟩ := hh
  obtain ⟨a, xs, rfl, ha, ra⟩ := hx.tup S1.le
  obtain rfl : u = Value.ref a := rx
  clear h1
  have go : ∀ {cases : List MatchCase} {cs : List (List Str × List Nat × SV)}, CasesOk ca W X cases cs → (cs.all fun c => c.1.all sOk) = true → ∀ {s : Shared} {first : Bool} {F H : Hp} {e : Env}, Inv X pins σ H s → SOk (zw ca X) N F H σ e → H a = some (.tup xs) → RpA (zw ca X) F xs ds → PostS (zw ca X) N F W D (mGo cs ds e) →
      wpAny (model X.prog X.w) X.A (matchCases cases X.env (.ref a) first) (SP X pins D) X.xe s := by
    intro cases cs hcs
    induction hcs with
    | nil =>
      intro _ s first F H e I S _ _ P
      exact wpAny_matchCases_nil ⟨σ, H, I, P F H σ (Same.refl _) S⟩
    | @cons p0 ps pos body rest ls is ns b cs hh hp hb hr ih =>
      intro hk s first F H e I S ha ra P
      rw [List.all_cons, Bool.and_eq_true] at hk
      obtain ⟨its, rv, ht, hz⟩ := I.tuple (SqT.of ha)
      have lens : its.length = xs.length := rv.length.symm
      have lenx : xs.length = ds.length := ra.length
      have hsz : xs.length ≤ 16777216 := by rw [sizeLine_eq] at hz; exact hz
      obtain ⟨hpl, hpi, hpw⟩ := hp.len
      have P' := P
      unfold mGo at P'
      refine wpAny_matchCases_cons (wpAny_matchPattern_Sequence (wpAny_collectionFlag (PyProof.Rows.IsTup.typeIs ht) flag_seq_tuple ?_) (by rw [List.findIdx?_cons, hh.nostar.1, hpi]; rfl) (by rw [List.all_cons, hh.nostar.1, hh.nostar.2]; rfl))
      rw [if_pos rfl]
      refine PyProof.Rows.pyLen_tuple ht (by rw [List.size_toArray, lens]; omega) ?_
      by_cases hl : ds.length = is.length + 1
      · rw [if_pos hl] at P'
        have e1 : (((its.toArray.size : Nat) : Int) != (((p0 :: ps).length : Nat) : Int)) = false := by
          rw [List.size_toArray, List.length_cons, hpl, lens, lenx, hl]; simp
        rw [e1, if_neg Bool.false_ne_true]
        have e2 : (p0 :: ps).length = its.toArray.size := by rw [List.size_toArray, List.length_cons, hpl, lens, lenx, hl]
        rw [e2]
        have I2 := (I.tok (s.toks + 1 + 1))
        refine PyProof.Rows.unpackItems_tuple (I.ok.hd hc) ht fun h' hx' => ?_
        have I3 : Inv X pins σ H { s with heap := h', toks := s.toks + 1 + 1 } := I.kept (t' := s.toks + 1 + 1) fun b o q => hx' b o (Nat.ne_of_lt (Heap.lt_size q)) q
        rw [List.toList_toArray]
        cases ds with
        | nil => cases hl
        | cons d ds =>
          cases ra with
          | cons rx ra =>
            cases rv with
            | cons r1 rv =>
              rename_i v1 vs1 u1 us1
              dsimp only at P'
              cases q : hitL ls d with
              | none => rw [q] at P'; exact P'.elim
              | some hb1 =>
                rw [q] at P'
                refine wpAny_matchEach_cons (head_ok hu hh I3 r1 S.le rx q hk.1 fun s4 F4 H4 g4 I4 => ?_) hh.nostar.1
                cases hb1 with
                | false =>
                  exact ih hk.2 I4 (S.gr g4) (g4.h _ _ ha) (RpA.mono g4.f (.cons rx ra)) (PostS.shift P' g4.f)
                | true =>
                  dsimp only at P'
                  refine cap_each hp (by have := rv.length; have := ra.length; rw [hpl]; rw [List.length_cons] at hl; omega) ?_
                  cases q2 : setAll is ds e with
                  | none => rw [q2] at P'; exact P'.elim
                  | some e5 =>
                    rw [q2] at P'
                    refine cap_store hN hp rv (RpA.mono g4.f ra) q2 I4 (S.gr g4) fun σ5 s5 I5 S5 => ?_
                    exact hb.run pins s5 σ5 H4 D I5 ⟨N, F4, e5, S5, PostS.shift P' g4.f⟩
      · rw [if_neg hl] at P'
        have e1 : (((its.toArray.size : Nat) : Int) != (((p0 :: ps).length : Nat) : Int)) = true := by
          rw [List.size_toArray, List.length_cons, hpl, lens, lenx]; simp; omega
        rw [e1, if_pos rfl]
        exact ih hk.2 (I.tok _) S ha ra P'
  exact go hcs hk I1 S1 ha ra P1
end
end S3

/-! F2: sep.join(a), a.split(sep), sep a written text. -/
namespace S3
open PySem PySem.Spec L2
def txtsOf : List D → Option (List Str)
  | [] => some []
  | .str x :: r => (txtsOf r).map (x :: ·)
  | _ :: _ => none
def joinOk (a : Str) (ys : List Str) : Option RV := if (ys.map (·.length)).sum + ys.length * a.length ≤ 16777216 then some (.fz (.str (Str.join a ys))) else none
def opJoin (a : Str) : D → Option RV
  | .lst xs => (txtsOf xs).bind (joinOk a)
  | .tup xs => (txtsOf xs).bind (joinOk a)
  | _ => none
section
variable {Z : Wd} {F H : Hp}
theorem txtsOf_rd : ∀ {vs : List V} {ds : List D} {ys : List Str}, RpA Z F vs ds → txtsOf ds = some ys → vs = ys.map V.str ∧ ys.all sOk = true
  | _, _, _, .nil, h => by cases h; exact ⟨rfl, rfl⟩
  | _, d :: ds, ys, .cons r ra, h => by
    cases d <;> simp only [txtsOf] at h <;> try (cases h; done)
    rw [Option.map_eq_some_iff] at h
    obtain ⟨zs, h1, rfl⟩ := h
    obtain ⟨e1, e2⟩ := txtsOf_rd ra h1
    cases r with
    | str x k => exact ⟨by rw [e1]; rfl, by rw [List.all_cons, k, e2]; rfl⟩
theorem app_ok {x y : Str} (h1 : x.cps.all (· < 0x110000) = true) (h2 : y.cps.all (· < 0x110000) = true) : (x ++ y).cps.all (· < 0x110000) = true := by
  show (x.cps ++ y.cps).all _ = true
  rw [Array.all_append, h1, h2]; rfl
theorem join_cps {a : Str} (ha : a.cps.all (· < 0x110000) = true) : ∀ {ys : List Str}, (ys.all fun y => y.cps.all (· < 0x110000)) = true → (Str.join a ys).cps.all (· < 0x110000) = true
  | [], _ => by show (Str.empty).cps.all _ = true; exact Array.all_empty
  | [y], h => by rw [List.all_cons, Bool.and_eq_true] at h; exact h.1
  | y :: z :: r, h => by
    rw [List.all_cons, Bool.and_eq_true] at h
    show (y ++ a ++ Str.join a (z :: r)).cps.all _ = true
    exact app_ok (app_ok h.1 ha) (join_cps ha h.2)
theorem join_len (a : Str) : ∀ ys : List Str, (Str.join a ys).length ≤ (ys.map (·.length)).sum + ys.length * a.length
  | [] => by show (0 : Nat) ≤ _; omega
  | [y] => by show y.length ≤ y.length + 0 + 1 * a.length; omega
  | y :: z :: r => by
    show (y ++ a ++ Str.join a (z :: r)).length ≤ _
    rw [str_len, str_len, List.map_cons, List.sum_cons]
    have := join_len a (z :: r)
    have e : (y :: z :: r).length * a.length = (z :: r).length * a.length + a.length := by rw [List.length_cons, Nat.succ_mul]
    omega
theorem join_sOk {a : Str} {ys : List Str} (ha : sOk a = true) (h : ys.all sOk = true) (hz : (ys.map (·.length)).sum + ys.length * a.length ≤ 16777216) : sOk (Str.join a ys) = true := by
  refine sOk_of (Nat.le_trans (join_len a ys) hz) (join_cps (sOk_cps ha) ?_)
  rw [List.all_eq_true] at h ⊢
  exact fun y hy => sOk_cps (h y hy)
def rJoin (K : PySem.W.Frag) : V → List V → Hp → VK → Prop := fun x xs H Q => ∃ a p, ∃ ys : List Str, x = .str a ∧ xs = [.ref p] ∧ (SqL K H p (ys.map V.str) ∨ SqT K H p (ys.map V.str)) ∧
      (ys.map (·.length)).sum + ys.length * a.length ≤ 16777216 ∧ Q (.str (Txt.join a ys)) H
theorem s_join {a : Str} (ha : sOk a = true) : Sound1 Z (fun y => rJoin Z.K (.str a) [y]) (opJoin a) := by
  intro F H x dx rr Q l hx ho q
  have fin : ∀ {vs : List V} {ds : List D}, RpA Z F vs ds → (txtsOf ds).bind (joinOk a) = some rr → ∃ ys, vs = ys.map V.str ∧ (ys.map (·.length)).sum + ys.length * a.length ≤ 16777216 ∧ Q (.str (Txt.join a ys)) H := fun {vs ds} ra h => by
    rw [Option.bind_eq_some_iff] at h
    obtain ⟨ys, h1, h2⟩ := h
    obtain ⟨e1, e2⟩ := txtsOf_rd ra h1
    unfold joinOk at h2
    split at h2
    · rename_i hz
      cases h2
      exact ⟨ys, e1, hz, by rw [show Txt.join a ys = Str.join a ys from TL.join_eq a ys]; exact fin_fz l q (.str _ (join_sOk ha e2 hz))⟩
    · cases h2
  cases dx <;> simp only [opJoin] at ho <;> try (cases ho; done)
  · obtain ⟨p, vs, rfl, hp, ra⟩ := hx.lst l
    obtain ⟨ys, e, hz, q'⟩ := fin ra ho
    exact ⟨a, p, ys, rfl, rfl, .inl (by rw [← e]; exact SqL.of hp), hz, q'⟩
  · obtain ⟨p, vs, rfl, hp, ra⟩ := hx.tup l
    obtain ⟨ys, e, hz, q'⟩ := fin ra ho
    exact ⟨a, p, ys, rfl, rfl, .inr (by rw [← e]; exact SqT.of hp), hz, q'⟩
end
section
variable {ca : Str → Option Addr} {W : WX} {X : Cx} {e : Expr} {fe : EV} {a : Str} {j : Nat} {p apos pos : Pos}
theorem ev_join (he : Ev ca W X e fe) (hz : sOk a = true := by decide +kernel) (hs : starEach [e] X.env = [(false, eval e X.env)] := by rfl)
    (hbase : attributeBase (.Constant (.str a) j p) "join" X.env (eval (.Constant (.str a) j p) X.env) = eval (.Constant (.str a) j p) X.env := by rfl) (hline : (apos.endLine == pos.line) = true := by rfl) :
    Ev ca W X (.Call (.Attribute (.Constant (.str a) j p) "join" apos) [e] [] pos) (eOp1 (opJoin a) fe) :=
  PE_imp (pe_join pe_str he hs hbase hline) fun _ _ _ h => ⟨⟨a, rfl⟩, one (s_join hz) h⟩
end
end S3

/-! F3: the facts of the classes bundled; the law's end over classes. -/
namespace S3
open PySem PySem.Spec L2
def subs (l : List Str) (m : Str) : Bool := decide (m ∈ l)
/-- classes by their names -/
def caL (l : List (Str × Addr)) (s : Str) : Option Addr := l.lookup s
theorem caL_all {P : Str → Addr → Prop} : ∀ {l : List (Str × Addr)}, (∀ p ∈ l, P p.1 p.2) → ∀ m C, caL l m = some C → P m C
  | [], _, m, C, h => by cases h
  | (n, D) :: l, a, m, C, h => by
    unfold caL at h
    rw [List.lookup_cons] at h
    split at h
    · rename_i e
      cases h
      rw [beq_iff_eq.mp e]
      exact a (n, D) List.mem_cons_self
    · exact caL_all (fun p hp => a p (List.mem_cons_of_mem _ hp)) m C h
structure XsOk (ca : Str → Option Addr) (K : PySem.W.Frag) (fs : List Str) : Prop where
  k0 : ca "" = none ∧ ca " " = none ∧ ca "  " = none
  x : ∀ m C, ca m = some C → xnm m = true → XcK K C fs
structure IsOwn (ca : Str → Option Addr) (K : PySem.W.Frag) (mg : Str → Option Value) (n : Str) (sub : Str → Bool) : Prop where
  ex : ∃ C2, mg n = some (.ref C2) ∧ ∀ m C, ca m = some C → xnm m = true → PySem.W.kitOne K (.ref C) (.ref C2) = some (sub m)
structure ExcOf (ca : Str → Option Addr) (K : PySem.W.Frag) (mg : Str → Option Value) (n : Str) (sub : Str → Bool) : Prop where
  ex : ∃ C2, mg n = some (.ref C2) ∧ ∀ m C, ca m = some C → xnm m = true → PySem.W.exmOne K (.ref C) (.ref C2) = some (sub m)
section
variable {ca : Str → Option Addr} {W : WX} {X : Cx} {a : Addr} {oe : Obj} {cls : Value} {d : Option Addr} {pn : List (Addr × Obj)} {e : Expr} {fe : EV} {p p2 pos : Pos} {fs : List Str}
theorem ev_xisO {sub : Str → Bool} {n : Str} (hz : L2N.Zn cls d oe) (hf : ∃ vs, oe.data = .fields vs) (S : XsOk ca X.K fs) (T : IsOwn ca X.K X.mg n sub) (hm : X.mg "isinstance" = none) (he : Ev (caX ca a cls d) W (X.suite a ((a, oe) :: pn)) e fe) (hg : Gl (X.suite a ((a, oe) :: pn)) "isinstance" := by rfl) (hgT : Gl (X.suite a ((a, oe) :: pn)) n := by rfl) (hdb : (n == ("__debug__" : Str)) = false := by decide)
    (hs : starEach [e, .Name n p2] X.env = (false, eval e X.env) :: starEach [.Name n p2] X.env := by rfl) :
    Ev (caX ca a cls d) W (X.suite a ((a, oe) :: pn)) (.Call (.Name "isinstance" p) [e, .Name n p2] [] pos) (eOp1 (opXis sub) fe) := by
  obtain ⟨C2, h1, h2⟩ := T.ex
  exact ev_xis (fs := fs) (cv := .ref C2) (vv := .ref C2) hz.zc hf (fun m C h n => ⟨S.x m C h n, h2 m C h n⟩) (pe_glob hgT h1 rfl hdb) (fun u h => h) hm he hg hs
theorem ev_xfF {f : Str} (hz : L2N.Zn cls d oe) (hf : ∃ vs, oe.data = .fields vs) (S : XsOk ca X.K fs) (he : Ev (caX ca a cls d) W (X.suite a ((a, oe) :: pn)) e fe) (hm : f ∈ fs := by decide) (hb : attributeBase e f X.env (eval e X.env) = eval e X.env := by rfl) :
    Ev (caX ca a cls d) W (X.suite a ((a, oe) :: pn)) (.Attribute e f pos) (eOp1 (opXf f) fe) :=
  ev_xf hz.zc hf (fun m C h n => let T := S.x m C h n; ⟨T.cl, T.ga, T.gt, T.sb, T.ha, T.hn, T.ht, T.hm, T.hd, fun g hg => by rw [List.mem_singleton.mp hg]; exact T.no f hm⟩) he hb
end
section
variable {ca : Str → Option Addr} {W : WX} {X : Cx} {x n : Str} {i : Nat} {body suite : List Stmt} {b₀ : Stmt} {np pos pos' : Pos} {b h : SV} {fs : List Str}
theorem sv_tryN {sub : Str → Bool} (i : Nat) (hs : X.stack = X.env :: X.outer) (hf : X.env.frame = some X.env.locals) (hN : X.N.Nodup) (S : XsOk ca X.K fs) (T : ExcOf ca X.K X.mg x sub) (tk : L2N.Takes X W)
    (hb : ∀ (W : WX) (pn : List (Addr × Obj)) (xe : Value → Shared → Prop), L2N.Takes (X.tr pn xe) W → PassesOwn (model X.prog X.w) X.A X.env xe → Bv ca W (X.tr pn xe) body b)
    (hsu : ∀ (a : Addr) (oe : Obj) (cls : Value) (d : Option Addr) (pn : List (Addr × Obj)), L2N.Zn cls d oe → (∃ vs, oe.data = .fields vs) → Bv (caX ca a cls d) (fun _ _ _ _ => False) (X.suite a ((a, oe) :: pn)) (b₀ :: suite) h)
    (hi : X.N[i]? = some n := by rfl) (hln : X.env.kindOf n = some .local := by rfl) (hg : Gl X x := by rfl) (hdb : (x == ("__debug__" : Str)) = false := by decide) :
    Sv ca W X (.Try body [.ExceptHandler (some (.Name x np)) (some n) (b₀ :: suite) pos'] [] [] pos) (sTry sub i b h) := by
  obtain ⟨C2, h1, h2⟩ := T.ex
  exact sv_try i hs hf hN S.k0 h2 ⟨hg, hdb, .inl h1⟩ tk hb hsu hi hln
end
/-- what a law is asked: any script -/
def spL (K : PySem.W.Frag) : Sp := fun vs H Q _ => ∃ a ns, vs = [.ref a] ∧ (ns : List Int).length ≤ 63 ∧ SqL K H a (ns.map V.int) ∧ ∀ H', Q (.bl true) H'
theorem spL_ok {P : Program} {w : World} {K : PySem.W.Frag} {mg : Str → Option Value} {base : Heap} {CX : CXT} {k : Nat} {f : Addr} {fd : FuncData} {ps : List Str} {ca : Str → Option Addr} {phi : List D → RC} (F : FnOk P w K mg base CX k f fd ps (spOf ⟨P, w, K, ca⟩ [.v] phi))
    (sol : ∀ ns : List Int, ns.length ≤ 63 → phi [.scr (ns.map .int)] = .ok false (.bl true) []) : FnOk P w K mg base CX k f fd ps (spL K) := by
  have up : ∀ vs H Q E, spL K vs H Q E → spOf ⟨P, w, K, ca⟩ [.v] phi vs H Q E := fun vs H Q E ⟨a, ns, e, hl, hS, hq⟩ => by
    subst e
    obtain ⟨F0, ds, x1, x2, x3, x4⟩ := law_end (Z := ⟨P, w, K, ca⟩) hS (sol ns hl)
    refine ⟨F0, ds, x1, x2, x3, ?_⟩
    revert x4
    cases phi ds with
    | no => exact id
    | ex x o => exact fun z c d F' H' g o r => (z c d F' H' g o r).elim
    | ok n dd o => exact fun z v F' H' g o r => by rw [z v F' H' g o r]; exact hq H'
    | dp dd o => exact fun z v F' H' g o r => by rw [z v F' H' g o r]; exact hq H'
  exact ⟨fun vs H Q E h => F.len vs H Q E (up _ _ _ _ h), fun A outer s H args us vs Q E r I b v h => F.run A outer s H args us vs Q E r I b v (up _ _ _ _ h)⟩
end S3

/-! I1: own instances: fields, making, methods, properties. -/
namespace L2
open PySem PySem.Spec PyProof.Rows
section
variable {X : Cx} {CX : CXT} {k : Nat} {f C : Addr} {fd : FuncData} {ps : List Str} {sp : Sp} {E : St → XK} {x m : Str} {p pos apos : Pos} {e o : Expr} {es : List Expr} {ta : TE} {t : TA}
end
end L2
namespace S3
open PySem PySem.Spec L2
/-! ### terms -/
def noMut : List Md → Bool
  | [] => true | .m :: _ => false | _ :: ms => noMut ms
/-! ### facts -/
section
variable {Z : Wd} {F F' H H' : Hp} {N : En} {σ : L2.St} {e e' : Env} {v x y : V} {W : WX} {E : Ends}
end
end S3

/-! I2: own instances: the readings and the rules. -/
namespace S3
open PySem PySem.Spec L2
section
variable {Z : Wd} {F F' H H' : Hp} {N : En} {σ : L2.St} {e e' : Env} {v x y : V} {W : WX} {E : Ends}
end
section
variable {ca : Str → Option Addr} {W : WX} {X : Cx} {o a : Expr} {es : List Expr} {fo fa : EV} {ga : AV} {pos p apos p2 : Pos} {c m n : Str} {k : Nat} {ms : List Md} {phi : List D → RC}
end
end S3

/-! I3: isinstance by own classes and of own instances; own operators; constants of a class. -/
namespace L2
open PySem PySem.Spec PyProof.Rows
section
variable {X : Cx} {CX : CXT} {k : Nat} {g C : Addr} {fd : FuncData} {ps : List Str} {sp : Sp}
end
end L2
namespace S3
open PySem PySem.Spec L2
/-! ### terms -/
/-! ### facts -/
section
variable {Z : Wd} {F F' H H' : Hp} {N : En} {σ : L2.St} {e e' : Env} {v x y : V} {W : WX} {E : Ends}
end
section
variable {ca : Str → Option Addr} {W : WX} {X : Cx} {a b : Expr} {fa fb : EV} {pos p p2 : Pos} {c n : Str} {k : Nat} {phi : List D → RC}
end
end S3

/-! ST1: the tables of sets up to 300 items (the roads of HandS.TupSets, widened by one mask). -/
namespace STK
open PySem PySem.Spec PyProof.Rows L2
/-- pigeons -/
theorem nat_nodup_len : ∀ (l D : List Nat), l.Nodup → (∀ x ∈ l, x ∈ D) → l.length ≤ D.length
  | [], _, _, _ => Nat.zero_le _
  | x :: l, D, hn, hs => by
    obtain ⟨h1, h2⟩ := List.nodup_cons.mp hn
    have hx : x ∈ D := hs x List.mem_cons_self
    have ih := nat_nodup_len l (D.erase x) h2 fun y hy => by
      have hne : y ≠ x := fun e => h1 (e ▸ hy)
      exact (List.mem_erase_of_ne hne).2 (hs y (List.mem_cons_of_mem _ hy))
    have e := List.length_erase_of_mem hx
    have hp : 0 < D.length := List.length_pos_of_mem hx
    rw [List.length_cons]
    omega
/-- a short list leaves a number out -/
theorem st_missing (l : List Nat) (n : Nat) (h : l.length < n) : ∃ j, j < n ∧ j ∉ l := by
  rcases Classical.em (∃ j, j < n ∧ j ∉ l) with c | c
  · exact c
  · exfalso
    have hs : ∀ x ∈ List.range n, x ∈ l := fun x hx => by
      rcases Classical.em (x ∈ l) with k | k
      · exact k
      · exact absurd ⟨x, List.mem_range.mp hx, k⟩ c
    have q := nat_nodup_len (List.range n) l List.nodup_range hs
    rw [List.length_range] at q
    omega
/-- the least number of which a property is true -/
theorem st_least {p : Nat → Prop} : ∀ n, p n → ∃ k, k ≤ n ∧ p k ∧ ∀ k', k' < k → ¬ p k' := by
  intro n
  induction n using Nat.strongRecOn with
  | ind n ih =>
    intro h
    rcases Classical.em (∃ k', k' < n ∧ p k') with ⟨k', h1, h2⟩ | c
    · obtain ⟨k, a, b, d⟩ := ih k' h1 h2
      exact ⟨k, Nat.le_trans a (Nat.le_of_lt h1), b, d⟩
    · exact ⟨n, Nat.le_refl _, h, fun k' hk hp => c ⟨k', hk, hp⟩⟩

/-! ### the round of i -> 5 i + 1 -/
def lcgN (m : Nat) : Nat → Nat
  | 0 => 0
  | k + 1 => (lcgN m k * 5 + 1) % (m + 1)
def lcgI (m i : Nat) : Nat → Nat
  | 0 => i
  | k + 1 => (lcgI m i k * 5 + 1) % (m + 1)
/-- the masks that come -/
def MaskOk (m : Nat) : Prop := m = 7 ∨ m = 31 ∨ m = 127 ∨ m = 511
theorem lcg_all7 : ((List.range 8).all fun j => (List.range 8).any fun b => lcgN 7 b == j) = true := by decide +kernel
theorem lcg_all31 : ((List.range 32).all fun j => (List.range 32).any fun b => lcgN 31 b == j) = true := by decide +kernel
theorem lcg_all127 : ((List.range 128).all fun j => (List.range 128).any fun b => lcgN 127 b == j) = true := by decide +kernel
theorem lcg_all511 : ((List.range 512).all fun j => (List.range 512).any fun b => lcgN 511 b == j) = true := by decide +kernel
theorem lcg_all {m : Nat} (hm : MaskOk m) {j : Nat} (hj : j ≤ m) : ∃ b, b ≤ m ∧ lcgN m b = j := by
  have key : ∀ n : Nat, ((List.range (n + 1)).all fun j => (List.range (n + 1)).any fun b => lcgN n b == j) = true → ∀ j, j ≤ n → ∃ b, b ≤ n ∧ lcgN n b = j := by
    intro n h j hj
    have h1 := List.all_eq_true.mp h j (List.mem_range.mpr (Nat.lt_succ_of_le hj))
    obtain ⟨b, hb, e⟩ := List.any_eq_true.mp h1
    exact ⟨b, Nat.le_of_lt_succ (List.mem_range.mp hb), beq_iff_eq.mp e⟩
  rcases hm with e | e | e | e
  · subst e; exact key 7 lcg_all7 j hj
  · subst e; exact key 31 lcg_all31 j hj
  · subst e; exact key 127 lcg_all127 j hj
  · subst e; exact key 511 lcg_all511 j hj
theorem lcg_round {m : Nat} (hm : MaskOk m) : lcgN m (m + 1) = 0 := by
  rcases hm with e | e | e | e
  · subst e; decide +kernel
  · subst e; decide +kernel
  · subst e; decide +kernel
  · subst e; decide +kernel
theorem lcgN_add (m a : Nat) : ∀ k, lcgI m (lcgN m a) k = lcgN m (a + k)
  | 0 => rfl
  | k + 1 => by
    show (lcgI m (lcgN m a) k * 5 + 1) % (m + 1) = (lcgN m (a + k) * 5 + 1) % (m + 1)
    rw [lcgN_add m a k]
theorem lcgN_mod {m : Nat} (hm : MaskOk m) : ∀ k, lcgN m (m + 1 + k) = lcgN m k
  | 0 => lcg_round hm
  | k + 1 => by
    show (lcgN m (m + 1 + k) * 5 + 1) % (m + 1) = (lcgN m k * 5 + 1) % (m + 1)
    rw [lcgN_mod hm k]
/-- from anywhere each slot is met within a round -/
theorem lcgI_all {m : Nat} (hm : MaskOk m) {i j : Nat} (hi : i ≤ m) (hj : j ≤ m) : ∃ k, k ≤ m ∧ lcgI m i k = j := by
  obtain ⟨a, ha, ea⟩ := lcg_all hm hi
  obtain ⟨b, hb, eb⟩ := lcg_all hm hj
  rw [← ea]
  rcases Nat.lt_or_ge b a with c | c
  · refine ⟨b + (m + 1) - a, by omega, ?_⟩
    rw [lcgN_add]
    have e : a + (b + (m + 1) - a) = m + 1 + b := by omega
    rw [e, lcgN_mod hm, eb]
  · refine ⟨b - a, by omega, ?_⟩
    rw [lcgN_add]
    have e : a + (b - a) = b := by omega
    rw [e, eb]

/-! ### the way of a search -/
/-- SetTable.advance, by the mask alone -/
def adv (m : Nat) (p : SetTable.Probe) : SetTable.Probe :=
  if p.more > 0 then { p with j := p.j + 1, more := p.more - 1 } else
  { p with j := (SetTable.leap m p.i p.perturb).1, more := SetTable.runEnd m (SetTable.leap m p.i p.perturb).1 - (SetTable.leap m p.i p.perturb).1, i := (SetTable.leap m p.i p.perturb).1, perturb := (SetTable.leap m p.i p.perturb).2 }
def nth (m : Nat) (p : SetTable.Probe) : Nat → SetTable.Probe
  | 0 => p
  | k + 1 => nth m (adv m p) k
theorem nth_add (m : Nat) : ∀ (a : Nat) (p : SetTable.Probe) (k : Nat), nth m p (a + k) = nth m (nth m p a) k
  | 0, p, k => by rw [Nat.zero_add]; rfl
  | a + 1, p, k => by
    have e : a + 1 + k = (a + k) + 1 := by omega
    rw [e]
    exact nth_add m a (adv m p) k
theorem nth_succ (m : Nat) (p : SetTable.Probe) (k : Nat) : nth m p (k + 1) = adv m (nth m p k) := nth_add m k p 1
/-- a run's first state -/
def runAt (m i perturb : Nat) : SetTable.Probe := { j := i, more := SetTable.runEnd m i - i, i, perturb, dummy := none }
theorem runEnd_bd {m i : Nat} (hi : i ≤ m) : SetTable.runEnd m i ≤ m ∧ i ≤ SetTable.runEnd m i ∧ SetTable.runEnd m i ≤ i + 9 := by
  unfold SetTable.runEnd
  split <;> omega
/-- within a run -/
theorem nth_run (m : Nat) (i perturb : Nat) : ∀ k, k ≤ SetTable.runEnd m i - i → nth m (runAt m i perturb) k = { j := i + k, more := SetTable.runEnd m i - i - k, i, perturb, dummy := none }
  | 0, _ => rfl
  | k + 1, h => by
    rw [nth_succ, nth_run m i perturb k (by omega)]
    unfold adv
    have hp : SetTable.runEnd m i - i - k > 0 := by omega
    rw [if_pos hp]
    rfl
/-- behind a run comes the next -/
theorem nth_leap (m : Nat) (i perturb : Nat) : nth m (runAt m i perturb) (SetTable.runEnd m i - i + 1) = runAt m (SetTable.leap m i perturb).1 (SetTable.leap m i perturb).2 := by
  rw [nth_succ, nth_run m i perturb _ (Nat.le_refl _)]
  unfold adv
  have hp : ¬ (SetTable.runEnd m i - i - (SetTable.runEnd m i - i) > 0) := by omega
  rw [if_neg hp]
  rfl
/-- the runs' starts -/
def runI (m b : Nat) : Nat → Nat
  | 0 => b % (m + 1)
  | n + 1 => (runI m b n * 5 + 1 + b / 32 ^ (n + 1)) % (m + 1)
theorem pow_div (b n : Nat) : b / 32 ^ n / 32 = b / 32 ^ (n + 1) := by
  rw [Nat.div_div_eq_div_mul, Nat.pow_succ]
theorem runI_le (m b : Nat) : ∀ n, runI m b n ≤ m
  | 0 => Nat.le_of_lt_succ (Nat.mod_lt _ (Nat.succ_pos _))
  | n + 1 => Nat.le_of_lt_succ (Nat.mod_lt _ (Nat.succ_pos _))
theorem runI_tail {m b : Nat} (hb : b < 2 ^ 64) : ∀ k, runI m b (12 + k) = lcgI m (runI m b 12) k
  | 0 => rfl
  | k + 1 => by
    have z : b / 32 ^ (12 + k + 1) = 0 := by
      refine Nat.div_eq_of_lt (Nat.lt_of_lt_of_le hb ?_)
      have e : (32 : Nat) ^ (12 + k + 1) = 32 ^ 13 * 32 ^ k := by
        rw [← Nat.pow_add]
        have e2 : 12 + k + 1 = 13 + k := by omega
        rw [e2]
      rw [e]
      have h1 : 0 < (32 : Nat) ^ k := Nat.pow_pos (by decide)
      have h2 : (2 : Nat) ^ 64 ≤ 32 ^ 13 := by decide
      exact Nat.le_trans h2 (Nat.le_mul_of_pos_right _ h1)
    show (runI m b (12 + k) * 5 + 1 + b / 32 ^ (12 + k + 1)) % (m + 1) = (lcgI m (runI m b 12) k * 5 + 1) % (m + 1)
    rw [z, runI_tail hb k, Nat.add_zero]
theorem bits_lt (h : Int) : SetTable.bits h < 2 ^ 64 := by
  unfold SetTable.bits
  have h1 := Int.emod_nonneg h (show ((2 : Int) ^ 64) ≠ 0 by decide)
  have h2 := Int.emod_lt_of_pos h (show (0 : Int) < 2 ^ 64 by decide)
  omega
/-- each slot begins a run early enough -/
theorem run_meets {m : Nat} (hm : MaskOk m) (h : Int) {j : Nat} (hj : j ≤ m) : ∃ n, n ≤ m + 12 ∧ runI m (SetTable.bits h) n = j := by
  obtain ⟨k, hk, e⟩ := lcgI_all hm (runI_le m (SetTable.bits h) 12) hj
  exact ⟨12 + k, by omega, by rw [runI_tail (bits_lt h)]; exact e⟩
/-! ### slots -/
/-! ### the table's word -/
abbrev way (m : Nat) (h : Int) (k : Nat) : Nat := (nth m (runAt m (SetTable.bits h % (m + 1)) (SetTable.bits h)) k).j
/-- a table whose slots all are found again from their hashes -/
structure TabOk (t : SetTable) (hs : List Int) : Prop where
  ris : Ris t.place.toList
  dm : t.dummies = #[]
  sz : t.place.size = hs.length
  mok : MaskOk t.mask
  bd : ∀ x ∈ t.place.toList, x ≤ t.mask
  reach : ∀ (i : Nat) (h : Int) (j : Nat), hs[i]? = some h → t.place.toList[i]? = some j → ∃ k, way t.mask h k = j ∧ ∀ k', k' < k → way t.mask h k' ∈ t.place.toList
end STK

namespace STK
open PySem PySem.Spec PyProof.Rows L2

/-! ### the way stays within the table -/
theorem leap_le (m i b : Nat) : (SetTable.leap m i b).1 ≤ m := by
  show (i * 5 + 1 + b / 32) % (m + 1) ≤ m
  exact Nat.le_of_lt_succ (Nat.mod_lt _ (Nat.succ_pos _))
theorem adv_in {m : Nat} {p : SetTable.Probe} (h : p.j + p.more ≤ m) : (adv m p).j + (adv m p).more ≤ m := by
  unfold adv
  by_cases c : p.more > 0
  · rw [if_pos c]
    show p.j + 1 + (p.more - 1) ≤ m
    omega
  · rw [if_neg c]
    have r := runEnd_bd (leap_le m p.i p.perturb)
    show (SetTable.leap m p.i p.perturb).1 + (SetTable.runEnd m (SetTable.leap m p.i p.perturb).1 - (SetTable.leap m p.i p.perturb).1) ≤ m
    omega
theorem nth_in {m : Nat} : ∀ (k : Nat) (p : SetTable.Probe), p.j + p.more ≤ m → (nth m p k).j + (nth m p k).more ≤ m
  | 0, _, h => h
  | k + 1, p, h => nth_in k (adv m p) (adv_in h)
theorem way_le {m : Nat} (_hm : MaskOk m) {h : Int} {k : Nat} : way m h k ≤ m := by
  have hi : SetTable.bits h % (m + 1) ≤ m := Nat.le_of_lt_succ (Nat.mod_lt _ (Nat.succ_pos _))
  have r := runEnd_bd hi
  have q := nth_in (m := m) k (runAt m (SetTable.bits h % (m + 1)) (SetTable.bits h)) (by
    show SetTable.bits h % (m + 1) + (SetTable.runEnd m (SetTable.bits h % (m + 1)) - SetTable.bits h % (m + 1)) ≤ m
    omega)
  show (nth m (runAt m (SetTable.bits h % (m + 1)) (SetTable.bits h)) k).j ≤ m
  omega

/-! ### one put in -/
/-! ### laying all anew: the runs -/
theorem runEnd_ge (m i : Nat) : i ≤ SetTable.runEnd m i := by
  unfold SetTable.runEnd
  split <;> omega
theorem find_range' (p : Nat → Bool) : ∀ (n s k : Nat), s ≤ k → k < s + n → p k = true → (∀ k', s ≤ k' → k' < k → p k' = false) → (List.range' s n).find? p = some k
  | 0, s, k, h1, h2, _, _ => absurd h2 (by omega)
  | n + 1, s, k, h1, h2, hk, hb => by
    rw [List.range'_succ, List.find?_cons]
    by_cases c : s = k
    · subst c
      rw [hk] <;> rfl
    · rw [hb s (Nat.le_refl _) (by omega)]
      exact find_range' p n (s + 1) k (by omega) (by omega) hk fun k' a b => hb k' (by omega) b
theorem find_range (p : Nat → Bool) {n k : Nat} (h : k < n) (hk : p k = true) (hb : ∀ k', k' < k → p k' = false) : (List.range n).find? p = some k := by
  rw [List.range_eq_range']
  exact find_range' p n 0 k (Nat.zero_le _) (by omega) hk fun k' _ b => hb k' b
theorem find_range_none (p : Nat → Bool) {n : Nat} (hb : ∀ k', k' < n → p k' = false) : (List.range n).find? p = none := by
  rw [List.find?_eq_none]
  intro x hx hp
  rw [hb x (List.mem_range.mp hx)] at hp
  cases hp

/-- who sits at a slot -/
abbrev oAt (owner : Array (Option Nat)) (j : Nat) : Option Nat := owner.getD j (some 0)
def pickR (x : Option Nat) (i : Nat) (y : Option Nat) : Option Nat := match x with
  | some k => some (i + k)
  | none => y
theorem free_succ (m : Nat) (owner : Array (Option Nat)) (f i b : Nat) : SetTable.layClean.free m owner (f + 1) i b =
    pickR ((List.range (SetTable.runEnd m i + 1 - i)).find? fun k => (oAt owner (i + k)).isNone) i (SetTable.layClean.free m owner f (SetTable.leap m i b).1 (SetTable.leap m i b).2) := rfl
/-- the steps up to the n-th run -/
def off (m : Nat) : Nat → Nat → Nat → Nat
  | _, _, 0 => 0
  | i, b, n + 1 => (SetTable.runEnd m i - i + 1) + off m (SetTable.leap m i b).1 (SetTable.leap m i b).2 n
theorem free_spec (m : Nat) (owner : Array (Option Nat)) : ∀ (f n i b K : Nat), n < f → K ≤ off m i b n → (∀ k, k < K → (oAt owner (nth m (runAt m i b) k).j).isNone = false) → (oAt owner (nth m (runAt m i b) K).j).isNone = true →
    SetTable.layClean.free m owner f i b = some (nth m (runAt m i b) K).j
  | 0, _, _, _, _, hn, _, _, _ => absurd hn (Nat.not_lt_zero _)
  | f + 1, n, i, b, K, hn, hK, hocc, hfree => by
    have hge := runEnd_ge m i
    by_cases c : K ≤ SetTable.runEnd m i - i
    · have e := nth_run m i b K c
      have hf : ((List.range (SetTable.runEnd m i + 1 - i)).find? fun k => (oAt owner (i + k)).isNone) = some K :=
        find_range _ (by omega) (by rw [e] at hfree; exact hfree) fun k' hk' => by
          have q := hocc k' hk'
          rw [nth_run m i b k' (by omega)] at q
          exact q
      rw [free_succ, hf]
      exact congrArg some (congrArg SetTable.Probe.j e).symm
    · have hf : ((List.range (SetTable.runEnd m i + 1 - i)).find? fun k => (oAt owner (i + k)).isNone) = none :=
        find_range_none _ fun k' hk' => by
          have q := hocc k' (by omega)
          rw [nth_run m i b k' (by omega)] at q
          exact q
      cases n with
      | zero =>
        have z : K ≤ 0 := hK
        omega
      | succ n =>
        have z : K ≤ (SetTable.runEnd m i - i + 1) + off m (SetTable.leap m i b).1 (SetTable.leap m i b).2 n := hK
        obtain ⟨K', eK⟩ : ∃ K', K = SetTable.runEnd m i - i + 1 + K' := ⟨K - (SetTable.runEnd m i - i + 1), by omega⟩
        subst eK
        have shift : ∀ k, nth m (runAt m i b) (SetTable.runEnd m i - i + 1 + k) = nth m (runAt m (SetTable.leap m i b).1 (SetTable.leap m i b).2) k := fun k => by
          rw [nth_add, nth_leap]
        have ih := free_spec m owner f n (SetTable.leap m i b).1 (SetTable.leap m i b).2 K' (by omega) (by omega)
          (fun k hk => by
            have q := hocc (SetTable.runEnd m i - i + 1 + k) (by omega)
            rw [shift] at q
            exact q)
          (by rw [shift] at hfree; exact hfree)
        rw [free_succ, hf, shift]
        exact ih
/-- the n-th run's first state -/
def itL (m : Nat) : Nat → Nat → Nat → Nat × Nat
  | i, b, 0 => (i, b)
  | i, b, n + 1 => itL m (SetTable.leap m i b).1 (SetTable.leap m i b).2 n
theorem itL_back (m : Nat) : ∀ (n i b : Nat), itL m i b (n + 1) = SetTable.leap m (itL m i b n).1 (itL m i b n).2
  | 0, _, _ => rfl
  | n + 1, i, b => itL_back m n (SetTable.leap m i b).1 (SetTable.leap m i b).2
theorem nth_off (m : Nat) : ∀ (n i b : Nat), nth m (runAt m i b) (off m i b n) = runAt m (itL m i b n).1 (itL m i b n).2
  | 0, _, _ => rfl
  | n + 1, i, b => by
    show nth m (runAt m i b) ((SetTable.runEnd m i - i + 1) + off m (SetTable.leap m i b).1 (SetTable.leap m i b).2 n) = _
    rw [nth_add, nth_leap]
    exact nth_off m n _ _
theorem itL_run (m b : Nat) : ∀ n, itL m (b % (m + 1)) b n = (runI m b n, b / 32 ^ n)
  | 0 => by
    show (b % (m + 1), b) = (b % (m + 1), b / 32 ^ 0)
    rw [Nat.pow_zero, Nat.div_one]
  | n + 1 => by
    rw [itL_back, itL_run m b n]
    show ((runI m b n * 5 + 1 + b / 32 ^ n / 32) % (m + 1), b / 32 ^ n / 32) = _
    rw [pow_div] <;> rfl
/-- a free slot is found, at the first free place of the way -/
theorem free_find {m : Nat} (hm : MaskOk m) (owner : Array (Option Nat)) (h : Int) {j : Nat} (hj : j ≤ m) (hf : oAt owner j = none) :
    ∃ K, SetTable.layClean.free m owner (SetTable.turns m) (SetTable.bits h % (m + 1)) (SetTable.bits h) = some (way m h K) ∧ oAt owner (way m h K) = none ∧ ∀ k, k < K → oAt owner (way m h k) ≠ none := by
  obtain ⟨n, hn, e⟩ := run_meets hm h hj
  have hw : way m h (off m (SetTable.bits h % (m + 1)) (SetTable.bits h) n) = j := by
    show (nth m (runAt m (SetTable.bits h % (m + 1)) (SetTable.bits h)) (off m (SetTable.bits h % (m + 1)) (SetTable.bits h) n)).j = j
    rw [nth_off, itL_run]
    exact e
  obtain ⟨K, k1, k2, k3⟩ := st_least (p := fun k => oAt owner (way m h k) = none) (off m (SetTable.bits h % (m + 1)) (SetTable.bits h) n) (by
    show oAt owner (way m h (off m (SetTable.bits h % (m + 1)) (SetTable.bits h) n)) = none
    rw [show way m h (off m (SetTable.bits h % (m + 1)) (SetTable.bits h) n) = j from hw]
    exact hf)
  refine ⟨K, ?_, k2, k3⟩
  refine free_spec m owner (SetTable.turns m) n _ _ K (by unfold SetTable.turns; omega) k1 (fun k hk => ?_) ?_
  · have q := k3 k hk
    cases z : oAt owner (nth m (runAt m (SetTable.bits h % (m + 1)) (SetTable.bits h)) k).j with
    | none => exact absurd z q
    | some _ => rfl
  · have q : oAt owner (nth m (runAt m (SetTable.bits h % (m + 1)) (SetTable.bits h)) K).j = none := k2
    rw [q] <;> rfl

/-! ### who sits where -/
theorem oAt_set_self {owner : Array (Option Nat)} {j : Nat} (v : Option Nat) (hj : j < owner.size) : oAt (owner.setIfInBounds j v) j = v := by
  show (owner.setIfInBounds j v).getD j (some 0) = v
  rw [Array.getD_eq_getD_getElem?, Array.getElem?_setIfInBounds, if_pos rfl, if_pos hj] <;> rfl
theorem oAt_set_ne {owner : Array (Option Nat)} {i j : Nat} (v : Option Nat) (h : i ≠ j) : oAt (owner.setIfInBounds j v) i = oAt owner i := by
  show (owner.setIfInBounds j v).getD i (some 0) = owner.getD i (some 0)
  rw [Array.getD_eq_getD_getElem?, Array.getD_eq_getD_getElem?, Array.getElem?_setIfInBounds, if_neg (Ne.symm h)]
theorem oAt_init {m j : Nat} (hj : j ≤ m) : oAt (Array.replicate (m + 1) none) j = none := by
  have h : j < m + 1 := Nat.lt_succ_of_le hj
  show (Array.replicate (m + 1) (none : Option Nat)).getD j (some 0) = none
  rw [Array.getD_eq_getD_getElem?, Array.getElem?_replicate, if_pos h] <;> rfl
structure Own (m : Nat) (done : List Int) (owner : Array (Option Nat)) : Prop where
  sz : owner.size = m + 1
  at_ : ∀ j k, j ≤ m → oAt owner j = some k → ∃ h K, done[k]? = some h ∧ way m h K = j ∧ ∀ k', k' < K → oAt owner (way m h k') ≠ none
  all : ∀ k, k < done.length → ∃ j, j ≤ m ∧ oAt owner j = some k
  ps : ∃ ps : List Nat, ps.length = done.length ∧ ∀ j, j ≤ m → oAt owner j ≠ none → j ∈ ps
theorem Own.init (m : Nat) : Own m [] (Array.replicate (m + 1) none) where
  sz := by simp
  at_ := fun j k hj e => by
    rw [oAt_init hj] at e
    cases e
  all := fun k hk => absurd hk (Nat.not_lt_zero _)
  ps := ⟨[], rfl, fun j hj e => absurd (oAt_init hj) e⟩
theorem Own.step {m : Nat} (hm : MaskOk m) {done : List Int} {owner : Array (Option Nat)} (W : Own m done owner) (hl : done.length ≤ m) (h : Int) :
    ∃ j, SetTable.layClean.free m owner (SetTable.turns m) (SetTable.bits h % (m + 1)) (SetTable.bits h) = some j ∧ Own m (done ++ [h]) (owner.setIfInBounds j (some done.length)) := by
  obtain ⟨ps, hps, hin⟩ := W.ps
  obtain ⟨j0, h0, hn0⟩ := st_missing ps (m + 1) (by omega)
  have hj0 : oAt owner j0 = none := by
    cases z : oAt owner j0 with
    | none => rfl
    | some k => exact absurd (hin j0 (Nat.le_of_lt_succ h0) (by rw [z]; exact fun e => nomatch e)) hn0
  obtain ⟨K, e1, e2, e3⟩ := free_find hm owner h (Nat.le_of_lt_succ h0) hj0
  have hjm : way m h K ≤ m := way_le hm
  have hjs : way m h K < owner.size := by
    rw [W.sz]
    exact Nat.lt_succ_of_le hjm
  refine ⟨way m h K, e1, ?_⟩
  have hself := oAt_set_self (some done.length) hjs
  have mono : ∀ {i : Nat}, oAt owner i ≠ none → oAt (owner.setIfInBounds (way m h K) (some done.length)) i ≠ none := fun {i} hi => by
    by_cases c : i = way m h K
    · rw [c, hself]
      exact fun e => nomatch e
    · rw [oAt_set_ne _ c]
      exact hi
  refine ⟨by rw [Array.size_setIfInBounds]; exact W.sz, fun j k hj e => ?_, fun k hk => ?_, ⟨way m h K :: ps, by rw [List.length_cons, List.length_append, hps] <;> rfl, fun j hj e => ?_⟩⟩
  · by_cases c : j = way m h K
    · rw [c, hself] at e
      have ek : done.length = k := Option.some.inj e
      refine ⟨h, K, ?_, c.symm, fun k' hk' => mono (e3 k' hk')⟩
      rw [← ek, List.getElem?_append_right (Nat.le_refl _), Nat.sub_self] <;> rfl
    · rw [oAt_set_ne _ c] at e
      obtain ⟨h', K', a1, a2, a3⟩ := W.at_ j k hj e
      refine ⟨h', K', ?_, a2, fun k' hk' => mono (a3 k' hk')⟩
      rw [List.getElem?_append_left (List.getElem?_eq_some_iff.mp a1).1]
      exact a1
  · rw [List.length_append, List.length_singleton] at hk
    by_cases c : k < done.length
    · obtain ⟨j, hj, e⟩ := W.all k c
      refine ⟨j, hj, ?_⟩
      rw [oAt_set_ne _ (fun z => by rw [z, e2] at e; cases e)]
      exact e
    · have ek : k = done.length := by omega
      rw [ek]
      exact ⟨way m h K, hjm, hself⟩
  · by_cases c : j = way m h K
    · rw [c]
      exact List.mem_cons_self
    · rw [oAt_set_ne _ c] at e
      exact List.mem_cons_of_mem _ (hin j hj e)

/-! ### layClean -/
/-! ### the new table -/
end STK

/-! ST2: sets of tuples of ints and texts (the roads of HandS.TupSets, by mixKind). -/
namespace STK
open PySem PySem.Spec PyProof.Rows L2
abbrev thash (P : Program) (w : World) (k : List Key) : Int := tupleKeyHash (mixKind P w) k
/-- the tuple at a has the ints k -/
abbrev IsT (P : Program) (w : World) (h : Heap) (k : List Key) (a : Addr) : Prop := IsTupleKey (mixKind P w) h k a

/-! ### the model's words, opened -/
section
variable {P : Program} {w : World} {A : Around} {E : Value → Shared → Prop} {s : Shared}

/-! ### small questions asked of tuples -/
/-! ### the set of tuples -/
def rowsOf (P : Program) (w : World) (L : List (Addr × List Key)) : List (Int × Value) := L.map fun p => (thash P w p.2, Value.ref p.1)
structure SetTR (P : Program) (w : World) (h : Heap) (a : Addr) (L : List (Addr × List Key)) (es : Array (Int × Value)) (ep : Nat) (t : SetTable) : Prop where
  ob : ∃ o, h.get? a = some o ∧ o.ExactSet ∧ o.data = .set es ep t
  rows : es.toList = rowsOf P w L
  tab : TabOk t (L.map fun p => thash P w p.2)
  nd : (L.map (·.2)).Nodup
  tup : ∀ p ∈ L, IsT P w h p.2 p.1
  led : w.params.followText "set-order" = true ∨ t.led = true
  room : L.length * 5 < t.mask * 3
  few : L.length < 300
variable {a : Addr} {L : List (Addr × List Key)} {es : Array (Int × Value)} {ep : Nat} {t : SetTable}
theorem SetTR.size (R : SetTR P w s.heap a L es ep t) : es.size = L.length := by
  have h := congrArg List.length R.rows
  unfold rowsOf at h
  rw [Array.length_toList, List.length_map] at h
  exact h
theorem SetTR.fits (R : SetTR P w s.heap a L es ep t) : t.fits es.size = true := by
  have h1 := R.tab.sz
  rw [List.length_map] at h1
  have h2 := R.size
  have h3 := R.room
  unfold SetTable.fits SetTable.fill
  rw [R.tab.dm, Bool.and_eq_true, beq_iff_eq, decide_eq_true_eq]
  show t.place.size = es.size ∧ t.place.size + 0 ≤ t.mask
  omega
end
end STK

namespace STK
open PySem PySem.Spec PyProof.Rows L2
section
variable {P : Program} {w : World} {A : Around} {E : Value → Shared → Prop} {s : Shared}
variable {a : Addr} {L : List (Addr × List Key)} {es : Array (Int × Value)} {ep : Nat} {t : SetTable}
end
end STK

namespace STK
open PySem PySem.Spec PyProof.Rows L2

/-- what the set has got from the first i items -/
structure Got (ks : List (Addr × List Key)) (i : Nat) (L : List (Addr × List Key)) : Prop where
  sub : ∀ p ∈ L, p ∈ ks.take i
  all : ∀ p ∈ ks.take i, p.2 ∈ L.map (·.2)
  len : L.length ≤ i
theorem Got.zero (ks : List (Addr × List Key)) : Got ks 0 [] := ⟨fun p h => (by cases h), fun p h => (by simp at h), Nat.le_refl _⟩
theorem take_next {α : Type} {l : List α} {i : Nat} {x : α} (h : l[i]? = some x) : l.take (i + 1) = l.take i ++ [x] := by
  rw [List.take_succ, h] <;> rfl
theorem Got.same {ks L : List (Addr × List Key)} {i : Nat} {x : Addr × List Key} (g : Got ks i L) (h : ks[i]? = some x) (hm : x.2 ∈ L.map (·.2)) : Got ks (i + 1) L := by
  refine ⟨fun p hp => ?_, fun p hp => ?_, Nat.le_succ_of_le g.len⟩
  · rw [take_next h]
    exact List.mem_append_left _ (g.sub p hp)
  · rw [take_next h] at hp
    rcases List.mem_append.mp hp with z | z
    · exact g.all p z
    · rw [List.mem_singleton.mp z]; exact hm
theorem Got.more {ks L L' : List (Addr × List Key)} {i : Nat} {x : Addr × List Key} (g : Got ks i L) (h : ks[i]? = some x) (pm : L'.Perm (x :: L)) : Got ks (i + 1) L' := by
  refine ⟨fun p hp => ?_, fun p hp => ?_, ?_⟩
  · rw [take_next h]
    rcases List.mem_cons.mp (pm.mem_iff.mp hp) with e | z
    · rw [e]; exact List.mem_append_right _ (List.mem_singleton.mpr rfl)
    · exact List.mem_append_left _ (g.sub p z)
  · rw [(pm.map (·.2)).mem_iff, List.map_cons]
    rw [take_next h] at hp
    rcases List.mem_append.mp hp with z | z
    · exact List.mem_cons_of_mem _ (g.all p z)
    · rw [List.mem_singleton.mp z]; exact List.mem_cons_self
  · rw [pm.length_eq, List.length_cons]
    exact Nat.succ_le_succ g.len

section
variable {P : Program} {w : World} {A : Around} {E : Value → Shared → Prop} {s : Shared}
theorem SetTR.keep {h h' : Heap} {a : Addr} {L : List (Addr × List Key)} {es : Array (Int × Value)} {ep : Nat} {t : SetTable} (R : SetTR P w h a L es ep t) (ha : ∀ o, h.get? a = some o → h'.get? a = some o) (ht : ∀ p ∈ L, IsT P w h' p.2 p.1) : SetTR P w h' a L es ep t := by
  obtain ⟨o, ho, r⟩ := R.ob
  exact ⟨⟨o, ha o ho, r⟩, R.rows, R.tab, R.nd, ht, R.led, R.room, R.few⟩
end
end STK

/-! ST3: sets of tuples of keys on the abstract heap; what adds to a set. -/
namespace STK
open PySem PySem.Spec PyProof.Rows L2
section
variable {X : Cx}
end
end STK
namespace S3
open PySem PySem.Spec L2 STK
section
variable {Z : Wd} {F H : Hp}
end
section
variable {ca : Str → Option Addr} {W : WX} {X : Cx} {e : Expr} {fe : EV} {p p2 q pos : Pos}
end
end S3

/-! ST4: set comprehensions of one clause, for what adds to a set. -/
namespace STK
open PySem PySem.Spec PyProof.Rows L2
open S3 (SetGO setG_new setG_fresh setG_get setG_add addKey addKey_is)
section
variable {prog : Program} {w : World} {A : Around} {R : Result → Shared → Prop} {s : Shared} {elt t0 i0 : Expr} {ifs0 : List Expr} {scope : Scope} {pos : Pos} {it acc : Value} {env : Env}
end
section
variable {X : Cx}
end
end STK

/-! ST5: set and dict comprehensions of one clause, as terms. -/
namespace S3
open PySem PySem.Spec L2 STK
/-! ### terms -/
section
variable {β : Type}
end
section
variable {Z : Wd} {F F' H H' : Hp} {N : En} {σ : L2.St} {e e' : Env} {v x y : V} {W : WX} {E : Ends}
end
section
variable {ca : Str → Option Addr} {W : WX} {X : Cx} {fe fv : EV} {w : WV} {c : TV} {elt vx tg iter : Expr} {ifs : List Expr} {scope : Scope} {own : List (Str × Nat)} {pos p q : Pos} {g : TG} {t : Tg}
end
end S3

/-! J1: walks over dicts. A dict that is walked stands locked meanwhile. -/
namespace L2
open PySem PySem.Spec PyProof.Rows
/-- in the end it is unlocked, or not -/
def unQ (H0 : Hp) (Q : VK) : VK := fun v H' => Q v H' ∨ ∃ d od u, H' d = some (.frz od u) ∧ (∀ o' u', H0 d ≠ some (.frz o' u')) ∧ Q v (upd H' d u)
def unN (H0 : Hp) (Q : St → Hp → Prop) : St → Hp → Prop := fun v H' => Q v H' ∨ ∃ d od u, H' d = some (.frz od u) ∧ (∀ o' u', H0 d ≠ some (.frz o' u')) ∧ Q v (upd H' d u)
def unE (H0 : Hp) (D : Ends) : Ends := ⟨unN H0 D.nx, unQ H0 D.rt, unN H0 D.bk, unN H0 D.ct⟩
section
variable {X : Cx}
end
end L2
namespace S3
open PySem L2
/-- a dict -/
def IsD : HO → Prop
  | .dK _ => True
  | .dT _ => True
  | _ => False
/-- the same, but for locks on dicts -/
def LkS (F F' : Hp) : Prop := ∀ b o, F b = some o → F' b = some o ∨ (IsD o ∧ ∃ od, F' b = some (.frz od o)) ∨ ∃ od u, o = .frz od u ∧ IsD u ∧ F' b = some u
section
variable {Z : Wd} {F F' H H' : Hp}
theorem LkS.at (k : LkS F F') {b : Addr} {o : HO} (h : F b = some o) (n : ¬ IsD o) (nf : ∀ od u, o = .frz od u → ¬ IsD u) : F' b = some o := by
  rcases k b o h with z | ⟨z, _⟩ | ⟨od, u, z, i, _⟩
  · exact z
  · exact (n z).elim
  · exact (nf od u z i).elim
theorem LkS.rd (k : LkS F F') {b : Addr} {o : HO} (h : L2.Rd F b o) (n : ∀ od u, o ≠ .frz od u) : L2.Rd F' b o := by
  rcases h with h | ⟨od, h⟩
  · rcases k b o h with z | ⟨_, od, z⟩ | ⟨od, u, z, _⟩
    · exact .inl z
    · exact .inr ⟨od, z⟩
    · exact (n od u z).elim
  · rcases k b _ h with z | ⟨i, _⟩ | ⟨od', u, z, i, z2⟩
    · exact .inr ⟨od, z⟩
    · exact i.elim
    · cases z; exact .inl z2
variable {N N' : En} {σ : L2.St} {e : Env}
end
end S3

/-! J2: walks over dicts: the rules. -/
namespace S3
open PySem PySem.Spec L2 STK
section
variable {Z : Wd} {F F' H H' : Hp} {N : En} {σ : L2.St} {e e' : Env} {v x y : V} {W : WX} {E : Ends} {H0 : Hp}
theorem PostE.un {Q : VK} {r : RE} (P : PostE Z N F σ W Q r) : PostE Z N F σ W (unQ H0 Q) r := by
  cases r with
  | no => exact P
  | ok r e => exact fun v F1 H1 f1 S1 R1 => .inl (P v F1 H1 f1 S1 R1)
  | ex x e => exact P
theorem PostS.un {r : RS} (P : PostS Z N F W E r) : PostS Z N F W (unE H0 E) r := by
  cases r with
  | no => exact P
  | nx e => exact fun F1 H1 σ1 f1 S1 => .inl (P F1 H1 σ1 f1 S1)
  | rt r e => exact fun v F1 H1 σ1 f1 S1 R1 => .inl (P v F1 H1 σ1 f1 S1 R1)
  | bk e => exact fun F1 H1 σ1 f1 S1 => .inl (P F1 H1 σ1 f1 S1)
  | ct e => exact fun F1 H1 σ1 f1 S1 => .inl (P F1 H1 σ1 f1 S1)
  | ex x e => exact P
/-! ### the walkers -/
theorem RpP.get {κ : Type} : ∀ {vs : List (κ × V)} {ds : List (κ × D)} {i : Nat} {k : κ} {v : V}, RpP Z F vs ds → vs[i]? = some (k, v) → ∃ d, ds[i]? = some (k, d) ∧ Rp Z F v d
  | _, _, _, _, _, .nil, h => by simp at h
  | _, _, 0, _, _, .cons h _, q => by simp at q; obtain ⟨rfl, rfl⟩ := q; exact ⟨_, rfl, h⟩
  | _, _, i + 1, _, _, .cons _ r, q => by
    obtain ⟨v, h1, h2⟩ := RpP.get (i := i) r (by simpa using q)
    exact ⟨v, by simpa using h1, h2⟩
end
/-! ### the rules -/
section
variable {ca : Str → Option Addr} {W : WX} {X : Cx} {fe fv : EV} {w : WV} {c : TV} {a elt vx tg iter : Expr} {ifs : List Expr} {scope : Scope} {own : List (Str × Nat)} {pos p q apos cpos : Pos} {g : TG} {t : Tg}
end
end S3

/-! ST6: set(a dict). -/
namespace S3
open PySem PySem.Spec PyProof.Rows L2
section
variable {P : Program} {w : World} {κ : Type} [DecidableEq κ] {knd : PySem.KeyKind P w κ} {A : Around} {E : Value → Shared → Prop} {s : Shared} {a : Addr} {ks : List κ}
end
end S3

/-! ST7: set(a dict): the call. -/
namespace S3
open PySem PySem.Spec PyProof.Rows L2
section
variable {P : Program} {w : World} {κ : Type} [DecidableEq κ] {knd : PySem.KeyKind P w κ} {A : Around} {E : Value → Shared → Prop} {s : Shared} {a : Addr} {ks : List κ}
end
end S3

/-! ST8: set(a dict) over the abstract heap; the rule. -/
namespace S3
open PySem PySem.Spec PyProof.Rows L2
section
variable {X : Cx}
end
section
variable {X : Cx}
variable {Z : Wd}
end
end S3

/-! J3: == of dicts, both answers. -/
namespace L2
open PySem PySem.Spec PyProof.Rows
section
variable {P : Program} {w : World} {A : Around} {s : Shared}
end
section
variable {X : Cx} {pins : List (Addr × Obj)} {σ : St} {H : Hp} {s : Shared}
end
section
variable {X : Cx}
end
end L2
namespace S3
open PySem PySem.Spec L2
section
variable {Z : Wd} {F H : Hp}
end
end S3

/-! J4: a dict of the module asked; extend; dict(d). -/
namespace S3
open PySem PySem.Spec L2 STK
section
variable {Z : Wd} {F F' H H' : Hp}
end
section
variable {ca : Str → Option Addr} {W : WX} {X : Cx} {a b : Expr} {fa fb : EV} {ga : AV} {pos p p2 : Pos} {n : Str}
end
end S3

/-! J5: facts of own classes at the levels; expressions that are never reached. -/
namespace S3
open PySem PySem.Spec L2 STK
section
variable {ca : Str → Option Addr} {P : Program} {w : World} {K : PySem.W.Frag} {mg : Str → Option Value} {base : Heap}
end
section
variable {ca : Str → Option Addr} {W : WX} {X : Cx} {a : Expr}
end
/-! a block within a block -/
end S3

/-! J6: a, b = x, y with plain local names. -/
namespace S3
open PySem PySem.Spec L2 STK
section
variable {Z : Wd} {W : WX} {E : Ends} {σ : St} {H : Hp}
end
section
variable {ca : Str → Option Addr} {W : WX} {X : Cx} {a b : Expr} {ga : AV} {pos px py pt pt2 : Pos} {x y : Str} {kt k2 : _}
end
end S3

/-! J7: try .. except C: without a name. -/
namespace S3
open PySem PySem.Spec L2 STK
section
variable {ca : Str → Option Addr} {W : WX} {X : Cx} {x n : Str} {c : Value} {body suite : List Stmt} {b₀ : Stmt} {np pos pos' : Pos} {b h : SV}
end
end S3

/-! J8: f-strings: {x}, {x:<8}, {x:>8}, parts joined. -/
namespace S3
open PySem PySem.Spec L2
open Builtin Builtin.Str Builtin.Int Builtin.Float PyProof.Rows in
/-! ### the rules -/
section
variable {X : Cx}
end
section
variable {Z : Wd}
end
section
variable {ca : Str → Option Addr} {W : WX} {X : Cx} {e : Expr} {fe : EV} {pos p1 p2 : Pos}
end
end S3

/-! J9: x.split(sep), sep a written text; x.upper(). What is said of the parts is asked of the term. -/
namespace S3
open PySem PySem.Spec L2
def opSpl (b : Str) : D → Option RV
  | .str a => if (b.length == 0) = false ∧ a.length + 2 ≤ 16777216 ∧ (Txt.split a b).all sOk = true then some (.nw (.lst ((Txt.split a b).map .str))) else none
  | _ => none
section
variable {Z : Wd}
theorem rpa_strs {F : Hp} : ∀ {ys : List Str}, ys.all sOk = true → RpA Z F (ys.map V.str) (ys.map D.str)
  | [], _ => .nil
  | y :: ys, h => by
    rw [List.all_cons, Bool.and_eq_true] at h
    exact .cons (.str y h.1) (rpa_strs h.2)
theorem s_spl (b : Str) : Sound1 Z (fun x H Q => (∃ a, x = .str a) ∧ ∃ a b', x = .str a ∧ [V.str b] = [V.str b'] ∧ (b'.length == 0) = false ∧ a.length + 2 ≤ sizeLine ∧ rNewStrs (Txt.split a b') H Q) (opSpl b) := by
  intro F H x dx rr Q l hx ho q
  cases dx <;> simp only [opSpl] at ho <;> try (cases ho; done)
  split at ho
  · rename_i h
    cases ho
    exact ⟨⟨_, hx.str.1⟩, _, b, hx.str.1, rfl, h.1, by rw [sizeLine_eq]; exact h.2.1, fin_lst l q (rpa_strs h.2.2)⟩
  · cases ho
end
section
variable {ca : Str → Option Addr} {W : WX} {X : Cx} {o : Expr} {fo : EV} {b : Str} {j : Nat} {p apos pos : Pos}
theorem ev_spl (ho : Ev ca W X o fo) (hs : starEach [.Constant (.str b) j p] X.env = [(false, eval (.Constant (.str b) j p) X.env)] := by rfl) (hbase : attributeBase o "split" X.env (eval o X.env) = eval o X.env := by rfl) (hline : (apos.endLine == pos.line) = true := by rfl) :
    Ev ca W X (.Call (.Attribute o "split" apos) [.Constant (.str b) j p] [] pos) (eOp1 (opSpl b) fo) :=
  PE_imp (pe_split ho (pe_str (x := b)) hs hbase hline) fun _ _ _ h => one (s_spl b) h
end
end S3

/-! J10: x.replace('a', 'b') in a list display behind a written text: there a token is out. -/
namespace S3
open PySem PySem.Spec PyProof.Rows L2
section
variable {X : Cx}
end
section
variable {Z : Wd}
end
section
variable {ca : Str → Option Addr} {W : WX} {X : Cx} {e o b : Expr} {es : List Expr} {fe fo fb : EV} {ga : AV} {pos p1 p2 apos c0 c1 : Pos}
end
end S3

/-! N1: tuples of words that stand in a class (in, not in, index, ==); a def with *args; an own operator that may tell one of its two sides. -/
namespace S3
open PySem PySem.Spec L2
/-! ### terms -/
/-! ### readings -/
section
variable {Z : Wd} {F F' H H' : Hp} {N : En} {σ : L2.St} {e e' : Env} {v x y : V} {W : WX} {E : Ends}
theorem RdV.kt {x : V} {ds : List D} (h : RdV Z F H x (.kt ds)) : ∃ a xs, x = .ref a ∧ SqT Z.K F a xs ∧ RpA Z F xs ds := by
  rcases h with h | ⟨a, _, _, t⟩
  · cases h with
    | kt h r => exact ⟨_, _, rfl, h, r⟩
  · exact t.elim
end
section
variable {ca : Str → Option Addr} {W : WX} {X : Cx} {a b o : Expr} {es : List Expr} {fa fb fo : EV} {ga : AV} {pos p apos : Pos} {k : Nat} {n c : Str} {phi : List D → RC}
/-! ### == and isinstance of such a tuple -/
/-! ### defs with *args alone -/
structure StarT (ca : Str → Option Addr) (P : Program) (w : World) (K : PySem.W.Frag) (mg : Str → Option Value) (base : Heap) (k : Nat) (n : Str) (phi : List D → RC) : Prop where
  ex : ∃ (f : Addr), FnR P w K mg base (L2N.CX P w) (2 * k) f (fun vs H Q E => vs.length ≤ sizeLine ∧ ∀ p, H p = none → spOf ⟨P, w, K, ca⟩ [.v] phi [.ref p] (upd H p (.tup vs)) Q E) ∧ mg n = some (.ref f) ∧ PySem.W.keepIn K (.ref f) = true
theorem StarT.zero {P : Program} {w : World} {K : PySem.W.Frag} {mg : Str → Option Value} {base : Heap} {n : Str} {f : Addr} {g : String} {tab : String → Option Def} (F : FnR P w K mg base (L2N.CX P w) 0 f (fun vs H Q E => vs.length ≤ sizeLine ∧ ∀ p, H p = none → spOf ⟨P, w, K, ca⟩ [.v] (sem tab 0 g) [.ref p] (upd H p (.tup vs)) Q E)) (hf : mg n = some (.ref f)) (hk : PySem.W.keepIn K (.ref f) = true) : StarT ca P w K mg base 0 n (sem tab 0 g) :=
  ⟨f, F, hf, hk⟩
theorem StarT.succ {P : Program} {w : World} {K : PySem.W.Frag} {mg : Str → Option Value} {base : Heap} {n : Str} {f : Addr} {k : Nat} {g : String} {T : Def} {tab : String → Option Def} (h : FnR P w K mg base (L2N.CX P w) (2 * (k + 1)) f (fun vs H Q E => vs.length ≤ sizeLine ∧ ∀ p, H p = none → spOf ⟨P, w, K, ca⟩ [.v] (T.run (sem tab k)) [.ref p] (upd H p (.tup vs)) Q E)) (hf : mg n = some (.ref f)) (hk : PySem.W.keepIn K (.ref f) = true)
    (ht : tab g = some T) : StarT ca P w K mg base (k + 1) n (sem tab (k + 1) g) := by
  refine ⟨f, ?_, hf, hk⟩
  have e : sem tab (k + 1) g = T.run (sem tab k) := by funext ds; simp only [sem, ht]
  rw [e]
  exact h
/-! ### an own operator that keeps both sides -/
end
end S3

/-! N2: exceptions as values: C(..) held, isinstance(x, C), x.f. -/
namespace L2
open PySem PySem.Spec PyProof.Rows PySem.S3X
section
variable {X : Cx} {C fI cc cda : Addr} {fd : FuncData} {fs : List Str} {e : Expr} {es : List Expr} {ta : TA} {te : TE} {p pos : Pos} {x : Str}
end
end L2
namespace S3
open PySem PySem.Spec L2
section
variable {Z : Wd} {F F' H H' : Hp} {N : En} {σ : L2.St} {e e' : Env} {v x y : V} {W : WX}
theorem RdV.xv {x : V} {c : Str} {ds : List (Str × D)} (l : Same F H) (h : RdV Z F H x (.xv c ds)) : ∃ a C d xs, x = .ref a ∧ Z.ca c = some C ∧ H a = some (ExW C d a) ∧ ((ds = [] ∧ d = none) ∨ ∃ dd, d = some dd ∧ H dd = some (.xd xs)) ∧ RpP Z F xs ds := by
  rcases h with h | ⟨_, _, _, t⟩
  · cases h with
    | xv h1 h2 h3 r => exact ⟨_, _, _, _, rfl, h1, l _ _ h2, h3.imp id fun ⟨dd, x, y⟩ => ⟨dd, x, l _ _ y⟩, r⟩
  · exact t.elim
end
section
variable {ca : Str → Option Addr} {W : WX} {X : Cx} {e a : Expr} {es : List Expr} {fe : EV} {ga : AV} {p p2 pos : Pos} {fs : List Str} {n : Str}
end
end S3

/-! N3: *xs of a written tuple; several except clauses without names; a keyword argument with a default. -/
namespace S3
open PySem PySem.Spec L2
section
variable {Z : Wd} {F F' H H' : Hp} {N : En} {σ : L2.St} {e e' : Env} {v x y : V} {W : WX}
end
section
variable {ca : Str → Option Addr} {W : WX} {X : Cx} {a : Expr} {es : List Expr} {fa : EV} {ga : AV} {p pos : Pos} {x : Str} {body : List Stmt} {b : SV}
/-! ### several except clauses -/
inductive HdsV (ca : Str → Option Addr) (X : Cx) : List ExceptHandler → List ((Str → Bool) × SV) → List (Value × (Addr → Value → Option Addr → TS)) → Prop
  | nil : HdsV ca X [] [] []
  | cons {x : Str} {c : Value} {sub : Str → Bool} {h : SV} {b₀ : Stmt} {suite : List Stmt} {np pos' : Pos} {hds : List ExceptHandler} {hs : List ((Str → Bool) × SV)} {l : List (Value × (Addr → Value → Option Addr → TS))} :
      Names X x c → (∀ m C, ca m = some C → xnm m = true → PySem.W.exmOne X.K (.ref C) c = some (sub m)) →
      (∀ (a : Addr) (oe : Obj) (cls : Value) (d : Option Addr) (pn : List (Addr × Obj)), L2N.Zn cls d oe → (∃ vs, oe.data = .fields vs) → Bv ca (fun _ _ _ _ => False) (X.suite a ((a, oe) :: pn)) (b₀ :: suite) h) →
      HdsV ca X hds hs l → HdsV ca X (.ExceptHandler (some (.Name x np)) none (b₀ :: suite) pos' :: hds) ((sub, h) :: hs) ((c, fun _ _ _ => tSv (zw ca X) (fun _ _ _ _ => False) h) :: l)
theorem HdsV.ok {hds : List ExceptHandler} {hs : List ((Str → Bool) × SV)} {l : List (Value × (Addr → Value → Option Addr → TS))} (h : HdsV ca X hds hs l) : L2N.HdsOk X hds l := by
  induction h with
  | nil => exact .nil
  | cons h1 h2 h3 _ ih => exact .cons h1 h3 ih
/-! ### a keyword argument with a default -/
structure FnDT (ca : Str → Option Addr) (P : Program) (w : World) (K : PySem.W.Frag) (mg : Str → Option Value) (base : Heap) (k : Nat) (n kw : Str) (ms : List Md) (phi : List D → RC) : Prop where
  ex : ∃ (f : Addr) (fd : FuncData) (ps : List Str) (dv : Value) (v0 : V), FnOk P w K mg base (L2N.CX P w) (2 * k) f fd ps (spOf ⟨P, w, K, ca⟩ (ms ++ [.v]) phi) ∧ mg n = some (.ref f) ∧ PySem.W.keepIn K (.ref f) = true ∧ Binds K fd ps [dv] ∧ RelV v0 dv ∧ (∀ F, Rp ⟨P, w, K, ca⟩ F v0 (.kt [])) ∧
    KBn K fd ps ms.length [kw] (fun us ws => us ++ ws) (fun vs zs => vs ++ zs)
theorem FnDT.zero {P : Program} {w : World} {K : PySem.W.Frag} {mg : Str → Option Value} {base : Heap} {n kw : Str} {f : Addr} {fd : FuncData} {ps : List Str} {ms : List Md} {g : String} {tab : String → Option Def} {dv : Value} {v0 : V} (hf : mg n = some (.ref f)) (hk : PySem.W.keepIn K (.ref f) = true) (hb : Binds K fd ps [dv]) (hv : RelV v0 dv) (h0 : ∀ F, Rp ⟨P, w, K, ca⟩ F v0 (.kt [])) (hn : KBn K fd ps ms.length [kw] (fun us ws => us ++ ws) (fun vs zs => vs ++ zs)) :
    FnDT ca P w K mg base 0 n kw ms (sem tab 0 g) :=
  ⟨f, fd, ps, dv, v0, ⟨fun vs H Q E ⟨_, _, _, _, _, z⟩ => z.elim, fun A outer s H args us vs Q E _ _ _ _ ⟨_, _, _, _, _, z⟩ => z.elim⟩, hf, hk, hb, hv, h0, hn⟩
theorem FnDT.succ {P : Program} {w : World} {K : PySem.W.Frag} {mg : Str → Option Value} {base : Heap} {n kw : Str} {f : Addr} {fd : FuncData} {ps : List Str} {ms : List Md} {k : Nat} {g : String} {T : Def} {tab : String → Option Def} {dv : Value} {v0 : V} (h : FnOk P w K mg base (L2N.CX P w) (2 * (k + 1)) f fd ps (spOf ⟨P, w, K, ca⟩ T.ms (T.run (sem tab k)))) (hf : mg n = some (.ref f)) (hk : PySem.W.keepIn K (.ref f) = true)
    (hb : Binds K fd ps [dv]) (hv : RelV v0 dv) (h0 : ∀ F, Rp ⟨P, w, K, ca⟩ F v0 (.kt [])) (hn : KBn K fd ps ms.length [kw] (fun us ws => us ++ ws) (fun vs zs => vs ++ zs)) (ht : tab g = some T) (hm : T.ms = ms ++ [.v] := by rfl) : FnDT ca P w K mg base (k + 1) n kw ms (sem tab (k + 1) g) := by
  refine ⟨f, fd, ps, dv, v0, ?_, hf, hk, hb, hv, h0, hn⟩
  rw [← hm]
  have e : sem tab (k + 1) g = T.run (sem tab k) := by funext ds; simp only [sem, ht]
  rw [e]
  exact h
end
end S3

/-! N4: != of dicts whose keys are tuples. -/
namespace S3T
open PySem PySem.Spec PyProof.Rows L2
section
variable {prog : Program} {w : World} {K : Type} [DecidableEq K] {knd : HeapKind prog w K} {A : Around} {E : Value → Shared → Prop} {s : Shared}
end
end S3T
namespace L2
open PySem PySem.Spec PyProof.Rows S3T
section
variable {X : Cx} {pins : List (Addr × Obj)} {σ : St} {H : Hp} {s : Shared}
end
section
variable {X : Cx}
end
end L2
namespace S3
open PySem PySem.Spec L2
section
variable {Z : Wd} {F H : Hp}
end
end S3

/-! Y1: deep trees: made of shallow ones, their parts found and changed; slots that hold them. -/
namespace S3
open PySem L2
section
variable {Z : Wd} {F F' H H' : Hp} {N : En} {σ : St} {e e' : Env} {v w : V}
theorem RpA.ow : ∀ {vs : List V} {ds : List D}, RpA Z F vs ds → OwA Z F H [] vs ds
  | _, _, .nil => .nil
  | _, _, .cons h r => .cons (R := []) (Q := []) (.fz h) r.ow (fun _ z => by cases z)
theorem RpP.ow : ∀ {κ : Type} {vs : List (κ × V)} {ds : List (κ × D)}, RpP Z F vs ds → OwP Z F H [] vs ds
  | _, _, _, .nil => .nil
  | _, _, _, .cons h r => .cons (R := []) (Q := []) (.fz h) r.ow (fun _ z => by cases z)
/-- what may be an owned part -/
def obk : D → Bool
  | .lst _ => true | .dk _ => true | .obj _ _ => true | _ => false
theorem Top.ow {a : Addr} {d : D} (k : obk d = true) (f : F a = none) (t : Top Z F H a d) : OwT Z F H [a] (.ref a) (.ob d) := by
  cases d <;> simp only [obk] at k <;> try (cases k; done)
  · obtain ⟨xs, h, r⟩ := t; exact .lst f h (by simp) r.ow
  · obtain ⟨q, xs, h, r⟩ := t; exact .dk f h q (by simp) r.ow
  · obtain ⟨C, dx, xs, c, h, r⟩ := t; exact .obj f c h (by simp) r.ow
theorem OwT.rpOf {R : List Addr} {d : D} (h : OwT Z F H R v d) (n : ∀ t, d ≠ .ob t) : R = [] ∧ Rp Z F v d := by
  cases h with
  | fz r => exact ⟨rfl, r⟩
  | _ => exact (n _ rfl).elim
theorem OwT.refOf {R : List Addr} {d : D} (h : OwT Z F H R v (.ob d)) : ∃ a, v = .ref a := by
  cases h with
  | fz r => exact (no_ob r).elim
  | _ => exact ⟨_, rfl⟩
theorem Kp.refl {R : List Addr} : Kp R H H := fun _ _ h _ => h
/-- kept, but for a part -/
def KpB (R Q : List Addr) (H H' : Hp) : Prop := ∀ b o, H b = some o → ((b ∈ R ∧ b ∉ Q) ∨ ¬ NT o) → H' b = some o
theorem KpB.kp {R Q S : List Addr} (k : KpB R Q H H') (s : ∀ b ∈ S, b ∈ R ∧ b ∉ Q) : Kp S H H' := fun b o h m => k b o h (m.imp (s b) id)
theorem KpB.sub {R Q S : List Addr} (k : KpB R Q H H') (s : ∀ b ∈ S, b ∈ R) : KpB S Q H H' := fun b o h m => k b o h (m.imp (fun z => ⟨s b z.1, z.2⟩) id)
theorem OwT.kept {R : List Addr} {d : D} (h : OwT Z F H R v d) (k : Kp R H H') : OwT Z F H' R v d := h.mono (Same.refl _) (fun b m => (h.there b m).1) k
theorem OwA.kept {R : List Addr} {vs : List V} {ds : List D} (h : OwA Z F H R vs ds) (k : Kp R H H') : OwA Z F H' R vs ds := h.mono (Same.refl _) (fun b m => (h.there b m).1) k
theorem OwP.kept {κ : Type} {R : List Addr} {vs : List (κ × V)} {ds : List (κ × D)} (h : OwP Z F H R vs ds) (k : Kp R H H') : OwP Z F H' R vs ds := h.mono (Same.refl _) (fun b m => (h.there b m).1) k
/-! a field given -/
/-- a field found -/
theorem OwP.lookF {f : Str} {d : D} : ∀ {R : List Addr} {xs : List (Str × V)} {ds : List (Str × D)}, OwP Z F H R xs ds → ds.lookup f = some d → ∃ v R1, xs.lookup f = some v ∧ OwT Z F H R1 v d ∧ ∀ b ∈ R1, b ∈ R
  | _, _, _, .nil, q => by cases q
  | _, _, _, .cons (k := k) h r n, q => by
    rw [List.lookup_cons] at q ⊢
    split at q
    · cases q
      exact ⟨_, _, rfl, h, fun b m => List.mem_append_left _ m⟩
    · obtain ⟨v, R1, h1, h2, h3⟩ := OwP.lookF r q
      exact ⟨v, R1, h1, h2, fun b m => List.mem_append_right _ (h3 b m)⟩
/-! a key's value found, changed -/
theorem OwP.app {κ : Type} {Q : List Addr} {ys : List (κ × V)} {es : List (κ × D)} (c : OwP Z F H Q ys es) : ∀ {R : List Addr} {xs : List (κ × V)} {ds : List (κ × D)}, OwP Z F H R xs ds → (∀ b ∈ Q, b ∉ R) → OwP Z F H (R ++ Q) (xs ++ ys) (ds ++ es)
  | _, _, _, .nil, _ => c
  | _, _, _, .cons (R := R1) (Q := Q1) h r n, dj => by
    rw [List.append_assoc]
    exact .cons h (OwP.app c r fun b m z => dj b m (List.mem_append_right _ z)) fun b m z => by
      rcases List.mem_append.mp z with z | z
      · exact n b m z
      · exact dj b z (List.mem_append_left _ m)
theorem OwA.app {Q : List Addr} {ys : List V} {es : List D} (c : OwA Z F H Q ys es) : ∀ {R : List Addr} {xs : List V} {ds : List D}, OwA Z F H R xs ds → (∀ b ∈ Q, b ∉ R) → OwA Z F H (R ++ Q) (xs ++ ys) (ds ++ es)
  | _, _, _, .nil, _ => c
  | _, _, _, .cons (R := R1) (Q := Q1) h r n, dj => by
    rw [List.append_assoc]
    exact .cons h (OwA.app c r fun b m z => dj b m (List.mem_append_right _ z)) fun b m z => by
      rcases List.mem_append.mp z with z | z
      · exact n b m z
      · exact dj b z (List.mem_append_left _ m)
theorem OwP.any {k : Key} : ∀ {R : List Addr} {xs : List (Key × V)} {ds : List (Key × D)}, OwP Z F H R xs ds → (xs.any fun kv => decide (kv.1 = k)) = (ds.any fun kv => decide (kv.1 = k))
  | _, _, _, .nil => rfl
  | _, _, _, .cons h r n => by rw [List.any_cons, List.any_cons, OwP.any r]
theorem OwP.length {κ : Type} : ∀ {R : List Addr} {xs : List (κ × V)} {ds : List (κ × D)}, OwP Z F H R xs ds → xs.length = ds.length
  | _, _, _, .nil => rfl
  | _, _, _, .cons h r n => congrArg Nat.succ r.length
theorem OwA.length : ∀ {R : List Addr} {xs : List V} {ds : List D}, OwA Z F H R xs ds → xs.length = ds.length
  | _, _, _, .nil => rfl
  | _, _, _, .cons h r n => congrArg Nat.succ r.length
/-! ### a part in focus -/
/-- the part at b says t, and may be put anew -/
structure Foc (Z : Wd) (F H : Hp) (R : List Addr) (w : V) (b : Addr) (t : D) (Rt : List Addr) (put : D → D) : Prop where
  here : OwT Z F H Rt (.ref b) (.ob t)
  sub : ∀ x ∈ Rt, x ∈ R
  back : ∀ H' t' Rt', OwT Z F H' Rt' (.ref b) (.ob t') → KpB R Rt H H' → (∀ x ∈ Rt', x ∈ Rt ∨ x ∉ R) → ∃ R', OwT Z F H' R' w (.ob (put t')) ∧ ∀ x ∈ R', x ∈ R ∨ x ∈ Rt'
theorem Foc.top {R : List Addr} {d : D} (h : OwT Z F H R w (.ob d)) : ∃ b, w = .ref b ∧ Foc Z F H R w b d R id := by
  obtain ⟨b, rfl⟩ := h.refOf
  exact ⟨b, rfl, h, fun x m => m, fun H' t' Rt' h' _ _ => ⟨Rt', h', fun x m => .inr m⟩⟩
/-- the object in focus is changed: a new whole -/
theorem Foc.write {R Rt Q : List Addr} {b : Addr} {t t' : D} {o : HO} {put : D → D} (h : Foc Z F H R w b t Rt put) (bm : b ∈ Rt) (nb : ∀ u, H b = some u → NT u) (t1 : OwT Z F (upd H b o) Q (.ref b) (.ob t')) (s : ∀ x ∈ Q, x ∈ Rt ∨ x ∉ R) :
    ∃ R', OwT Z F (upd H b o) R' w (.ob (put t')) ∧ ∀ x ∈ R', x ∈ R ∨ x ∈ Q := h.back _ _ _ t1 (fun x u hx m => by
  have z : x ≠ b := by
    rintro rfl
    rcases m with m | m
    · exact m.2 bm
    · exact m (nb u hx)
  rw [upd_ne z]; exact hx) s
/-! ### slots -/
end
end S3

/-! Y2: deep trees: the terms (leaves, places in a tree, changes there) and their readings. -/
namespace S3
open PySem PySem.Spec L2
/-! ### terms -/
/-- all that is owned is lent to be read; deep trees are seen as frozen ones -/
def Sl.view : Sl → Sl
  | .ow d => .bo d
  | .mu d => .bo d
  | .dp _ d => .fz d.sbT
  | s => s
def view (e : Env) : Env := e.map Sl.view
def leafD : D → Bool
  | .non => true | .bl _ => true | .int _ => true | .str _ => true | _ => false
/-- only read; what comes out is no object -/
def eLeaf (f : EV) : EV := fun e => match f (view e) with
  | .ok r e1 => (match rd r e1 with
    | some d => if leafD d then .ok (.fz d) e else .no
    | none => .no)
  | _ => .no
/-- a place in a deep tree: the slot, what stands there, how it is put anew -/
inductive RP where
  | ok (i : Nat) (t : D) (put : D → D) | no
abbrev PV := Env → RP
def notOb : D → Bool
  | .ob _ => false | _ => true
section
variable {Z : Wd} {F F' H H' : Hp} {N : En} {σ : L2.St} {e e' : Env} {v w x y : V} {W : WX} {E : Ends}
/-! ### seen as frozen -/
theorem get_view {e : Env} {i : Nat} {s : Sl} (h : (view e)[i]? = some s) : ∃ t, e[i]? = some t ∧ s = t.view := by
  unfold view at h
  rw [List.getElem?_map, Option.map_eq_some_iff] at h
  obtain ⟨t, h1, h2⟩ := h
  exact ⟨t, h1, h2.symm⟩
/-- the frozen part with places of the heap, and all tuples -/
noncomputable def pubP (F H : Hp) (P : Addr → Prop) : Hp := fun b => match F b with
  | some o => some o
  | none => open Classical in if P b then H b else (match H b with
    | some (.tup xs) => some (.tup xs)
    | _ => none)
theorem pubP_f {P : Addr → Prop} : Same F (pubP F H P) := fun b o h => by unfold pubP; rw [h]
theorem pubP_le {P : Addr → Prop} (l : Same F H) : Same (pubP F H P) H := fun b o h => by
  unfold pubP at h
  cases q : F b with
  | some u => rw [q] at h; cases h; exact l _ _ q
  | none =>
    rw [q] at h
    dsimp only at h
    split at h
    · exact h
    · split at h
      · rename_i xs q2; rw [q2, ← h]
      · cases h
theorem pubP_in {P : Addr → Prop} (l : Same F H) {b : Addr} {o : HO} (m : P b) (h : H b = some o) : pubP F H P b = some o := by
  unfold pubP
  cases q : F b with
  | some u => rw [← h]; exact (l _ _ q).symm
  | none => dsimp only; rw [if_pos m]; exact h
theorem pubP_tup {P : Addr → Prop} (l : Same F H) {b : Addr} {xs : List V} (h : H b = some (.tup xs)) : pubP F H P b = some (.tup xs) := by
  unfold pubP
  cases q : F b with
  | some u => rw [← h]; exact (l _ _ q).symm
  | none =>
    dsimp only
    by_cases m : P b
    · rw [if_pos m]; exact h
    · rw [if_neg m, h]
theorem pubP_out {P : Addr → Prop} {b : Addr} (m : ¬ P b) (f : F b = none) (nt : ∀ o, H b = some o → NT o) : pubP F H P b = none := by
  unfold pubP
  rw [f]
  dsimp only
  rw [if_neg m]
  split
  · rename_i xs h; exact (nt _ h xs rfl).elim
  · rfl
theorem SOk.view (S : SOk Z N F H σ e) : ∃ F', Same F F' ∧ SOk Z ⟨F', H, [], fun _ => none, fun _ => []⟩ F' H σ (view e) := by
  refine ⟨pubP F H fun b => ∃ (i : Nat) (g : Bool) (d : D), e[i]? = some (Sl.dp g d) ∧ Live Z F H ((σ[i]?).join) (Sl.dp g d) b, pubP_f, ?_⟩
  generalize hP : (fun b => ∃ (i : Nat) (g : Bool) (d : D), e[i]? = some (Sl.dp g d) ∧ Live Z F H ((σ[i]?).join) (Sl.dp g d) b) = P
  have hPi : ∀ (b : Addr) (i : Nat) (g : Bool) (d : D), e[i]? = some (Sl.dp g d) → Live Z F H ((σ[i]?).join) (Sl.dp g d) b → P b := fun b i g d h1 h2 => by rw [← hP]; exact ⟨i, g, d, h1, h2⟩
  have out : ∀ (i : Nat) (s : Sl) (b : Addr), e[i]? = some s → (∀ g d, s ≠ .dp g d) → Live Z F H ((σ[i]?).join) s b → pubP F H P b = none := fun i s b hi ns l => by
    obtain ⟨f, u, hu, nt⟩ := S.liveN hi l
    refine pubP_out (fun z => ?_) f fun o ho => by rw [hu] at ho; cases ho; exact nt
    rw [← hP] at z
    obtain ⟨j, g, d, h1, h2⟩ := z
    have ne : j ≠ i := by rintro rfl; rw [h1] at hi; cases hi; exact ns g d rfl
    exact S.sep j i _ s b h1 hi ne rfl h2 l
  refine ⟨pubP_le S.le, Same.refl _, fun _ _ h _ => h, fun _ _ _ _ h => h, by unfold S3.view; rw [List.length_map]; exact S.len, fun i s h => ?_, fun i j s t a h1 h2 ne o l1 l2 => ?_, fun a m => absurd m (by simp), fun i d h => ?_, fun i d a r h k => (by cases k), fun i j d a h m l => (by cases m), fun j a m => (by cases m)⟩
  · obtain ⟨t, h1, rfl⟩ := get_view h
    obtain ⟨o, g1, g2⟩ := S.slot i t h1
    refine ⟨o, g1, ?_⟩
    have out := out i t
    rw [g1] at out
    cases t with
    | no => trivial
    | fz d => obtain ⟨v, e, r⟩ := g2; exact ⟨v, e, r.mono pubP_f⟩
    | ow d => obtain ⟨a, rfl, f, n, t⟩ := g2; exact ⟨_, rfl, .inr ⟨a, rfl, out a h1 (fun _ _ z => by cases z) rfl, t.there, by simp, t.keep pubP_f fun _ q => q⟩⟩
    | mu d => obtain ⟨a, rfl, f, n, t⟩ := g2; exact ⟨_, rfl, .inr ⟨a, rfl, out a h1 (fun _ _ z => by cases z) rfl, t.there, by simp, t.keep pubP_f fun _ q => q⟩⟩
    | bo d =>
      obtain ⟨v, rfl, r⟩ := g2
      by_cases rr : Rp Z F v d
      · exact ⟨v, rfl, .inl (rr.mono pubP_f)⟩
      · rcases r with r | ⟨a, rfl, f, n, m, t⟩
        · exact (rr r).elim
        · exact ⟨_, rfl, .inr ⟨a, rfl, out a h1 (fun _ _ z => by cases z) ⟨rfl, rr⟩, t.there, by simp, t.keep pubP_f fun _ q => q⟩⟩
    | dp g d =>
      obtain ⟨v, R, rfl, t, y⟩ := g2
      exact ⟨v, rfl, t.rp pubP_f (fun _ _ => pubP_tup S.le) fun b m _ => pubP_in S.le (hPi b i g d h1 (by rw [g1]; exact ⟨v, R, rfl, t, m⟩))⟩
  · obtain ⟨s', _, rfl⟩ := get_view h1
    cases s' <;> cases o
  · obtain ⟨t, _, q⟩ := get_view h
    cases t <;> cases q
/-! ### places -/
/-- the slot i holds a deep tree, in which t stands at b -/
def FocS (Z : Wd) (F H : Hp) (σ : L2.St) (e : Env) (i : Nat) (b : Addr) (t : D) (put : D → D) : Prop :=
  ∃ g d w R Rt, e[i]? = some (.dp g d) ∧ σ[i]? = some (some w) ∧ OwT Z F H R w (.ob d) ∧ Foc Z F H R w b t Rt put
theorem Foc.grow {R Rt : List Addr} {b : Addr} {t : D} {put : D → D} (h : Foc Z F H R w b t Rt put) (k : Same H H') : Foc Z F H' R w b t Rt put :=
  ⟨h.here.kept (kp_same k), h.sub, fun H2 t' Rt' h' kp s => h.back H2 t' Rt' h' (fun b o hb m => kp b o (k _ _ hb) m) s⟩
theorem FocS.grow {i : Nat} {b : Addr} {t : D} {put : D → D} (h : FocS Z F H σ e i b t put) (k : Same H H') : FocS Z F H' σ e i b t put := by
  obtain ⟨g, d, w, R, Rt, h1, h2, h3, h4⟩ := h
  exact ⟨g, d, w, R, Rt, h1, h2, h3.kept (kp_same k), h4.grow k⟩
def PostP (Z : Wd) (N : En) (F H : Hp) (σ : L2.St) (e : Env) (Q : VK) : RP → Prop
  | .no => False
  | .ok i t put => ∀ b H', Same H H' → SOk Z N F H' σ e → FocS Z F H' σ e i b t put → Q (.ref b) H'
def tPv (Z : Wd) (p : PV) : TE := fun σ H Q => ∃ N F e, SOk Z N F H σ e ∧ PostP Z N F H σ e Q (p e)
/-! ### children -/
/-- what becomes a child: new, nobody's -/
def ChOk (Z : Wd) (N : En) (F H : Hp) (σ : L2.St) (e : Env) (v : V) (c : D) (Q : List Addr) : Prop :=
  OwT Z F H Q v c ∧ ∀ b ∈ Q, N.H b = none ∧ ∀ (j : Nat) (s : Sl), e[j]? = some s → ¬ Live Z F H ((σ[j]?).join) s b
theorem ChOk.grow {c : D} {Q : List Addr} (S : SOk Z N F H σ e) (h : ChOk Z N F H σ e v c Q) (k : Same H H') : ChOk Z N F H' σ e v c Q :=
  ⟨h.1.kept (kp_same k), fun b m => ⟨(h.2 b m).1, fun j s hj l => (h.2 b m).2 j s hj (S.unlive hj l (Same.refl _) (fun _ _ z => z) fun _ _ _ _ _ _ _ => kp_same k)⟩⟩
/-! ### changes -/
end
end S3

/-! Y3: deep trees: dict comprehensions of new objects; the rules. -/
namespace S3
open PySem PySem.Spec L2 STK
section
variable {Z : Wd} {F F' H H' : Hp} {N : En} {σ : L2.St} {e e' : Env} {v x y : V} {W : WX} {E : Ends}
end
/-- the text says the place p -/
abbrev Pv (ca : Str → Option Addr) (X : Cx) (e : Expr) (p : PV) : Prop := PE X e (tPv (zw ca X) p)
section
variable {ca : Str → Option Addr} {W : WX} {X : Cx} {fe fv fa fk : EV} {ft : TV} {pv : PV} {w : WV} {c : TV} {a b o k elt vx tg iter : Expr} {ifs : List Expr} {scope : Scope} {own : List (Str × Nat)} {pos p p2 apos : Pos} {g : TG} {t : Tg} {cs : List Str} {f : Str}
end
end S3

/-! Y4: own instances called; made with a default; {k: v, ..}; xs.pop(0); what no law reaches. -/
namespace L2
open PySem PySem.Spec PyProof.Rows
section
variable {X : Cx} {CX : CXT} {k : Nat} {f C : Addr} {fd : FuncData} {ps : List Str} {sp : Sp} {E : St → XK} {x : Str} {p pos : Pos} {e o : Expr} {es : List Expr} {ta : TE} {t : TA} {ds : List Value} {dvs : List V}
open PySem.W PySem.Calls in
end
end L2

namespace S3
open PySem PySem.Spec L2
section
variable {Z : Wd} {F F' H H' : Hp} {N : En} {σ : L2.St} {e e' : Env} {v x y : V} {W : WX} {E : Ends}
def unp : List V → List (V × V)
  | a :: b :: r => (a, b) :: unp r
  | _ => []
end
section
variable {ca : Str → Option Addr} {W : WX} {X : Cx} {a : Expr} {es : List Expr} {fo : EV} {ga : AV} {pos p apos : Pos} {c n x : Str} {k : Nat} {ms : List Md} {phi : List D → RC} {d0 : D}
end
end S3

/-! Y5: d.get(k). -/
namespace S3
open PySem PySem.Spec L2
section
variable {Z : Wd} {F F' H H' : Hp} {N : En} {σ : L2.St} {e e' : Env} {v x y : V} {W : WX} {E : Ends}
end
section
variable {ca : Str → Option Addr} {W : WX} {X : Cx} {a b : Expr} {fa fb : EV} {pos apos : Pos}
end
end S3

/-! Y6: a local set to a dict comprehension -/
namespace L2
open PySem PySem.Spec
section
variable {X : Cx}
end
end L2
namespace S3
open PySem PySem.Spec L2
section
variable {ca : Str → Option Addr} {W : WX} {X : Cx} {fe fv : EV} {w : WV} {c : TV} {elt vx tg iter : Expr} {ifs : List Expr} {scope : Scope} {own : List (Str × Nat)} {pos : Pos} {g : TG} {t : Tg}
end
/-! list(a dict) -/
section
open PyProof.Rows
variable {X : Cx}
variable {Z : Wd}
end
/-! x, y = ([], []) -/
section
variable {Z : Wd} {N : En} {W : WX} {E : Ends} {F H : Hp} {σ : L2.St} {e : Env}
end
section
variable {ca : Str → Option Addr} {W : WX} {X : Cx} {pos px py pt pt2 q1 q2 : Pos} {x y : Str} {kt k2 : _}
end
end S3

/-! Y7: xs.remove(x), x a text; C(kw=e). -/
namespace L2
open PySem PySem.Spec PyProof.Rows
section
variable {X : Cx}
end
end L2

namespace S3
open PySem PySem.Spec L2
section
variable {Z : Wd} {F F' H H' : Hp}
end
section
variable {ca : Str → Option Addr} {W : WX} {X : Cx} {a : Expr} {es : List Expr} {fc : EV} {ga : AV} {pos p apos : Pos} {c n x kw : Str} {k : Nat} {phi : List D → RC}
end
section
variable {Z : Wd} {F H : Hp} {N : En} {σ : L2.St} {e : Env} {W : WX}
end
section
variable {ca : Str → Option Addr} {W : WX} {X : Cx} {fe : EV} {w : WV} {c : TV} {a elt tg iter : Expr} {ifs : List Expr} {scope : Scope} {own : List (Str × Nat)} {pos p : Pos} {g : TG} {t : Tg}
end
end S3

/-! Y8: list(o), o of a class of one's own whose __iter__ hands out an iterator over a list. -/
namespace L2
open PySem PySem.Spec PyProof.Rows PySem.Calls
/-! ### one turn of an iterator over a list -/
section
variable {prog : Program} {w : World} {A : Around} {E : Value → Shared → Prop} {s : Shared} {it l : Addr} {i : Nat} {items : Array Value}
end
end L2
namespace L2
open PySem PySem.Spec PyProof.Rows PySem.Calls
theorem SqL.lay {K : PySem.W.Frag} {H : Hp} {l a : Addr} {o : HO} {xs : List V} (h : SqL K H l xs) (n : H a = none) : SqL K (upd H a o) l xs := by
  rcases h with (h | ⟨u, h⟩) | h
  · exact .inl (.inl (by rw [upd_ne (ne_of_none h n)]; exact h))
  · exact .inl (.inr ⟨u, by rw [upd_ne (ne_of_none h n)]; exact h⟩)
  · exact .inr h
section
variable {X : Cx} {pins : List (Addr × Obj)} {σ : St} {H : Hp} {s s' : Shared} {l it q : Addr} {ys : List V} {A1 : Around}
variable {C C2 fi a : Addr} {f g : Str} {fdI : FuncData} {psI : List Str} {n : Nat} {xs : List V}
end
end L2
namespace S3
open PySem PySem.Spec L2
section
variable {Z : Wd} {c c2 f g : Str} {C C2 : Addr}
end
section
variable {ca : Str → Option Addr} {W : WX} {X : Cx} {a : Expr} {fa : EV} {pos p : Pos} {c c2 f g : Str} {k : Nat} {phi : List D → RC}
end
end S3
/-! o[x], o of a class of one's own -/
namespace L2
open PySem PySem.Spec PyProof.Rows PySem.Calls
section
variable {X : Cx} {C f : Addr} {fd : FuncData} {ps : List Str} {sp : Sp} {n : Nat} {a b : Expr} {ta tb : TE} {pos : Pos}
end
end L2
namespace S3
open PySem PySem.Spec L2
section
variable {Z : Wd} {c : Str} {C : Addr} {phi : List D → RC} {md : Md}
end
section
variable {ca : Str → Option Addr} {W : WX} {X : Cx} {a b : Expr} {fa fb : EV} {pos : Pos} {c : Str} {k : Nat} {phi : List D → RC} {md : Md}
end
end S3
/-! x in o, o of a class of one's own -/
namespace L2
open PySem PySem.Spec PyProof.Rows PySem.Calls
section
variable {X : Cx} {C f : Addr} {fd : FuncData} {ps : List Str} {sp : Sp} {n : Nat}
end
end L2
namespace S3
open PySem PySem.Spec L2
section
variable {Z : Wd} {c : Str} {C : Addr} {phi : List D → RC}
end
section
variable {ca : Str → Option Addr} {W : WX} {X : Cx} {a b : Expr} {fa fb : EV} {pos : Pos} {c : Str} {k : Nat} {phi : List D → RC}
end
end S3

/-! Y9: == of dicts of ints whose keys are tuples. -/
namespace S3T
open PySem PySem.Spec PyProof.Rows L2
section
variable {prog : Program} {w : World} {K : Type} [DecidableEq K] {knd : HeapKind prog w K} {A : Around} {E : Value → Shared → Prop} {s : Shared}
end
end S3T
namespace L2
open PySem PySem.Spec PyProof.Rows S3T
section
variable {X : Cx}
end
end L2
namespace S3
open PySem PySem.Spec L2
section
variable {Z : Wd} {F H : Hp}
end
end S3

/-! Y10: try with several clauses, each with a name or without one, and else. -/
namespace S3
open PySem PySem.Spec PyProof.Rows L2
abbrev ClT := Value × Option Nat × (Addr → Value → Option Addr → TS)
abbrev SuT (X : Cx) (ss : List Stmt) (ts : Addr → Value → Option Addr → TS) : Prop := ∀ (a : Addr) (oe : Obj) (cls : Value) (d : Option Addr) (pn : List (Addr × Obj)), L2N.Zn cls d oe → (∃ vs, oe.data = .fields vs) → PSs (X.suite a ((a, oe) :: pn)) ss (ts a cls d)
inductive MixOk (X : Cx) : List ExceptHandler → List ClT → Prop
  | nil : MixOk X [] []
  | bare {x : Str} {c : Value} {ts : Addr → Value → Option Addr → TS} {b0 : Stmt} {ss : List Stmt} {np pq : Pos} {hds : List ExceptHandler} {l : List ClT} : Names X x c → SuT X (b0 :: ss) ts → MixOk X hds l → MixOk X (.ExceptHandler (some (.Name x np)) none (b0 :: ss) pq :: hds) ((c, none, ts) :: l)
  | named {x n : Str} {i : Nat} {c : Value} {ts : Addr → Value → Option Addr → TS} {b0 : Stmt} {ss : List Stmt} {np pq : Pos} {hds : List ExceptHandler} {l : List ClT} : X.N[i]? = some n → X.env.kindOf n = some .local → Names X x c → SuT X (b0 :: ss) ts → MixOk X hds l →
      MixOk X (.ExceptHandler (some (.Name x np)) (some n) (b0 :: ss) pq :: hds) ((c, some i, ts) :: l)
section
variable {X : Cx} {body : List Stmt} {h0 : ExceptHandler} {hds : List ExceptHandler} {l : List ClT} {pos : Pos} {tb : WX → TS} {U : WX}
end
/-! ### the words -/
/-- a clause: its class, its name's slot, its suite -/
abbrev ClS := (Str → Bool) × Option Nat × SV
section
variable {ca : Str → Option Addr} {W : WX} {X : Cx} {body : List Stmt} {b o : SV} {pos : Pos}
abbrev SuB (ca : Str → Option Addr) (X : Cx) (ss : List Stmt) (h : SV) : Prop := ∀ (a : Addr) (oe : Obj) (cls : Value) (d : Option Addr) (pn : List (Addr × Obj)), L2N.Zn cls d oe → (∃ vs, oe.data = .fields vs) → Bv ca (fun _ _ _ _ => False) (X.suite a ((a, oe) :: pn)) ss h
abbrev SuN (ca : Str → Option Addr) (X : Cx) (ss : List Stmt) (h : SV) : Prop := ∀ (a : Addr) (oe : Obj) (cls : Value) (d : Option Addr) (pn : List (Addr × Obj)), L2N.Zn cls d oe → (∃ vs, oe.data = .fields vs) → Bv (caX ca a cls d) (fun _ _ _ _ => False) (X.suite a ((a, oe) :: pn)) ss h
inductive MixV (ca : Str → Option Addr) (X : Cx) : List ExceptHandler → List ClS → List ClT → Prop
  | nil : MixV ca X [] [] []
  | bare {x : Str} {c : Value} {sub : Str → Bool} {h : SV} {b0 : Stmt} {ss : List Stmt} {np pq : Pos} {hds : List ExceptHandler} {hs : List ClS} {l : List ClT} : Names X x c → (∀ m C, ca m = some C → xnm m = true → PySem.W.exmOne X.K (.ref C) c = some (sub m)) → SuB ca X (b0 :: ss) h → MixV ca X hds hs l →
      MixV ca X (.ExceptHandler (some (.Name x np)) none (b0 :: ss) pq :: hds) ((sub, none, h) :: hs) ((c, none, fun _ _ _ => tSv (zw ca X) (fun _ _ _ _ => False) h) :: l)
  | named {x n : Str} {i : Nat} {c : Value} {sub : Str → Bool} {h : SV} {b0 : Stmt} {ss : List Stmt} {np pq : Pos} {hds : List ExceptHandler} {hs : List ClS} {l : List ClT} : X.N[i]? = some n → X.env.kindOf n = some .local → Names X x c → (∀ m C, ca m = some C → xnm m = true → PySem.W.exmOne X.K (.ref C) c = some (sub m)) → SuN ca X (b0 :: ss) h → MixV ca X hds hs l →
      MixV ca X (.ExceptHandler (some (.Name x np)) (some n) (b0 :: ss) pq :: hds) ((sub, some i, h) :: hs) ((c, some i, fun a cls d => tSv (zw (caX ca a cls d) X) (fun _ _ _ _ => False) h) :: l)
theorem MixV.ok {hds : List ExceptHandler} {hs : List ClS} {l : List ClT} (h : MixV ca X hds hs l) : MixOk X hds l := by
  induction h with
  | nil => exact .nil
  | bare h1 h2 h3 _ ih => exact .bare h1 h3 ih
  | named h0 h00 h1 h2 h3 _ ih => exact .named h0 h00 h1 h3 ih
/-! clauses by what is known of their classes -/
end
end S3

/-! Y11: a class as a value: cls(..); C.m(..), m a classmethod. -/
namespace L2
open PySem PySem.Spec PyProof.Rows
section
variable {X : Cx} {CX : CXT} {k : Nat} {f C q : Addr} {fd : FuncData} {ps : List Str} {sp : Sp} {E : St → XK} {x n m : Str} {p pos apos np : Pos} {e : Expr} {es : List Expr} {ta : TE} {t : TA} {mc : Value} {pr : Addr}
end
end L2
namespace S3
open PySem PySem.Spec L2
section
variable {Z : Wd} {F H : Hp} {ms : List Md} {vs : List V} {ds : List D} {Q : VK} {E : XK}
end
section
variable {ca : Str → Option Addr} {W : WX} {X : Cx} {a : Expr} {es : List Expr} {fo : EV} {ga : AV} {pos p apos np : Pos} {c n m x : Str} {k : Nat} {ms : List Md} {phi : List D → RC}
end
end S3

/-! Y12: a list of one's own is lent to be read while a statement runs (a walk over it), and is one's own again behind it. -/
namespace S3
open PySem PySem.Spec L2
section
variable {Z : Wd} {F F' H H' : Hp} {N : En} {σ : L2.St} {e : Env} {i : Nat} {b : Addr} {c : HO}
end
section
variable {ca : Str → Option Addr} {W : WX} {X : Cx}
end
/-! a list of one's own handed on to another name (the old name is read no more) -/
section
variable {Z : Wd} {W : WX} {i : Nat} {σ : L2.St} {H : Hp}
end
section
variable {ca : Str → Option Addr} {W : WX} {X : Cx}
end
end S3

/-! Y13: C.m(), m a staticmethod without parameters. -/
namespace L2
open PySem PySem.Spec PyProof.Rows
end L2
namespace S3
open PySem PySem.Spec L2
section
variable {ca : Str → Option Addr} {W : WX} {X : Cx} {pos apos np : Pos} {n m : Str} {k : Nat} {phi : List D → RC}
open PySem.Spec PyProof.Rows in
end
end S3

/-! Y14: deep trees further: a region held while other things are reckoned; displays of new objects; places by an index; x.append on a new list. -/
namespace S3
open PySem PySem.Spec L2
section
variable {Z : Wd} {F F' H H' : Hp} {N : En} {σ : L2.St} {e e' : Env} {v w x y : V} {W : WX} {E : Ends}
/-! ### a region held -/
/-! ### displays of new objects -/
/-! ### places by an index -/
end
section
variable {ca : Str → Option Addr} {W : WX} {X : Cx} {fa fk : EV} {pv : PV} {a o k : Expr} {es : List Expr} {pos p apos : Pos} {fs : List EV}
end
end S3

/-! Y15: deep trees: flat tuples read out of them; a part handed to a def that changes it, a part called. -/
namespace L2
open PySem PySem.Spec PyProof.Rows
section
variable {X : Cx} {CX : CXT} {k : Nat} {f C : Addr} {fd : FuncData} {ps : List Str} {sp : Sp} {E : St → XK} {pos p : Pos} {e fe : Expr} {es : List Expr} {ta : TE} {t : TA}
end
end L2
namespace S3
open PySem PySem.Spec L2
def notObs (ds : List D) : Bool := ds.all notOb
/-- a part whose own parts are frozen -/
def noOb : D → Bool
  | .lst ds => notObs ds
  | .dk ds => ds.all fun p => notOb p.2
  | .obj _ ds => ds.all fun p => notOb p.2
  | _ => false
section
variable {Z : Wd} {F F' H H' : Hp} {N : En} {σ : L2.St} {e e' : Env} {v w x y : V} {W : WX} {E : Ends}
/-! ### a part lent to be changed -/
theorem OwA.rpOf : ∀ {R : List Addr} {vs : List V} {ds : List D}, OwA Z F H R vs ds → ds.all notOb = true → R = [] ∧ RpA Z F vs ds
  | _, _, _, .nil, _ => ⟨rfl, .nil⟩
  | _, _, _, .cons (d := d) h r n, k => by
    rw [List.all_cons, Bool.and_eq_true] at k
    obtain ⟨h1, h2⟩ := h.rpOf fun t z => by rw [z] at k; cases k.1
    obtain ⟨h3, h4⟩ := OwA.rpOf r k.2
    subst h1 h3
    exact ⟨rfl, .cons h2 h4⟩
theorem OwP.rpOf : ∀ {κ : Type} {R : List Addr} {vs : List (κ × V)} {ds : List (κ × D)}, OwP Z F H R vs ds → (ds.all fun p => notOb p.2) = true → R = [] ∧ RpP Z F vs ds
  | _, _, _, _, .nil, _ => ⟨rfl, .nil⟩
  | _, _, _, _, .cons (d := d) h r n, k => by
    rw [List.all_cons, Bool.and_eq_true] at k
    obtain ⟨h1, h2⟩ := h.rpOf fun t z => by have := k.1; dsimp only at this; rw [z] at this; cases this
    obtain ⟨h3, h4⟩ := OwP.rpOf r k.2
    subst h1 h3
    exact ⟨rfl, .cons h2 h4⟩
theorem OwT.top {R : List Addr} {b : Addr} {t : D} (h : OwT Z F H R (.ref b) (.ob t)) (k : noOb t = true) : R = [b] ∧ F b = none ∧ Top Z F H b t := by
  cases h with
  | fz r => exact (no_ob r).elim
  | lst f h n r =>
    obtain ⟨rfl, r9⟩ := r.rpOf k
    exact ⟨rfl, f, _, h, r9⟩
  | tup h r => cases k
  | dk f h q n r =>
    obtain ⟨rfl, r9⟩ := r.rpOf k
    exact ⟨rfl, f, q, _, h, r9⟩
  | obj f c h n r =>
    obtain ⟨rfl, r9⟩ := r.rpOf k
    exact ⟨rfl, f, _, _, _, c, h, r9⟩
end
section
variable {ca : Str → Option Addr} {W : WX} {X : Cx} {fa fk : EV} {a o k : Expr} {es : List Expr} {pos p p2 pos' : Pos} {n c x : Str} {kk : Nat} {m : Md} {phi : List D → RC}
end
end S3

/-! Y16: C(x[0], x[1], ..) of parts; f().append(a) on a new list. -/
namespace S3
open PySem PySem.Spec L2
/-- the parts x[k], .. of the list at slot i -/
def parts (i : Nat) : List EV → Env → Option (List D)
  | [], _ => some []
  | k :: ks, e => match slot e i with
    | .dp _ (.lst xs) => (match eLeaf k e with
      | .ok (.fz (.int j)) _ => if 0 ≤ j then (match xs[j.toNat]? with
        | some (.ob t) => if noOb t then (parts i ks e).map (t :: ·) else none
        | _ => none) else none
      | _ => none)
    | _ => none
section
variable {Z : Wd} {F F' H H' : Hp} {N : En} {σ : L2.St} {e e' : Env} {v w x y : V} {W : WX} {E : Ends}
theorem RdV.grow {d : D} (h : RdV Z F H v d) (k : Same H H') : RdV Z F H' v d := h.imp id fun ⟨a, e1, f, t⟩ => ⟨a, e1, f, t.keep (Same.refl _) (k _)⟩
theorem ArgsOk.grow {ms : List Md} {vs : List V} {ds : List D} (h : ArgsOk Z F H ms vs ds) (k : Same H H') : ArgsOk Z F H' ms vs ds := by
  induction h with
  | nil => exact .nil
  | v r _ ih => exact .v r ih
  | r r _ ih => exact .r (r.grow k) ih
  | m f t _ ih => exact .m f (t.keep (Same.refl _) (k _)) ih
/-! ### C(parts) -/
abbrev tIxV (Z : Wd) (i : Nat) (k : EV) : TE := fun σ H Q => tVar i σ H fun x H1 => tEv Z W0 k σ H1 fun y H2 => rIxA Z.K x y H2 Q
def tPts (Z : Wd) (i : Nat) : List EV → TA
  | [] => tNil
  | k :: ks => tCons (tIxV Z i k) (tPts Z i ks)
/-! ### f().append(g) -/
end
section
variable {ca : Str → Option Addr} {W : WX} {X : Cx} {fa fk fo : EV} {a o k : Expr} {es : List Expr} {pos p p2 apos px : Pos} {n c x : Str} {kk : Nat} {phi : List D → RC} {i : Nat}
/-- the texts x[k], .. -/
structure Pts (ca : Str → Option Addr) (X : Cx) (i : Nat) (es : List Expr) (ks : List EV) : Prop where
  ok : PA X es (tPts (zw ca X) i ks)
theorem pts_nil : Pts ca X i [] [] := ⟨pa_nil⟩
end
end S3

/-! Y17: a part taken out of a deep list (nothing is known of what is left there); x.append(new object). -/
namespace S3
open PySem PySem.Spec L2
section
variable {Z : Wd} {F F' H H' : Hp} {N : En} {σ : L2.St} {e e' : Env} {v w x y : V} {W : WX} {E : Ends}
theorem OwA.takeI : ∀ {R : List Addr} {xs : List V} {ds : List D} {j : Nat} {t : D}, OwA Z F H R xs ds → ds[j]? = some (.ob t) → ∃ b R2 R', xs[j]? = some (.ref b) ∧ OwT Z F H R2 (.ref b) (.ob t) ∧ OwA Z F H R' xs (ds.set j .any) ∧
    (∀ x ∈ R2, x ∈ R ∧ x ∉ R') ∧ ∀ x ∈ R', x ∈ R
  | _, _, _, j, _, .nil, q => by simp at q
  | _, _, _, 0, _, .cons (R := R1) (Q := Q1) h r n, q => by
    simp only [List.getElem?_cons_zero, Option.some.injEq] at q
    subst q
    obtain ⟨b2, rfl⟩ := h.refOf
    exact ⟨b2, R1, [] ++ Q1, rfl, h, .cons (.fz .any) r (fun b m => by cases m), fun x m => ⟨List.mem_append_left _ m, fun z => n x m z⟩, fun x m => List.mem_append_right _ m⟩
  | _, _, _, j + 1, _, .cons (R := R1) (Q := Q1) h r n, q => by
    rw [List.getElem?_cons_succ] at q
    obtain ⟨b2, R2, R', h1, h2, h3, h4, h5⟩ := OwA.takeI r q
    refine ⟨b2, R2, R1 ++ R', by rw [List.getElem?_cons_succ]; exact h1, h2, ?_, fun x m => ⟨List.mem_append_right _ (h4 x m).1, fun z => ?_⟩, fun x m => ?_⟩
    · rw [List.set_cons_succ]
      exact .cons h h3 fun b m z => n b m (h5 b z)
    · rcases List.mem_append.mp z with z | z
      · exact n x z (h4 x m).1
      · exact (h4 x m).2 z
    · rcases List.mem_append.mp m with m | m
      · exact List.mem_append_left _ m
      · exact List.mem_append_right _ (h5 x m)
theorem setSt_same {σ : L2.St} {i : Nat} {o : Option V} (h : σ[i]? = some o) : σ.set i o = σ := by
  apply List.ext_getElem?
  intro j
  by_cases q : i = j
  · subst q
    rw [List.getElem?_set_self (List.getElem?_eq_some_iff.mp h).1, h]
  · rw [List.getElem?_set_ne q]
theorem SOk.take {i j : Nat} {xs : List D} {t : D} (S : SOk Z N F H σ e) (hi : e[i]? = some (.dp true (.lst xs))) (hj : xs[j]? = some (.ob t)) :
    ∃ a vs b, σ[i]? = some (some (.ref a)) ∧ H a = some (.lst vs) ∧ vs[j]? = some (.ref b) ∧ SOk Z N F H σ (e.set i (.dp true (.lst (xs.set j .any)))) ∧
      RvOk Z N F H σ (e.set i (.dp true (.lst (xs.set j .any)))) (.ref b) (.dn t) := by
  obtain ⟨o, h1, v0, R, rfl, t0, n0⟩ := S.slot i _ hi
  have t00 := t0
  cases t0 with
  | fz r => exact (no_ob r).elim
  | @lst a0 Rk vs _ fa ha nb r =>
    obtain ⟨b, R2, R', m1, m2, m3, m4, m5⟩ := r.takeI hj
    have nH : ∀ x ∈ a0 :: Rk, N.H x = none := fun x m => by
      rcases n0 x m with z | ⟨z, _⟩
      · exact z
      · cases z
    have tn : OwT Z F H (a0 :: R') (.ref a0) (.ob (.lst (xs.set j .any))) := .lst fa ha (fun z => nb (m5 a0 z)) m3
    have lv : ∀ x ∈ a0 :: Rk, Live Z F H ((σ[i]?).join) (.dp true (.lst xs)) x := fun x m => by rw [h1]; exact ⟨_, _, rfl, t00, m⟩
    have sub : ∀ x ∈ a0 :: R', x ∈ a0 :: Rk := fun x m => by
      rcases List.mem_cons.mp m with rfl | m
      · exact List.mem_cons_self
      · exact List.mem_cons_of_mem _ (m5 x m)
    have oth : ∀ x ∈ a0 :: Rk, ∀ (j : Nat) (s : Sl), i ≠ j → e[j]? = some s → ¬ Live Z F H ((σ[j]?).join) s x := fun x m j s ne hj l => S.sep i j _ s x hi hj ne rfl (lv x m) l
    have S1 := (S.forget i).setDp (i := i) (g := true) tn (fun x m => .inl (nH x (sub x m))) fun x m j s hj l => by
      rcases get_set hj with ⟨q, rfl, _⟩ | ⟨q, hj'⟩
      · exact l
      · exact oth x (sub x m) j s q hj' l
    rw [setSt_same h1, List.set_set] at S1
    refine ⟨a0, vs, b, h1, ha, m1, S1, R2, m2, fun x m => nH x (List.mem_cons_of_mem _ (m4 x m).1), fun x m j s hj l => ?_⟩
    rcases get_set hj with ⟨q, rfl, _⟩ | ⟨q, hj'⟩
    · subst q
      rw [h1] at l
      obtain ⟨v', Q, e1, t2, m'⟩ := l
      cases e1
      rw [t2.uniq tn] at m'
      rcases List.mem_cons.mp m' with rfl | m'
      · exact nb (m4 _ m).1
      · exact (m4 x m).2 m'
    · exact oth x (List.mem_cons_of_mem _ (m4 x m).1) j s q hj' l
end
section
variable {ca : Str → Option Addr} {W : WX} {X : Cx} {fa fk fo : EV} {a o k : Expr} {es : List Expr} {pos p p2 apos px : Pos} {n c x : Str} {kk : Nat} {phi : List D → RC} {i : Nat}
end
end S3

/-! Y18: for x in o, o of a class of one's own whose __iter__ hands out an iterator over a list; o[x] that raises. -/
namespace L2
open PySem PySem.Spec PyProof.Rows PySem.Calls
/-! ### what is gone stays gone -/
/-! ### an object is no longer looked after -/
section
variable {X : Cx} {pins : List (Addr × Obj)} {σ : St} {H : Hp} {s : Shared} {it l : Addr} {u : HO}
/-! ### for x in o -/
variable {C C2 fi : Addr} {f g : Str} {fdI : FuncData} {psI : List Str} {n : Nat} {tg iter : Expr} {te : TE}
end
end L2
/-! o[x] that may raise -/
namespace L2
open PySem PySem.Spec PyProof.Rows PySem.Calls
section
variable {X : Cx} {C f : Addr} {fd : FuncData} {ps : List Str} {sp : Sp} {n : Nat} {a b : Expr} {ta tb : TE} {pos : Pos} {E : St → XK}
end
end L2
namespace S3
open PySem PySem.Spec L2
section
variable {Z : Wd} {W : WX} {σ : L2.St} {H : Hp} {c c2 f g : Str} {C C2 : Addr}
end
section
variable {ca : Str → Option Addr} {W : WX} {X : Cx} {a b tg : Expr} {fa fb : EV} {pos : Pos} {c c2 f g : Str} {k : Nat} {phi : List D → RC} {md : Md}
end
end S3

/-! Y19: list comprehensions of new objects. -/
namespace S3
open PySem PySem.Spec L2 STK
section
variable {Z : Wd} {F F' H H' : Hp} {N : En} {σ : L2.St} {e e' : Env} {v x y : V} {W : WX} {E : Ends}
end
section
variable {ca : Str → Option Addr} {W : WX} {X : Cx} {fe : EV} {w : WV} {c : TV} {elt tg iter : Expr} {ifs : List Expr} {scope : Scope} {own : List (Str × Nat)} {pos : Pos} {g : TG} {t : Tg}
end
end S3

/-! ### a part taken out of a place -/
namespace S3
open PySem PySem.Spec L2
section
variable {Z : Wd} {F F' H H' : Hp} {N : En} {σ : L2.St} {e e' : Env} {v w x y : V} {W : WX} {E : Ends}
theorem era_kp {R2 R : List Addr} (th : ∀ b ∈ R2, ∃ o, H b = some o ∧ NT o) (dj : ∀ b ∈ R, b ∉ R2) : Kp R H (fun a => if a ∈ R2 then none else H a) := fun b o hb m => by
  have nb : b ∉ R2 := fun z => by
    rcases m with m | m
    · exact dj b m z
    · obtain ⟨o', h1, h2⟩ := th b z
      rw [hb] at h1; cases h1; exact m h2
  show (if b ∈ R2 then none else H b) = some o
  rw [if_neg nb]; exact hb
/-- the list or the tuple in focus loses a part -/
theorem Foc.take {R Rt : List Addr} {l : Addr} {ps : List D} {j : Nat} {t : D} {put : D → D} {mk : List D → D} (hm : mk = D.lst ∨ mk = D.tup) (h : Foc Z F H R w l (mk ps) Rt put) (q : ps[j]? = some (.ob t)) :
    ∃ vs b R2 R', ((mk = D.lst ∧ H l = some (.lst vs)) ∨ (mk = D.tup ∧ H l = some (.tup vs))) ∧ vs[j]? = some (.ref b) ∧ OwT Z F H R2 (.ref b) (.ob t) ∧ OwT Z F H R' w (.ob (put (mk (ps.set j .any)))) ∧ (∀ x ∈ R2, x ∈ R ∧ x ∉ R') ∧ ∀ x ∈ R', x ∈ R := by
  obtain ⟨h1, h2, h3⟩ := h
  have fin : ∀ {R2 R0 : List Addr}, (∀ b ∈ R2, ∃ o, H b = some o ∧ NT o) → (∀ b ∈ R2, b ∈ Rt) → (∀ b ∈ R0, b ∈ Rt) → OwT Z F (fun a => if a ∈ R2 then none else H a) R0 (.ref l) (.ob (mk (ps.set j .any))) →
      ∃ R', OwT Z F H R' w (.ob (put (mk (ps.set j .any)))) ∧ (∀ x ∈ R2, x ∈ R ∧ x ∉ R') ∧ ∀ x ∈ R', x ∈ R := fun {R2 R0} th s2 s0 t1 => by
    obtain ⟨R', p, s'⟩ := h3 _ _ R0 t1 (fun b o hb m => by
      have nb : b ∉ R2 := fun z => by
        rcases m with m | m
        · exact m.2 (s2 b z)
        · obtain ⟨o', g1, g2⟩ := th b z
          rw [hb] at g1; cases g1; exact m g2
      show (if b ∈ R2 then none else H b) = some o
      rw [if_neg nb]; exact hb) fun x m => .inl (s0 x m)
    have out : ∀ x ∈ R', x ∉ R2 := fun x m z => by
      obtain ⟨_, o, ho, _⟩ := p.there x m
      have ho : (if x ∈ R2 then none else H x) = some o := ho
      rw [if_pos z] at ho; cases ho
    refine ⟨R', p.mono (Same.refl _) (fun b m => (p.there b m).1) fun b o hb _ => ?_, fun x m => ⟨h2 x (s2 x m), fun z => out x z m⟩, fun x m => (s' x m).elim id fun z => h2 x (s0 x z)⟩
    have hb : (if b ∈ R2 then none else H b) = some o := hb
    split at hb
    · cases hb
    · exact hb
  rcases hm with rfl | rfl
  · cases h1 with
    | fz r => exact (no_ob r).elim
    | @lst _ Rk vs _ fl hl nl r =>
      obtain ⟨b, R2, R0, m1, m2, m3, m4, m5⟩ := r.takeI q
      have th : ∀ b ∈ R2, ∃ o, H b = some o ∧ NT o := fun b m => (m2.there b m).2
      have nl2 : l ∉ R2 := fun z => nl (m4 l z).1
      obtain ⟨R', p, s1, s2⟩ := fin th (fun b m => List.mem_cons_of_mem _ (m4 b m).1) (fun b m => by
        rcases List.mem_cons.mp m with rfl | m
        · exact List.mem_cons_self
        · exact List.mem_cons_of_mem _ (m5 b m)) (R0 := l :: R0) (.lst fl (by show (if l ∈ R2 then none else H l) = _; rw [if_neg nl2]; exact hl) (fun z => nl (m5 l z)) (m3.kept (era_kp th fun b m z => (m4 b z).2 m)))
      exact ⟨vs, b, R2, R', .inl ⟨rfl, hl⟩, m1, m2, p, s1, s2⟩
  · cases h1 with
    | fz r => exact (no_ob r).elim
    | @tup _ _ vs _ hl r =>
      obtain ⟨b, R2, R0, m1, m2, m3, m4, m5⟩ := r.takeI q
      have th : ∀ b ∈ R2, ∃ o, H b = some o ∧ NT o := fun b m => (m2.there b m).2
      have nl2 : l ∉ R2 := fun z => by
        obtain ⟨o, g1, g2⟩ := th l z
        rw [hl] at g1; cases g1; exact nt_tup g2
      obtain ⟨R', p, s1, s2⟩ := fin th (fun b m => (m4 b m).1) m5 (R0 := R0) (.tup (by show (if l ∈ R2 then none else H l) = _; rw [if_neg nl2]; exact hl) (m3.kept (era_kp th fun b m z => (m4 b z).2 m)))
      exact ⟨vs, b, R2, R', .inr ⟨rfl, hl⟩, m1, m2, p, s1, s2⟩
end
section
variable {ca : Str → Option Addr} {W : WX} {X : Cx} {fk : EV} {pv : PV} {o k : Expr} {pos p p2 : Pos}
end
end S3

/-! Y20: a def whose first parameter is a deep tree that is given away. -/
namespace S3
open PySem PySem.Spec L2
/-- the other arguments: a slot, a value reckoned while all is lent -/
inductive AL where
  | sl (j : Nat) | ev (f : EV)
abbrev GV := Env → Option (D × Env)
section
variable {Z : Wd} {F F' H H' : Hp} {N : En} {σ : L2.St} {e e' : Env} {v w x y : V} {W : WX} {E : Ends}
def PostCD (Z : Wd) (F H : Hp) (R : List Addr) (Q : VK) (E : XK) : RC → Prop
  | .ok n d _ => ∀ v F' H', CGr F H R F' H' → (∀ b ∈ R, F' b = none ∧ ∃ u, H' b = some u ∧ NT u) → ResOk Z H F' H' n v d → Q v H'
  | .ex x _ => ∀ cls dd F' H', CGr F H R F' H' → (∀ b ∈ R, F' b = none ∧ ∃ u, H' b = some u ∧ NT u) → ExOk Z F' H' x cls dd → E cls dd H'
  | _ => False
/-- the promise of a def whose first parameter is given away -/
def spD (Z : Wd) (ms : List Md) (phi : List D → RC) : Sp := fun vs H Q E => ∃ F x vs' d ds R, vs = x :: vs' ∧ noMut ms = true ∧ Same F H ∧ OwT Z F H R x (.ob d) ∧ ArgsOk Z F H ms vs' ds ∧
  (∀ b ∈ R, ∀ (j : Nat) (m : Md) (d' : D), ms[j]? = some m → ds[j]? = some d' → ¬ Live Z F H (vs'[j]?) (pSl m d') b) ∧ PostCD Z F H R Q E (phi (.ob d :: ds))
/-! ### the body -/
end
end S3
/-! ### what is given away is changed -/
namespace S3
open PySem PySem.Spec L2
section
variable {Z : Wd} {F F' H H' : Hp} {N : En} {σ : L2.St} {e e' : Env} {v w x y : V} {W : WX} {E : Ends}
/-! ### the arguments -/
end
end S3
/-! ### the call -/
namespace S3
open PySem PySem.Spec L2
section
variable {Z : Wd} {F F' H H' : Hp} {N : En} {σ : L2.St} {e e' : Env} {v w x y : V} {W : WX} {E : Ends}
end
section
variable {P : Program} {w : World} {K : PySem.W.Frag} {mg : Str → Option Value} {base : Heap}
open PySem.Spec PyProof.Rows in
/-- such a def, at the levels -/
structure FnTD (ca : Str → Option Addr) (P : Program) (w : World) (K : PySem.W.Frag) (mg : Str → Option Value) (base : Heap) (k : Nat) (n : Str) (ms : List Md) (phi : List D → RC) : Prop where
  ex : ∃ (f : Addr) (fd : FuncData) (ps : List Str), FnOk P w K mg base (L2N.CX P w) (2 * k) f fd ps (spD ⟨P, w, K, ca⟩ ms phi) ∧ mg n = some (.ref f) ∧ PySem.W.keepIn K (.ref f) = true ∧ Binds K fd ps []
theorem FnTD.zero {ca : Str → Option Addr} {n : Str} {f : Addr} {fd : FuncData} {ps : List Str} {ms : List Md} {g : String} {tab : String → Option Def} (hf : mg n = some (.ref f)) (hk : PySem.W.keepIn K (.ref f) = true) (hb : Binds K fd ps []) : FnTD ca P w K mg base 0 n ms (sem tab 0 g) :=
  ⟨f, fd, ps, ⟨fun vs H Q E ⟨_, _, _, _, _, _, _, _, _, _, _, _, z⟩ => z.elim, fun A outer s H args us vs Q E _ _ _ _ ⟨_, _, _, _, _, _, _, _, _, _, _, _, z⟩ => z.elim⟩, hf, hk, hb⟩
theorem FnTD.succ {ca : Str → Option Addr} {n : Str} {f : Addr} {fd : FuncData} {ps : List Str} {ms : List Md} {k : Nat} {g : String} {T : Def} {tab : String → Option Def} (h : FnOk P w K mg base (L2N.CX P w) (2 * (k + 1)) f fd ps (spD ⟨P, w, K, ca⟩ ms (T.run (sem tab k)))) (hf : mg n = some (.ref f)) (hk : PySem.W.keepIn K (.ref f) = true)
    (hb : Binds K fd ps []) (ht : tab g = some T) : FnTD ca P w K mg base (k + 1) n ms (sem tab (k + 1) g) := by
  refine ⟨f, fd, ps, ?_, hf, hk, hb⟩
  have e : sem tab (k + 1) g = T.run (sem tab k) := by funext ds; simp only [sem, ht]
  rw [e]
  exact h
end
section
variable {ca : Str → Option Addr} {W : WX} {X : Cx} {a o k : Expr} {fa fk : EV} {pv : PV} {g : GV} {al : List AL} {es : List Expr} {n : Str} {kk : Nat} {pos p p2 : Pos} {phi : List D → RC}
end
end S3

/-! Y21: a generator that sleeps is not woken by a run whose triple holds for a poisoned one. -/
namespace L2
open PySem PySem.Spec PyProof.Rows PySem.Calls
def NG (fs : List Frame) : Prop := splitAtGen fs = none
def GOk (I : Nat → Bool) (gs : Array GenState) : Prop := ∀ (i : Nat) (k : Resume → Sem PySem.Fin) (l : List Value) (c : Code) (p : Pos) (fs : List Frame) (cl : Bool), I i = false → gs[i]? = some (.suspended k l c p fs cl) → NG fs
def stuckR : Resume → Sem PySem.Fin := fun _ => .unsupported "poison"
theorem no_runs {M : Model} {Γ : PySem.Ctx} {p : Pos} {t : Sem PySem.Fin} {fs : List Frame} {s s' : Shared} {e : End} (h : Runs M Γ p t fs s e s') : ∀ what, t = .unsupported what → False := by
  induction h with
  | segRet _ _ i1 _ => exact fun w e => i1 w e
  | segGen _ _ i1 _ => exact fun w e => i1 w e
  | segSuspOut _ _ i1 => exact fun w e => i1 w e
  | segSuspGen _ _ _ _ i1 _ => exact fun w e => i1 w e
  | _ => intro w e; cases e
/-- the sleepers put back -/
def unp (I : Nat → Bool) (r : Nat → GenState) (s : Shared) : Shared := { s with gens := s.gens.mapIdx fun i y => if I i then r i else y }
def PZ (I : Nat → Bool) (r : Nat → GenState) (gs : Array GenState) : Prop := ∀ i, I i = true → ∃ l c p fs cl, gs[i]? = some (.suspended stuckR l c p fs cl) ∧ (r i).seen = (GenState.suspended stuckR l c p fs cl).seen
section
variable {I : Nat → Bool} {r : Nat → GenState} {y : GenState} {s : Shared}
theorem unp_off {i : Nat} (h : I i = false) : (unp I r s).gens[i]? = s.gens[i]? := by
  show (s.gens.mapIdx _)[i]? = _
  rw [Array.getElem?_mapIdx]
  simp [h]
theorem unp_at {i : Nat} (h : I i = true) (q : s.gens[i]? = some y) : (unp I r s).gens[i]? = some (r i) := by
  show (s.gens.mapIdx _)[i]? = _
  rw [Array.getElem?_mapIdx, q]
  simp [h]
theorem unp_size : (unp I r s).gens.size = s.gens.size := by
  show (s.gens.mapIdx _).size = _
  simp
theorem pz_lt (h : PZ I r s.gens) {i : Nat} (hi : I i = true) : i < s.gens.size := by
  obtain ⟨l, c, p, fs, cl, q, _⟩ := h i hi
  exact (Array.getElem?_eq_some_iff.mp q).1
theorem pz_off (h : PZ I r s.gens) : I s.gens.size = false := by
  cases q : I s.gens.size with
  | false => rfl
  | true => exact absurd (pz_lt h q) (Nat.lt_irrefl _)
theorem unp_push {z : GenState} (h : PZ I r s.gens) : unp I r { s with gens := s.gens.push z } = { unp I r s with gens := (unp I r s).gens.push z } := by
  show ({ s with gens := (s.gens.push z).mapIdx _ } : Shared) = { s with gens := (s.gens.mapIdx _).push z }
  congr 1
  rw [Array.mapIdx_push, pz_off h]
  rfl
theorem unp_set {i : Nat} {z : GenState} (h : I i = false) : unp I r (s.setGen i z) = (unp I r s).setGen i z := by
  show ({ s with gens := (s.gens.setIfInBounds i z).mapIdx _ } : Shared) = { s with gens := (s.gens.mapIdx _).setIfInBounds i z }
  congr 1
  apply Array.ext_getElem?
  intro j
  simp only [Array.getElem?_setIfInBounds, Array.getElem?_mapIdx, Array.size_mapIdx]
  by_cases c : i = j
  · subst c
    by_cases b : i < s.gens.size <;> simp [b, h]
  · rw [if_neg c, if_neg c]
theorem pz_set {i : Nat} {z : GenState} (h : I i = false) (p : PZ I r s.gens) : PZ I r (s.setGen i z).gens := fun j hj => by
  have ne : i ≠ j := fun e => by subst e; rw [h] at hj; cases hj
  obtain ⟨l, c, p1, fs, cl, q, w⟩ := p j hj
  refine ⟨l, c, p1, fs, cl, ?_, w⟩
  show (s.gens.setIfInBounds i z)[j]? = _
  rw [Array.getElem?_setIfInBounds_ne ne, q]
theorem pz_push {z : GenState} (p : PZ I r s.gens) : PZ I r (s.gens.push z) := fun j hj => by
  obtain ⟨l, c, p1, fs, cl, q, w⟩ := p j hj
  refine ⟨l, c, p1, fs, cl, ?_, w⟩
  rw [Array.getElem?_push, if_neg (Nat.ne_of_lt (pz_lt p hj)), q]
theorem ne_gs {i : Nat} {z : GenState} (p : PZ I r s.gens) (q : s.gens[i]? = some z) (h : ∀ l c p fs cl, z ≠ .suspended stuckR l c p fs cl) : I i = false := by
  cases e : I i with
  | false => rfl
  | true =>
    obtain ⟨l, c, p1, fs, cl, q', _⟩ := p i e
    rw [q] at q'
    cases q'
    exact absurd rfl (h _ _ _ _ _)
theorem gok_set {i : Nat} {z : GenState} (h : GOk I s.gens) (hz : ∀ k l c p fs cl, z = .suspended k l c p fs cl → NG fs) : GOk I (s.setGen i z).gens := by
  intro j k l c p fs cl o q
  have q : (s.gens.setIfInBounds i z)[j]? = some (.suspended k l c p fs cl) := q
  by_cases e : i = j
  · subst e
    by_cases b : i < s.gens.size
    · simp [b] at q
      exact hz _ _ _ _ _ _ q
    · simp [b] at q
  · rw [Array.getElem?_setIfInBounds_ne e] at q
    exact h j k l c p fs cl o q
theorem gok_push {z : GenState} (h : GOk I s.gens) (hz : ∀ k l c p fs cl, z = .suspended k l c p fs cl → NG fs) : GOk I (s.gens.push z) := by
  intro j k l c p fs cl o q
  rw [Array.getElem?_push] at q
  split at q
  · cases q; exact hz _ _ _ _ _ _ rfl
  · exact h j k l c p fs cl o q
def EOk : End → Prop
  | .ret _ => True
  | .susp _ _ _ _ _ _ fs => NG fs
theorem eok_gs {e : End} (h : EOk e) : ∀ k l c p fs cl, e.genState = .suspended k l c p fs cl → NG fs := by
  intro k l c p fs cl q
  cases e with
  | ret r => cases q
  | susp v g0 l0 k0 c0 p0 fs0 => cases q; exact h
theorem ng_app {F G : List Frame} (hF : NG F) (hG : NG G) : NG (F ++ G) := by
  induction F with
  | nil => exact hG
  | cons f F ih =>
    unfold NG at *
    cases f with
    | gen => cases hF
    | ret =>
      have hF : (splitAtGen F).map _ = none := hF
      rw [Option.map_eq_none_iff] at hF
      show (splitAtGen (F ++ G)).map _ = none
      rw [ih hF]
      rfl
theorem ng_tail {f : Frame} {F : List Frame} (h : NG (f :: F)) : NG F := by
  unfold NG at *
  cases f with
  | gen => cases h
  | ret =>
    have h : (splitAtGen F).map _ = none := h
    rwa [Option.map_eq_none_iff] at h
/-- THE POISON -/
theorem runs_psn {M : Model} {I : Nat → Bool} {r : Nat → GenState} {Γ : PySem.Ctx} {p : Pos} {t : Sem PySem.Fin} {fs : List Frame} {s s' : Shared} {e : End} (h : Runs M Γ p t fs s e s') :
    PZ I r s.gens → GOk I s.gens → NG fs → Runs M Γ p t fs (unp I r s) e (unp I r s') ∧ PZ I r s'.gens ∧ GOk I s'.gens ∧ EOk e := by
  induction h with
  | done => exact fun a b _ => ⟨.done, a, b, trivial⟩
  | raise => exact fun a b _ => ⟨.raise, a, b, trivial⟩
  | again q _ ih => exact fun a b n => let ⟨w, z⟩ := ih a b rfl; ⟨.again q w, z⟩
  | rule _ ih => exact fun a b n => let ⟨w, z⟩ := ih a b rfl; ⟨.rule w, z⟩
  | «at» _ ih => exact fun a b n => let ⟨w, z⟩ := ih a b rfl; ⟨.at w, z⟩
  | load q _ ih => exact fun a b n => let ⟨w, z⟩ := ih a b rfl; ⟨.load q w, z⟩
  | update q _ ih => exact fun a b n => let ⟨w, z⟩ := ih a b rfl; ⟨.update q w, z⟩
  | loadIfAlive _ ih => exact fun a b n => let ⟨w, z⟩ := ih a b rfl; ⟨.loadIfAlive w, z⟩
  | point _ ih => exact fun a b n => let ⟨w, z⟩ := ih a b rfl; ⟨.point w, z⟩
  | alloc _ ih => exact fun a b n => let ⟨w, z⟩ := ih a b rfl; ⟨.alloc w, z⟩
  | fresh _ ih => exact fun a b n => let ⟨w, z⟩ := ih a b rfl; ⟨.fresh w, z⟩
  | ask _ ih => exact fun a b n => let ⟨w, z⟩ := ih a b rfl; ⟨.ask w, z⟩
  | choose q _ ih => exact fun a b n => let ⟨w, z⟩ := ih a b rfl; ⟨.choose q w, z⟩
  | os _ ih => exact fun a b n => let ⟨w, z⟩ := ih a b rfl; ⟨.os w, z⟩
  | handled _ ih => exact fun a b n => let ⟨w, z⟩ := ih a b rfl; ⟨.handled w, z⟩
  | stack _ ih => exact fun a b n => let ⟨w, z⟩ := ih a b rfl; ⟨.stack w, z⟩
  | thread _ ih => exact fun a b n => let ⟨w, z⟩ := ih a b rfl; ⟨.thread w, z⟩
  | yield => exact fun a b _ => ⟨.yield, a, b, rfl⟩
  | genState q _ ih =>
    rename_i g' st Γ' p' k s1 e1 s2 _
    intro a b n
    obtain ⟨w, z⟩ := ih a b rfl
    cases c : I g' with
    | true =>
      obtain ⟨l, c1, p1, fs, cl, q', hx⟩ := a g' c
      rw [q] at q'
      cases q'
      rw [← hx] at w
      exact ⟨.genState (unp_at c q) w, z⟩
    | false => exact ⟨.genState (by rw [unp_off c]; exact q) w, z⟩
  | newGen _ ih =>
    intro a b n
    obtain ⟨w, z⟩ := ih (pz_push a) (gok_push b fun _ _ _ _ _ _ q => by cases q) rfl
    rw [unp_push a] at w
    refine ⟨.newGen ?_, z⟩
    rw [unp_size]
    exact w
  | call _ _ i1 i2 =>
    intro a b n
    obtain ⟨r1, a1, b1, _⟩ := i1 a b rfl
    obtain ⟨r2, z⟩ := i2 a1 b1 rfl
    exact ⟨.call r1 r2, z⟩
  | callSusp _ i1 =>
    intro a b n
    obtain ⟨r1, a1, b1, e1⟩ := i1 a b rfl
    exact ⟨.callSusp r1, a1, b1, ng_app e1 rfl⟩
  | resumeFresh q _ qt _ i1 i2 =>
    rename_i Γ p g' l k s c e₁ s₁ e s' _ _
    intro a b n
    have ne := ne_gs a q fun _ _ _ _ _ h => by cases h
    obtain ⟨r1, a1, b1, e1⟩ := i1 (pz_set ne a) (gok_set b fun _ _ _ _ _ _ h => by cases h) rfl
    obtain ⟨r2, z⟩ := i2 (pz_set ne a1) (gok_set b1 (eok_gs e1)) rfl
    rw [unp_set ne] at r1 r2
    exact ⟨.resumeFresh (by rw [unp_off ne]; exact q) r1 qt r2, z⟩
  | resumeSuspended q h1 qt _ i1 i2 =>
    rename_i Γ p g' r0 l k s k₀ l₀ c₀ p₀ fs cl e₁ s₁ e s' _
    intro a b n
    have ne : I g' = false := by
      cases c : I g' with
      | false => rfl
      | true =>
        obtain ⟨l, c1, p1, fs, cl, q', hx⟩ := a g' c
        rw [q] at q'
        cases q'
        exact (no_runs h1 _ rfl).elim
    obtain ⟨r1, a1, b1, e1⟩ := i1 (pz_set ne a) (gok_set b fun _ _ _ _ _ _ h => by cases h) (b _ _ _ _ _ _ _ ne q)
    obtain ⟨r2, z⟩ := i2 (pz_set ne a1) (gok_set b1 (eok_gs e1)) rfl
    rw [unp_set ne] at r1 r2
    exact ⟨.resumeSuspended (by rw [unp_off ne]; exact q) r1 qt r2, z⟩
  | resumeJustStarted q v _ ih =>
    intro a b n
    obtain ⟨w, z⟩ := ih a b rfl
    have q' := q
    rw [← unp_off (r := r) (ne_gs a q fun _ _ _ _ _ h => by cases h)] at q'
    exact ⟨.resumeJustStarted q' v w, z⟩
  | resumeThrowFresh q _ ih =>
    intro a b n
    have ne := ne_gs a q fun _ _ _ _ _ h => by cases h
    obtain ⟨w, z⟩ := ih (pz_set ne a) (gok_set b fun _ _ _ _ _ _ h => by cases h) rfl
    rw [unp_set ne] at w
    exact ⟨.resumeThrowFresh (by rw [unp_off ne]; exact q) w, z⟩
  | resumeRunning q _ ih =>
    intro a b n
    obtain ⟨w, z⟩ := ih a b rfl
    refine ⟨.resumeRunning ?_ w, z⟩
    rw [unp_off (ne_gs a q fun _ _ _ _ _ h => by cases h)]; exact q
  | resumeFinished q _ ih =>
    intro a b n
    obtain ⟨w, z⟩ := ih a b rfl
    refine ⟨.resumeFinished ?_ w, z⟩
    rw [unp_off (ne_gs a q fun _ _ _ _ _ h => by cases h)]; exact q
  | segRet _ _ i1 i2 =>
    intro a b n
    obtain ⟨r1, a1, b1, _⟩ := i1 a b rfl
    obtain ⟨r2, z⟩ := i2 a1 b1 (ng_tail n)
    exact ⟨.segRet r1 r2, z⟩
  | segGen _ _ _ _ => intro a b n; cases n
  | segSuspOut q _ i1 =>
    intro a b n
    obtain ⟨r1, a1, b1, e1⟩ := i1 a b rfl
    exact ⟨.segSuspOut q r1, a1, b1, ng_app e1 n⟩
  | segSuspGen q _ _ _ _ _ => intro a b n; unfold NG at n; rw [n] at q; cases q
def PsnPost {α β : Type} (I : Nat → Bool) (r : Nat → GenState) (Q : α → β → Shared → Prop) : α → β → Shared → Prop := fun a b s' => ∃ sp, s' = unp I r sp ∧ Q a b sp ∧ PZ I r sp.gens ∧ GOk I sp.gens
theorem wakes_psn {M : Model} {Γ : PySem.Ctx} {p : Pos} {i : Nat} {z : Resume} {s s' : Shared} {res : GenResult}
    (a : PZ I r s.gens) (b : GOk I s.gens) (h : Wakes M Γ p i z s res s') : Wakes M Γ p i z (unp I r s) res (unp I r s') ∧ PZ I r s'.gens ∧ GOk I s'.gens := by
  cases ne : I i with
  | true =>
    obtain ⟨l, c1, p1, fs, cl, q', hx⟩ := a i ne
    unfold Wakes at h
    rw [q'] at h
    obtain ⟨e1, s1, h1, _⟩ := h
    exact (no_runs h1 _ rfl).elim
  | false =>
    unfold Wakes at h ⊢
    rw [unp_off ne]
    cases q : s.gens[i]? with
    | none => rw [q] at h; exact h.elim
    | some st =>
      rw [q] at h
      cases st with
      | running => obtain ⟨rfl, rfl⟩ := h; exact ⟨⟨rfl, rfl⟩, a, b⟩
      | finished => obtain ⟨rfl, rfl⟩ := h; exact ⟨⟨rfl, rfl⟩, a, b⟩
      | fresh c =>
        cases z with
        | throw z =>
          obtain ⟨rfl, rfl⟩ := h
          exact ⟨⟨rfl, unp_set ne⟩, pz_set ne a, gok_set b fun _ _ _ _ _ _ h => by cases h⟩
        | send v =>
          cases v
          case none =>
            obtain ⟨e1, s1, h1, h2, rfl, rfl⟩ := h
            obtain ⟨r1, a1, b1, k1⟩ := runs_psn h1 (pz_set ne a) (gok_set b fun _ _ _ _ _ _ h => by cases h) rfl
            rw [unp_set ne] at r1
            exact ⟨⟨e1, _, r1, h2, rfl, unp_set ne⟩, pz_set ne a1, gok_set b1 (eok_gs k1)⟩
          all_goals (obtain ⟨rfl, rfl⟩ := h; exact ⟨⟨rfl, rfl⟩, a, b⟩)
      | suspended k l c p1 fs cl =>
        obtain ⟨e1, s1, h1, h2, rfl, rfl⟩ := h
        obtain ⟨r1, a1, b1, k1⟩ := runs_psn h1 (pz_set ne a) (gok_set b fun _ _ _ _ _ _ h => by cases h) (b _ _ _ _ _ _ _ ne q)
        rw [unp_set ne] at r1
        exact ⟨⟨e1, _, r1, h2, rfl, unp_set ne⟩, pz_set ne a1, gok_set b1 (eok_gs k1)⟩
theorem wp_psn {α : Type} {M : Model} {Γ : PySem.Ctx} {Q : α → Pos → Shared → Prop} {E : Value → Pos → Shared → Prop} : ∀ (t : Sem α) (p : Pos) (s : Shared),
    PZ I r s.gens → GOk I s.gens → Sem.wp M Γ t Q E p s → Sem.wp M Γ t (PsnPost I r Q) (PsnPost I r E) p (unp I r s) := by
  intro t
  induction t with
  | pure a => intro p s ha hb h; rw [Sem.wp] at h ⊢; exact ⟨s, rfl, h, ha, hb⟩
  | raise e => intro p s ha hb h; rw [Sem.wp] at h ⊢; exact ⟨s, rfl, h, ha, hb⟩
  | rule _ k ih => intro p s ha hb h; rw [Sem.wp] at h ⊢; exact ih _ _ _ ha hb h
  | «at» _ k ih => intro p s ha hb h; rw [Sem.wp] at h ⊢; exact ih _ _ _ ha hb h
  | load a _ k ih => intro p s ha hb h; rw [Sem.wp] at h ⊢; obtain ⟨o, h1, h2⟩ := h; exact ⟨o, h1, ih _ _ _ ha hb h2⟩
  | update a _ f k ih => intro p s ha hb h; rw [Sem.wp] at h ⊢; exact ⟨h.1, ih _ _ { s with heap := s.heap.update a f } ha hb h.2⟩
  | loadIfAlive a k ih => intro p s ha hb h; rw [Sem.wp] at h ⊢; exact ih _ _ _ ha hb h
  | point _ k ih => intro p s ha hb h; rw [Sem.wp] at h ⊢; exact ih _ _ _ ha hb h
  | alloc o k ih => intro p s ha hb h; rw [Sem.wp] at h ⊢; exact ih _ _ { s with heap := s.heap.push o } ha hb h
  | fresh k ih => intro p s ha hb h; rw [Sem.wp] at h ⊢; exact ih _ _ { s with toks := s.toks + 1 } ha hb h
  | ask k ih => intro p s ha hb h; rw [Sem.wp] at h ⊢; exact ih _ _ _ ha hb h
  | choose src n k ih => intro p s ha hb h; rw [Sem.wp] at h ⊢; exact ⟨h.1, ih _ _ { s with drawn := s.drawn.bump src } ha hb h.2⟩
  | os q _ k ih => intro p s ha hb h; rw [Sem.wp] at h ⊢; exact ih _ _ { s with os := (Os.step s.os q).1 } ha hb h
  | handled own k ih => intro p s ha hb h; rw [Sem.wp] at h ⊢; exact ih _ _ _ ha hb h
  | stack k ih => intro p s ha hb h; rw [Sem.wp] at h ⊢; exact ih _ _ _ ha hb h
  | thread k ih => intro p s ha hb h; rw [Sem.wp] at h ⊢; exact ih _ _ _ ha hb h
  | newGen c k ih =>
    intro p s ha hb h
    rw [Sem.wp] at h ⊢
    have := ih _ _ { s with gens := s.gens.push (.fresh c) } (pz_push ha) (gok_push hb fun _ _ _ _ _ _ q => by cases q) h
    rw [unp_push ha] at this
    rw [unp_size]
    exact this
  | genState i k ih =>
    intro p s ha hb h
    rw [Sem.wp] at h ⊢
    obtain ⟨st, h1, h2⟩ := h
    cases ne : I i with
    | true =>
      obtain ⟨l, c1, p1, fs, cl, q', hx⟩ := ha i ne
      rw [h1] at q'
      cases q'
      exact ⟨r i, unp_at ne h1, by rw [hx]; exact ih _ _ _ ha hb h2⟩
    | false => exact ⟨st, by rw [unp_off ne]; exact h1, ih _ _ _ ha hb h2⟩
  | call c hh _ _ k ih =>
    intro p s ha hb h
    rw [Sem.wp] at h ⊢
    obtain ⟨w, s1, h1, h2⟩ := h
    obtain ⟨r1, a1, b1, _⟩ := runs_psn h1 ha hb rfl
    exact ⟨w, _, r1, ih _ _ _ a1 b1 h2⟩
  | resume i w _ k ih =>
    intro p s ha hb h
    rw [Sem.wp] at h ⊢
    obtain ⟨res, s1, h1, h2⟩ := h
    obtain ⟨r1, a1, b1⟩ := wakes_psn ha hb h1
    exact ⟨res, _, r1, ih _ _ _ a1 b1 h2⟩
  | _ => intro p s ha hb h; rw [Sem.wp] at h; exact h.elim
/-- a triple that holds for poisoned sleepers holds for the sleepers, and they go on sleeping -/
theorem any_psn {α : Type} {M : Model} {A : Around} {t : Sem α} {Q : α → Shared → Prop} {E : Value → Shared → Prop}
    (ha : PZ I r s.gens) (hb : GOk I s.gens) (h : wpAny M A t Q E s) :
    wpAny M A t (fun a s' => ∃ sp, s' = unp I r sp ∧ Q a sp ∧ PZ I r sp.gens ∧ GOk I sp.gens) (fun e s' => ∃ sp, s' = unp I r sp ∧ E e sp ∧ PZ I r sp.gens ∧ GOk I sp.gens) (unp I r s) := fun Γ p hΓ =>
  Sem.wp_mono M Γ t (fun _ _ _ ⟨sp, e, q, w, z⟩ => ⟨sp, e, q, w, z⟩) (fun _ _ _ ⟨sp, e, q, w, z⟩ => ⟨sp, e, q, w, z⟩) p _ (wp_psn t p s ha hb (h Γ p hΓ))
end
end L2

/-! Y22: the library's triples and the sleepers. -/
namespace L2
open PySem PySem.Spec PyProof.Rows PySem.Calls
def isSus : GenState → Bool
  | .suspended .. => true
  | _ => false
def psn : GenState → GenState
  | .suspended _ l c p fs cl => .suspended stuckR l c p fs cl
  | x => x
theorem psn_bare (x : GenState) : (psn x).bare = x.bare := by cases x <;> rfl
theorem unp_bare {I : Nat → Bool} {r : Nat → GenState} {s : Shared} (hr : ∀ i, I i = true → (r i).bare = true) (h : AllBare s.gens) : AllBare (unp I r s).gens := fun y hy => by
  obtain ⟨i, hi, e⟩ := Array.mem_iff_getElem.mp hy
  have e : (unp I r s).gens[i]? = some y := by rw [Array.getElem?_eq_getElem hi, e]
  have hi2 : i < s.gens.size := by rw [unp_size] at hi; exact hi
  have q : s.gens[i]? = some s.gens[i] := Array.getElem?_eq_getElem hi2
  cases c : I i with
  | true => rw [unp_at c q] at e; cases e; exact hr i c
  | false => rw [unp_off c, q] at e; cases e; exact h _ (Array.mem_of_getElem? q)
/-- asleep all the while; not fewer generators -/
def Kp (a b : Array GenState) : Prop := a.size ≤ b.size ∧ ∀ (i : Nat) (x : GenState), a[i]? = some x → isSus x = true → b[i]? = some x
theorem Kp.refl {a : Array GenState} : Kp a a := ⟨Nat.le_refl _, fun _ _ h _ => h⟩
theorem Kp.trans {a b c : Array GenState} (h : Kp a b) (k : Kp b c) : Kp a c := ⟨Nat.le_trans h.1 k.1, fun i x q z => k.2 i x (h.2 i x q z) z⟩
/-- an exception at another table -/
def XU (E : Value → Shared → Prop) : Prop := ∀ (I : Nat → Bool) (r : Nat → GenState) (e : Value) (sp : Shared), PZ I r sp.gens → GOk I sp.gens → (∀ i, I i = true → (r i).bare = true) → E e sp → E e (unp I r sp)
/-- the poison of all sleepers of a table -/
theorem psn_of {s : Shared} (hb : AllBare s.gens) : ∃ (I : Nat → Bool) (r : Nat → GenState), PZ I r (s.gens.map psn) ∧ GOk I (s.gens.map psn) ∧ unp I r { s with gens := s.gens.map psn } = s ∧ AllBare (s.gens.map psn) ∧ (∀ i, I i = true → (r i).bare = true) ∧
    ∀ sp : Shared, PZ I r sp.gens → ∀ (i : Nat) (x : GenState), s.gens[i]? = some x → isSus x = true → (unp I r sp).gens[i]? = some x := by
  let I : Nat → Bool := fun i => match s.gens[i]? with | some x => isSus x | none => false
  let r : Nat → GenState := fun i => s.gens.getD i .finished
  have b2 : AllBare (s.gens.map psn) := fun y hy => by
    obtain ⟨x, hx, rfl⟩ := Array.mem_map.mp hy
    rw [psn_bare]; exact hb x hx
  have hI : ∀ i, I i = true → ∃ x, s.gens[i]? = some x ∧ isSus x = true ∧ r i = x := fun i hi => by
    have hi : (match s.gens[i]? with | some x => isSus x | none => false) = true := hi
    cases q : s.gens[i]? with
    | none => rw [q] at hi; cases hi
    | some x =>
      rw [q] at hi
      refine ⟨x, rfl, hi, ?_⟩
      show s.gens.getD i .finished = x
      simp [q]
  have hr : ∀ i, I i = true → (r i).bare = true := fun i hi => by
    obtain ⟨x, h1, _, h3⟩ := hI i hi
    rw [h3]; exact hb x (Array.mem_of_getElem? h1)
  have pz : PZ I r (s.gens.map psn) := fun i hi => by
    obtain ⟨x, h1, h2, h3⟩ := hI i hi
    rw [h3]
    cases x with
    | suspended k l c p fs cl => exact ⟨l, c, p, fs, cl, by rw [Array.getElem?_map, h1]; rfl, rfl⟩
    | _ => cases h2
  have gk : GOk I (s.gens.map psn) := fun i k l c p fs cl hi q => by
    rw [Array.getElem?_map] at q
    cases q1 : s.gens[i]? with
    | none => rw [q1] at q; cases q
    | some x =>
      rw [q1] at q
      have hi : (match s.gens[i]? with | some x => isSus x | none => false) = false := hi
      rw [q1] at hi
      cases x <;> first | (cases hi; done) | (cases q; done)
  have e : unp I r { s with gens := s.gens.map psn } = s := by
    show ({ s with gens := (s.gens.map psn).mapIdx fun i y => if I i then r i else y } : Shared) = s
    have : ((s.gens.map psn).mapIdx fun i y => if I i then r i else y) = s.gens := by
      apply Array.ext_getElem?
      intro j
      rw [Array.getElem?_mapIdx, Array.getElem?_map]
      cases q : s.gens[j]? with
      | none => rfl
      | some x =>
        show some (if I j = true then r j else psn x) = some x
        cases c : I j with
        | true =>
          obtain ⟨y, h1, _, h3⟩ := hI j c
          rw [q] at h1
          cases h1
          rw [if_pos rfl, h3]
        | false =>
          have c : (match s.gens[j]? with | some x => isSus x | none => false) = false := c
          rw [q] at c
          cases x <;> first | rfl | (cases c; done)
    rw [this]
  refine ⟨I, r, pz, gk, e, b2, hr, fun sp z i x h1 h2 => ?_⟩
  have hi : I i = true := by
    show (match s.gens[i]? with | some x => isSus x | none => false) = true
    rw [h1]; exact h2
  obtain ⟨y, g1, _, g3⟩ := hI i hi
  rw [h1] at g1
  cases g1
  obtain ⟨l, c, p, fs, cl, q, _⟩ := z i hi
  rw [unp_at hi q, g3]
/-- what holds for every table of generators leaves all sleepers asleep -/
theorem asleep {α : Type} {M : Model} {A : Around} {t : Sem α} {Q : α → Shared → Prop} {E : Value → Shared → Prop} {s : Shared} (hx : XU E) (hb : AllBare s.gens) (h : ∀ G, AllBare G → wpAny M A t Q E { s with gens := G }) :
    wpAny M A t (fun a s' => Kp s.gens s'.gens ∧ ∃ G, Q a { s' with gens := G } ∧ (AllBare G → AllBare s'.gens)) E s := by
  obtain ⟨I, r, pz, gk, e, b2, hr, fin⟩ := psn_of hb
  have w := any_psn (s := { s with gens := s.gens.map psn }) pz gk (h _ b2)
  rw [e] at w
  refine GenW.wpAny_gsz (Nat.le_refl _) (wpAny_mono w (fun a s' ⟨sp, e, q, z, _⟩ hsz => ?_) (fun a s' ⟨sp, e, q, z, y⟩ _ => ?_))
  · subst e; exact ⟨⟨hsz, fin sp z⟩, sp.gens, q, unp_bare hr⟩
  · subst e; exact hx I r a sp z y hr q
end L2

/-! Y23: generators that sleep between the turns of a loop: runs to the next stop, what a sleeper promises, next. -/
namespace L2
open PySem PySem.Spec PyProof.Rows PySem.Calls GenW
open Sem (wp)

/-! ### runs to the next stop -/
def Run1 (M : Model) (A : Around) (Φ : End → Shared → Prop) (c : Code) (t : Sem PySem.Fin) (fs : List Frame) (s : Shared) : Prop :=
  ∀ (Γ : PySem.Ctx) (p : Pos), Γ.code = c → Γ.Woken A → ∃ e s', Runs M Γ p t fs s e s' ∧ Φ e s'
section
variable {M : Model} {A : Around} {Φ : End → Shared → Prop} {c : Code} {fs : List Frame} {s : Shared}
end

/-- a generator is woken -/
def GRun (M : Model) (A : Around) (Φ : End → Shared → Prop) (gs : GenState) (s : Shared) : Prop := match gs with
  | .fresh c => Run1 M A Φ c (M.den c) [] s
  | .suspended k _ c _ fs _ => Run1 M A Φ c (k (.send .none)) fs s
  | _ => False
/-- what is handed out -/
def yields (e : End) (u : Value) : Prop := match e with
  | .susp v _ _ _ _ _ _ => v = u
  | .ret _ => False
/-! ### what a sleeper promises -/
/-- the world of a sleeper: n: the heap's size at the call that made it -/
structure GW where
  prog : Program
  w : World
  K : PySem.W.Frag
  mg : Str → Option Value
  base : Heap
  A : Around
  outer : List PySem.Env
  n : Nat
/-- its own objects as they stand, its own sleepers -/
structure Ft where
  P : List (Addr × Obj)
  G : List (Nat × GenState)
def Kg (g : Nat) (F : Ft) (a b : Array GenState) : Prop := ∀ (i : Nat) (x : GenState), a[i]? = some x → isSus x = true → i ≠ g → (∀ q ∈ F.G, q.1 ≠ i) → b[i]? = some x
/-- it may be woken -/
structure Wk (W : GW) (g : Nat) (F : Ft) (lst : Addr) (xs : List V) (H : Hp) (pins : List (Addr × Obj)) (s : Shared) : Prop where
  env : Env0 W.prog W.w W.K W.mg W.base W.A W.outer s H
  gsz : g < s.gens.size
  fsn : ∀ b ∈ frs W.outer, b < W.n
  mine : ∀ p ∈ F.P, s.heap.get? p.1 = some p.2 ∧ H p.1 = none ∧ p.1 ∉ frs W.outer ∧ (∀ v, p.2.data ≠ .cell v) ∧ (∀ q ∈ pins, q.1 ≠ p.1) ∧ W.base.get? p.1 = none
  pins : ∀ p ∈ pins, s.heap.get? p.1 = some p.2 ∧ H p.1 = none ∧ p.1 ∉ frs W.outer ∧ ∀ v, p.2.data ≠ .cell v
  gens : ∀ q ∈ F.G, s.gens[q.1]? = some q.2 ∧ isSus q.2 = true ∧ q.1 ≠ g
  given : Rd H lst (.lst xs)
/-- it has been awake -/
structure Turned (W : GW) (g : Nat) (F F' : Ft) (H H1 : Hp) (pins : List (Addr × Obj)) (s s1 : Shared) : Prop where
  os : s1.os = s.os
  bare : AllBare s1.gens
  gsz : s.gens.size ≤ s1.gens.size
  kg : Kg g F s.gens s1.gens
  gens : ∀ q ∈ F'.G, s1.gens[q.1]? = some q.2 ∧ isSus q.2 = true ∧ q.1 ≠ g ∧ ((∃ r ∈ F.G, r.1 = q.1) ∨ s.gens.size ≤ q.1)
  keep : ∀ b o, s.heap.get? b = some o → b < W.n → H b = none → b ∉ frs W.outer → (∀ p ∈ F.P, p.1 ≠ b) → s1.heap.get? b = some o
  slot : ∀ b o, s.heap.get? b = some o → b ∈ frs W.outer → ∃ sl, s1.heap.get? b = some { o with slots := sl }
  there : ∀ b o, s.heap.get? b = some o → b < W.n → (∀ p ∈ F.P, p.1 ≠ b) → ∃ o', s1.heap.get? b = some o'
  new : ∀ b o, s.heap.get? b = some o → b < W.n → H b = none → (∀ p ∈ F.P, p.1 ≠ b) → H1 b = none
  ext : ∀ b u, H b = some u → H1 b = some u
  pinK : ∀ p ∈ pins, s1.heap.get? p.1 = some p.2 ∧ H1 p.1 = none
  hok : HOk W.prog W.w H1 s1.heap
  mine : ∀ p ∈ F'.P, s1.heap.get? p.1 = some p.2 ∧ H1 p.1 = none ∧ (∀ v, p.2.data ≠ .cell v) ∧ (∀ q ∈ pins, q.1 ≠ p.1) ∧ ((∃ r ∈ F.P, r.1 = p.1) ∨ ∀ o, s.heap.get? p.1 = some o → W.n ≤ p.1)
/-- the generator's own object is its own -/
def GObj (W : GW) (a : Addr) (g : Nat) (F : Ft) : Prop := W.n ≤ a ∧ ∃ go, (a, go) ∈ F.P ∧ ∀ h : Heap, h.get? a = some go → h.IsGen a g
/-- THE PROMISE of a sleeper: it will hand out the lists L, new ones -/
def Pr (W : GW) (a : Addr) (g : Nat) (lst : Addr) (xs : List V) : List (List V) → GenState → Ft → Prop
  | [] => fun gs F => GObj W a g F ∧ ∀ s H pins, Wk W g F lst xs H pins s → GRun (model W.prog W.w) W.A (fun e s1 => e = .ret (.ok (.ret .none)) ∧ Turned W g F ⟨[], []⟩ H H pins s s1) gs (s.setGen g .running)
  | x :: L => fun gs F => GObj W a g F ∧ ∀ s H pins, Wk W g F lst xs H pins s → GRun (model W.prog W.w) W.A (fun e s1 => e.quiet = true ∧ ∃ v F', yields e (.ref v) ∧ H v = none ∧
      Turned W g F F' H (upd H v (.lst x)) pins s s1 ∧ Pr W a g lst xs L e.genState F') gs (s.setGen g .running)
theorem Pr.obj {W : GW} {a : Addr} {g : Nat} {lst : Addr} {xs : List V} {L : List (List V)} {gs : GenState} {F : Ft} (h : Pr W a g lst xs L gs F) : GObj W a g F := by cases L <;> exact h.1

/-- a consumer has the sleeper -/
structure Slp (X : Cx) (n : Nat) (g : Nat) (lst : Addr) (xs : List V) (F : Ft) (gs : GenState) (pins : List (Addr × Obj)) (H : Hp) (s : Shared) : Prop where
  n0 : X.s_0.heap.objs.size ≤ n
  nL : X.env.locals < n
  nC : ∀ x c, X.env.cells.lookup x = some c → c < n
  noex : X.ex = []
  now : s.gens[g]? = some gs
  gens : ∀ q ∈ F.G, s.gens[q.1]? = some q.2 ∧ isSus q.2 = true ∧ q.1 ≠ g
  mine : ∀ p ∈ F.P, s.heap.get? p.1 = some p.2 ∧ H p.1 = none ∧ p.1 ≠ X.env.locals ∧ p.1 ∉ X.fs ∧ (∀ v, p.2.data ≠ .cell v) ∧ (∀ x c, X.env.cells.lookup x = some c → c ≠ p.1) ∧ (∀ q ∈ X.pn ++ pins, q.1 ≠ p.1) ∧ X.s_0.heap.get? p.1 = none
  given : Rd H lst (.lst xs)
abbrev gwOf (X : Cx) (n : Nat) : GW := ⟨X.prog, X.w, X.K, X.mg, X.base, X.A.in1, X.stack, n⟩
section
variable {X : Cx} {pins : List (Addr × Obj)} {σ : St} {H H1 : Hp} {s s1 : Shared} {n g : Nat} {lst : Addr} {xs : List V} {F F' : Ft} {gs : GenState}
/-- behind what keeps sleepers asleep -/
theorem Slp.after {σ' : St} {H' : Hp} {s' : Shared} (S : Slp X n g lst xs F gs pins H s) (hg : isSus gs = true) (hG : ∀ q ∈ F.G, isSus q.2 = true) (I : Inv X (pins ++ F.P) σ' H' s') (k : Kp s.gens s'.gens) (hl : Rd H' lst (.lst xs)) : Slp X n g lst xs F gs pins H' s' :=
  ⟨S.n0, S.nL, S.nC, S.noex, k.2 _ _ S.now hg, fun q hq => ⟨k.2 _ _ (S.gens q hq).1 (hG q hq), (S.gens q hq).2⟩, fun p hp => by
    obtain ⟨h1, h2, h3, h4, h5⟩ := I.pin p (List.mem_append_right _ (List.mem_append_right _ hp))
    obtain ⟨_, _, _, _, _, k6, k7, k8⟩ := S.mine p hp
    exact ⟨h1, h2, h3, h4, h5, k6, k7, k8⟩, hl⟩
theorem Slp.pinned (S : Slp X n g lst xs F gs pins H s) (I : Inv X pins σ H s) : Inv X (pins ++ F.P) σ H s :=
  I.pins_of fun p hp => (List.mem_append.mp hp).elim (fun z => I.pin p (List.mem_append_right _ z)) fun z => by
    obtain ⟨h1, h2, h3, h4, h5, _⟩ := S.mine p z
    exact ⟨h1, h2, h3, h4, h5⟩
end

/-! ### for over a generator -/
end L2

/-! Y24: a generator's body: the context of a turn, the rules of runs. -/
namespace L2
open PySem PySem.Spec PyProof.Rows PySem.Calls GenW
open Sem (wp)

/-! ### rules of runs -/
section
variable {P : Program} {w : World} {A : Around} {Φ : End → Shared → Prop} {c : Code} {fs : List Frame} {s : Shared} {env : PySem.Env}
  {K : Flow → Sem PySem.Fin} {J : Value → Sem PySem.Fin} {gd : Bool → Bool} {lv : List Value → List Value}
def nevE : Value → Shared → Prop := fun _ _ => False
end

/-! ### the context of a turn -/
def trunc (n : Nat) (h : Heap) : Heap := ⟨h.objs.extract 0 n, h.life⟩
/-- the heap of the turn's beginning, up to n, without its own objects -/
def trunF (n : Nat) (h : Heap) (F : Ft) : Heap := PySem.W.hideAll (trunc n h) (F.P.map (·.1))
def gX (W : GW) (env : PySem.Env) (N : List Str) (F : Ft) (s : Shared) (H : Hp) (pins : List (Addr × Obj)) : Cx where
  prog := W.prog
  w := W.w
  K := W.K
  mg := W.mg
  base := W.base
  A := W.A.deeper env
  N := N
  s_0 := { s with heap := trunF W.n s.heap F }
  H_0 := H
  env := env
  outer := W.outer
  stack := env :: W.outer
  ex := []
  fn := fun _ => true
  calm := true
  pn := pins
  xe := nevE
section
variable {W : GW} {env : PySem.Env} {N : List Str} {s s1 : Shared} {H H0 H1 Hout : Hp} {pins ip : List (Addr × Obj)} {σ : St} {oL : Obj} {g : Nat} {F F' : Ft} {lst : Addr} {xs : List V}
/-! ### the heap that a turn sees -/
/-- the dicts of tuples are frozen, one's own lists are known again -/
def seeH (H : Hp) (h : Heap) (pv : List (Addr × List V)) : Hp := fun b => match pv.lookup b with
  | some ys => some (.lst ys)
  | none => (match H b with
    | some (.dT kvs) => (match h.get? b with | some o => some (.frz o (.dT kvs)) | none => none)
    | x => x)
theorem see_pv {h : Heap} {pv : List (Addr × List V)} {b : Addr} {ys : List V} (e : pv.lookup b = some ys) : seeH H h pv b = some (.lst ys) := by unfold seeH; rw [e]
theorem see_of {h : Heap} {pv : List (Addr × List V)} {b : Addr} {u : HO} (e : pv.lookup b = none) (n : H b = some u) (nd : ∀ kvs, u ≠ .dT kvs) : seeH H h pv b = some u := by
  unfold seeH; rw [e, n]
  cases u <;> first | rfl | exact (nd _ rfl).elim
theorem see_dT {h : Heap} {pv : List (Addr × List V)} {b : Addr} {kvs} {o : Obj} (e : pv.lookup b = none) (n : H b = some (.dT kvs)) (ho : h.get? b = some o) : seeH H h pv b = some (.frz o (.dT kvs)) := by
  unfold seeH; rw [e, n]; simp only [ho]
theorem dT_there {P : Program} {w : World} {H : Hp} {h : Heap} {a : Addr} {kvs} (x : ObjOk P w H h a (.dT kvs)) : ∃ o, h.get? a = some o := by
  obtain ⟨_, _, _, _, o, _, _, e, _⟩ := x; exact ⟨o, e⟩
end
end L2

/-! Y25: the recursive generator of the subsets of a size. -/
namespace L2
open PySem PySem.Spec PyProof.Rows PySem.Calls GenW
open Sem (wp)

/-! ### a state within a turn -/
section
variable {W : GW} {env : PySem.Env} {N : List Str} {F F' : Ft} {s s1 s2 : Shared} {H H1 H2 Hout : Hp} {pins ip : List (Addr × Obj)} {pv : List (Addr × List V)} {g : Nat} {σ σ2 : St} {lst : Addr} {xs : List V}
structure Tn (W : GW) (env : PySem.Env) (N : List Str) (F : Ft) (s : Shared) (H : Hp) (pins : List (Addr × Obj)) (pv : List (Addr × List V)) (g : Nat) (ip : List (Addr × Obj)) (σ : St) (H1 : Hp) (s1 : Shared) : Prop where
  I : Inv (gX W env N F s (seeH H s.heap pv) pins) ip σ H1 s1
  x : ∀ b u, seeH H s.heap pv b = some u → H1 b = some u
  kg : Kg g F s.gens s1.gens
  gsz : s.gens.size ≤ s1.gens.size
theorem Kg.kp {a b c : Array GenState} (h : Kg g F a b) (k : Kp b c) : Kg g F a c := fun i x h1 h2 h3 h4 => k.2 i x (h i x h1 h2 h3 h4) h2
theorem Tn.step (T : Tn W env N F s H pins pv g ip σ H1 s1) (k : Kp s1.gens s2.gens) {ip2 : List (Addr × Obj)} (I : Inv (gX W env N F s (seeH H s.heap pv) pins) ip2 σ2 H2 s2) (e : ∀ b u, H1 b = some u → H2 b = some u) : Tn W env N F s H pins pv g ip2 σ2 H2 s2 :=
  ⟨I, fun b u q => e b u (T.x b u q), T.kg.kp k, Nat.le_trans T.gsz k.1⟩
theorem see_inv {P : Program} {w : World} {h : Heap} (ok : HOk P w H h) {b : Addr} (e : seeH H h pv b = none) : pv.lookup b = none ∧ H b = none := by
  cases q : pv.lookup b with
  | some ys => rw [see_pv q] at e; cases e
  | none =>
    refine ⟨rfl, ?_⟩
    cases q2 : H b with
    | none => rfl
    | some u =>
      by_cases hd : ∃ kvs, u = .dT kvs
      · obtain ⟨kvs, rfl⟩ := hd
        obtain ⟨o, ho⟩ := dT_there (ok b _ q2)
        rw [see_dT q q2 ho] at e; cases e
      · rw [see_of q q2 fun kvs z => hd ⟨kvs, z⟩] at e; cases e
theorem Tn.none (T : Tn W env N F s H pins pv g ip σ H1 s1) (wk : Wk W g F lst xs H pins s) {b : Addr} (e : H1 b = none) : seeH H s.heap pv b = Option.none ∧ H b = Option.none := by
  have q : seeH H s.heap pv b = Option.none := by
    cases q : seeH H s.heap pv b with
    | none => rfl
    | some u => rw [T.x b u q] at e; cases e
  exact ⟨q, (see_inv wk.env.hok q).2⟩
theorem Tn.rd (T : Tn W env N F s H pins pv g ip σ H1 s1) (hpv : ∀ b ys, pv.lookup b = some ys → H b = Option.none) {b : Addr} {ys : List V} (r : Rd H b (.lst ys)) : Rd H1 b (.lst ys) := by
  have np : ∀ {u}, H b = some u → pv.lookup b = Option.none := fun {u} e => by
    cases q : pv.lookup b with
    | none => rfl
    | some zs => rw [hpv b zs q] at e; cases e
  rcases r with r | ⟨o, r⟩
  · exact .inl (T.x _ _ (see_of (np r) r fun _ z => by cases z))
  · exact .inr ⟨o, T.x _ _ (see_of (np r) r fun _ z => by cases z)⟩
end

/-! ### the text -/
section
variable {q : Str} {L f : Addr} {cd : Value} {W : GW} {F : Ft} {s : Shared} {H0 : Hp} {pins : List (Addr × Obj)}
end

/-! ### the walk -/
/-- what a call of the generator gives -/
def SubCall (P : Program) (w : World) (K : PySem.W.Frag) (mg : Str → Option Value) (base : Heap) (k : Nat) (f : Addr) (R : List V → Int → List (List V) → Prop) : Prop :=
  ∀ (X : Cx) (pins : List (Addr × Obj)) (σ : St) (H : Hp) (s : Shared) (lst : Addr) (xs : List V) (m : Int) (t : Tok) (Ls : List (List V)) (E : Value → Shared → Prop), X.prog = P → X.w = w → X.K = K → X.mg = mg → X.base = base → X.ex = [] → Room (2 * k) X.A → Inv X pins σ H s → Rd H lst (.lst xs) → R xs m Ls →
    wpAny (model X.prog X.w) X.A (call (.ref f) [.ref lst, .int m t]) (fun u s' => ∃ n a g F c, u = .ref a ∧ Inv X pins σ H s' ∧ Kp s.gens s'.gens ∧ s.gens.size ≤ g ∧ F.G = [] ∧ Slp X n g lst xs F (.fresh c) pins H s' ∧ Pr (gwOf X n) a g lst xs Ls (.fresh c) F) E s
section
variable {q : Str} {L f : Addr} {cd : Value} {W : GW} {k : Nat} {R : List V → Int → List (List V) → Prop}
end
end L2

/-! Y26: the generator of the subsets: the outer loop, the beginning, the call. -/
namespace L2
open PySem PySem.Spec PyProof.Rows PySem.Calls GenW
open Sem (wp)

section
variable {q : Str} {L f : Addr} {cd : Value} {W : GW} {k : Nat} {R : List V → Int → List (List V) → Prop}
end
end L2

/-! Y27: the generator of the subsets: its beginning, its call. -/
namespace L2
open PySem PySem.Spec PyProof.Rows PySem.Calls GenW
open Sem (wp)
section
variable {q : Str} {L f : Addr} {cd : Value} {W : GW} {k : Nat} {R : List V → Int → List (List V) → Prop}
end
end L2

/-! Y28: the generator of the subsets: its call. -/
namespace L2
open PySem PySem.Spec PyProof.Rows PySem.Calls GenW
open Sem (wp)
end L2

/-! Y29: the generator of the subsets in the language of trees; for over it. -/
namespace L2
open PySem PySem.Spec PyProof.Rows PySem.Calls GenW
end L2
namespace S3
open PySem L2
/-! ### terms -/
/-! ### soundness -/
abbrev sD (ss : List Str) : List D := ss.map .str
abbrev sV (ss : List Str) : List V := ss.map .str
abbrev lD (tt : List (List Str)) : List D := tt.map fun t => .lst (sD t)
abbrev lV (tt : List (List Str)) : List (List V) := tt.map sV
/-- what the parts say -/
def Rs (phi : List D → RC) (xs : List V) (m : Int) (Ls : List (List V)) : Prop := ∃ ss tt, xs = sV ss ∧ Ls = lV tt ∧ phi [.lst (sD ss), .int m] = .ok false (.lst (lD tt)) []
/-- a generator def, as the module's code may call it -/
structure GnT (P : Program) (w : World) (K : PySem.W.Frag) (mg : Str → Option Value) (base : Heap) (k : Nat) (n : Str) (phi : List D → RC) : Prop where
  ex : ∃ f : Addr, L2.SubCall P w K mg base k f (Rs phi) ∧ mg n = some (.ref f) ∧ PySem.W.keepIn K (.ref f) = true
theorem GnT.zero {P : Program} {w : World} {K : PySem.W.Frag} {mg : Str → Option Value} {base : Heap} {n : Str} {f : Addr} {g : String} {tab : String → Option Def} (hf : mg n = some (.ref f)) (hk : PySem.W.keepIn K (.ref f) = true) : GnT P w K mg base 0 n (sem tab 0 g) :=
  ⟨f, fun X pins σ H s lst xs m t Ls E _ _ _ _ _ _ _ _ _ ⟨_, _, _, _, z⟩ => (by cases z), hf, hk⟩
theorem GnT.succ {P : Program} {w : World} {K : PySem.W.Frag} {mg : Str → Option Value} {base : Heap} {k : Nat} {n : Str} {f : Addr} {g : String} {tab : String → Option Def} {T : Def} (h : L2.SubCall P w K mg base (k + 1) f (Rs (T.run (sem tab k)))) (hf : mg n = some (.ref f)) (hk : PySem.W.keepIn K (.ref f) = true) (ht : tab g = some T) :
    GnT P w K mg base (k + 1) n (sem tab (k + 1) g) := by
  refine ⟨f, ?_, hf, hk⟩
  have e : sem tab (k + 1) g = T.run (sem tab k) := by funext ds; simp only [sem, ht]
  rw [e]; exact h
theorem SubCall.imp {P : Program} {w : World} {K : PySem.W.Frag} {mg : Str → Option Value} {base : Heap} {k : Nat} {f : Addr} {R R' : List V → Int → List (List V) → Prop} (h : L2.SubCall P w K mg base k f R) (hi : ∀ xs m Ls, R' xs m Ls → R xs m Ls) : L2.SubCall P w K mg base k f R' :=
  fun X pins σ H s lst xs m t Ls E e1 e2 e3 e4 e5 hex hr I hl hR => h X pins σ H s lst xs m t Ls E e1 e2 e3 e4 e5 hex hr I hl (hi _ _ _ hR)
section
variable {Z : Wd} {F F' H H' : Hp} {N : En} {σ : St} {e e' : Env} {v : V} {W : WX}
end
open PySem.Spec PyProof.Rows PySem.Calls in
section
variable {ca : Str → Option Addr} {W : WX} {X : Cx} {a b c : Expr} {s1 : List Stmt} {fa fb : EV} {f : SV} {pos p : Pos}
end
end S3

/-! Y30: f([a, b, d]) where d is a dict of tuples of one's own that stays one's own. -/
namespace S3
open PySem L2
mutual
/-- no dict of tuples in it -/
def noDt : D → Bool
  | .lst xs => noDtL xs
  | .tup xs => noDtL xs
  | .scr xs => noDtL xs
  | .kt xs => noDtL xs
  | .dk kvs => noDtK kvs
  | .dt _ => false
  | .obj _ fs => noDtF fs
  | .xn _ fs => noDtF fs
  | .xv _ fs => noDtF fs
  | _ => true
def noDtL : List D → Bool
  | [] => true
  | d :: r => noDt d && noDtL r
def noDtK : List (Key × D) → Bool
  | [] => true
  | (_, d) :: r => noDt d && noDtK r
def noDtF : List (Str × D) → Bool
  | [] => true
  | (_, d) :: r => noDt d && noDtF r
end
section
variable {Z : Wd} {F F' H H' : Hp} {N : En} {σ : St} {e : Env} {v : V} {W : WX}
theorem and2 {a b : Bool} (h : (a && b) = true) : a = true ∧ b = true := by rwa [Bool.and_eq_true] at h
mutual
theorem Rp.noDt (k : ∀ b u, F b = some u → (∀ kvs, u ≠ .dT kvs) → F' b = some u) : ∀ {v : V} {d : D}, Rp Z F v d → noDt d = true → Rp Z F' v d
  | _, _, .non, _ => .non
  | _, _, .bl b, _ => .bl b
  | _, _, .int i, _ => .int i
  | _, _, .str x h, _ => .str x h
  | _, _, .lst h r, n => .lst (k _ _ h fun _ z => by cases z) (RpA.noDt k r n)
  | _, _, .scr h r, n => .scr (h.imp (Or.imp (fun h => k _ _ h fun _ z => by cases z) fun ⟨o, h⟩ => ⟨o, k _ _ h fun _ z => by cases z⟩) id) (RpA.noDt k r n)
  | _, _, .tup h r, n => .tup (k _ _ h fun _ z => by cases z) (RpA.noDt k r n)
  | _, _, .kt h r, n => .kt (h.imp (Or.imp (fun h => k _ _ h fun _ z => by cases z) fun ⟨o, h⟩ => ⟨o, k _ _ h fun _ z => by cases z⟩) id) (RpA.noDt k r n)
  | _, _, .dk h q r, n => .dk (h.imp (fun h => k _ _ h fun _ z => by cases z) fun ⟨o, h⟩ => ⟨o, k _ _ h fun _ z => by cases z⟩) q (RpP.noDtK k r n)
  | _, _, .dt _ _ _, n => by cases n
  | _, _, .st h q, _ => .st (k _ _ h fun _ z => by cases z) q
  | _, _, .obj c h r, n => .obj c (k _ _ h fun _ z => by cases z) (RpP.noDtF k r n)
  | _, _, .xn a b c q h r, n => .xn a b c q (h.imp id fun ⟨dd, x, y⟩ => ⟨dd, x, k _ _ y fun _ z => by cases z⟩) (RpP.noDtF k r n)
  | _, _, .xv c q h r, n => .xv c (k _ _ q fun _ z => by cases z) (h.imp id fun ⟨dd, x, y⟩ => ⟨dd, x, k _ _ y fun _ z => by cases z⟩) (RpP.noDtF k r n)
  | _, _, .cl c, _ => .cl c
  | _, _, .any, _ => .any
theorem RpA.noDt (k : ∀ b u, F b = some u → (∀ kvs, u ≠ .dT kvs) → F' b = some u) : ∀ {v : List V} {d : List D}, RpA Z F v d → noDtL d = true → RpA Z F' v d
  | _, _, .nil, _ => .nil
  | _, _, .cons h r, n => .cons (Rp.noDt k h (and2 n).1) (RpA.noDt k r (and2 n).2)
theorem RpP.noDtK (k : ∀ b u, F b = some u → (∀ kvs, u ≠ .dT kvs) → F' b = some u) : ∀ {v : List (Key × V)} {d : List (Key × D)}, RpP Z F v d → noDtK d = true → RpP Z F' v d
  | _, _, .nil, _ => .nil
  | _, _, .cons h r, n => .cons (Rp.noDt k h (and2 n).1) (RpP.noDtK k r (and2 n).2)
theorem RpP.noDtF (k : ∀ b u, F b = some u → (∀ kvs, u ≠ .dT kvs) → F' b = some u) : ∀ {v : List (Str × V)} {d : List (Str × D)}, RpP Z F v d → noDtF d = true → RpP Z F' v d
  | _, _, .nil, _ => .nil
  | _, _, .cons h r, n => .cons (Rp.noDt k h (and2 n).1) (RpP.noDtF k r (and2 n).2)
end
theorem Top.drop {a : Addr} {d : D} (k : ∀ b u, F b = some u → (∀ kvs, u ≠ .dT kvs) → F' b = some u) (h : Top Z F H a d) (n : noDt d = true) : Top Z F' H a d := by
  cases d <;> simp only [Top] at h ⊢
  case lst => obtain ⟨_, h, r⟩ := h; exact ⟨_, h, RpA.noDt k r n⟩
  case dk => obtain ⟨q, _, h, r⟩ := h; exact ⟨q, _, h, RpP.noDtK k r n⟩
  case dt => cases n
  case st => exact h
  case obj => obtain ⟨_, _, _, c, h, r⟩ := h; exact ⟨_, _, _, c, h, RpP.noDtF k r n⟩
end
section
variable {ca : Str → Option Addr} {W : WX} {X : Cx} {a b : Expr} {fa fb : EV} {pos p lp : Pos}
open PySem.Spec PyProof.Rows in
end
end S3

/-! Y31: an exception whose last field's list is new: raised, caught, and the list handed on as one's own. -/
namespace S3
open PySem PySem.Spec L2
section
variable {ca : Str → Option Addr} {W : WX} {X : Cx} {e : Expr} {es : List Expr} {e2 : Expr} {es2 : List Expr} {fa fb : AV} {p pos q0 q1 pos2 : Pos} {x y : Str}
end
/-- tuples of texts, numbers .. -/
def tOk : Nat → D → Bool
  | _, .non => true | _, .bl _ => true | _, .int _ => true | _, .str _ => true
  | n + 1, .tup xs => xs.all (tOk n)
  | _, _ => false
def tOnly (s : Sl) : Sl := match s with
  | .fz d => if tOk 6 d then .fz d else .no
  | .bo d => if tOk 6 d then .fz d else .no
  | _ => .no
section
variable {Z Z' : Wd} {N : En} {F F' H H' : Hp} {σ : L2.St} {e : Env}
theorem Rp.tups (k : ∀ b xs, F b = some (.tup xs) → F' b = some (.tup xs)) : ∀ {n : Nat} {v : V} {d : D}, tOk n d = true → Rp Z F v d → Rp Z F' v d := by
  intro n
  induction n with
  | zero =>
    intro v d h r
    cases d <;> first | (cases h; done) | skip
    · cases r; exact .non
    · cases r; exact .bl _
    · cases r; exact .int _
    · cases r with | str _ z => exact .str _ z
  | succ n ih =>
    intro v d h r
    cases d <;> first | (cases h; done) | skip
    · cases r; exact .non
    · cases r; exact .bl _
    · cases r; exact .int _
    · cases r with | str _ z => exact .str _ z
    · rename_i ds
      cases r with
      | tup hb ra =>
        have all : ∀ {vs : List V} {ds : List D}, ds.all (tOk n) = true → RpA Z F vs ds → RpA Z F' vs ds := fun {vs ds} => by
          induction ds generalizing vs with
          | nil => intro _ z; cases z; exact .nil
          | cons d ds ih2 =>
            intro hd z
            rw [List.all_cons, Bool.and_eq_true] at hd
            cases z with
            | cons z1 z2 => exact .cons (ih hd.1 z1) (ih2 hd.2 z2)
        exact .tup (k _ _ hb) (all h ra)
theorem top_tok {a : Addr} : ∀ {n : Nat} {d : D}, tOk n d = true → ¬ Top Z F H a d := by
  intro n d h t
  cases n <;> cases d <;> first | (cases h; done) | exact t
/-- only tuples, one list, one dict of fields frozen -/
def oneF (F : Hp) (al : Addr) (xs : List V) (dd : Addr) (vs : List (Str × V)) : Hp := fun b => if b = al then some (.lst xs) else if b = dd then some (.xd vs) else (match F b with | some (.tup ys) => some (.tup ys) | _ => none)
theorem SOk.one (S : SOk Z N F H σ e) {al dd : Addr} {xs : List V} {vs : List (Str × V)} (h1 : H al = some (.lst xs)) (h2 : F dd = some (.xd vs)) (f1 : F al = none) :
    SOk Z ⟨oneF F al xs dd vs, H, [], fun _ => none, fun _ => []⟩ (oneF F al xs dd vs) H σ (e.map tOnly) := by
  have ne : dd ≠ al := fun z => by rw [z, f1] at h2; cases h2
  have tk : ∀ b ys, F b = some (.tup ys) → oneF F al xs dd vs b = some (.tup ys) := fun b ys h => by
    unfold oneF
    rw [if_neg (fun z => by rw [z, f1] at h; cases h), if_neg (fun z => by rw [z, h2] at h; cases h), h]
  have get : ∀ {i : Nat} {s : Sl}, (e.map tOnly)[i]? = some s → ∃ t, e[i]? = some t ∧ s = tOnly t := fun {i s} h => by
    rw [List.getElem?_map, Option.map_eq_some_iff] at h
    obtain ⟨t, q1, q2⟩ := h
    exact ⟨t, q1, q2.symm⟩
  have sh : ∀ t : Sl, tOnly t = .no ∨ ∃ d, tOk 6 d = true ∧ tOnly t = .fz d ∧ (t = .fz d ∨ t = .bo d) := fun t => by
    cases t with
    | fz d =>
      by_cases q : tOk 6 d = true
      · exact .inr ⟨d, q, if_pos q, .inl rfl⟩
      · exact .inl (if_neg q)
    | bo d =>
      by_cases q : tOk 6 d = true
      · exact .inr ⟨d, q, if_pos q, .inr rfl⟩
      · exact .inl (if_neg q)
    | _ => exact .inl rfl
  exact {
    le := fun b o h => by
      unfold oneF at h
      split at h
      · rename_i z; rw [z, h1]; exact h
      · split at h
        · rename_i z; rw [z]; rw [← h]; exact S.le _ _ h2
        · split at h
          · rename_i ys q; rw [← h]; exact S.le _ _ q
          · cases h
    f0 := Same.refl _
    h0 := fun _ _ h _ => h
    nf := fun _ _ _ _ h => h
    len := by rw [List.length_map]; exact S.len
    slot := fun i s h => by
      obtain ⟨t, q1, rfl⟩ := get h
      obtain ⟨o, k1, k2⟩ := S.slot i t q1
      refine ⟨o, k1, ?_⟩
      rcases sh t with z | ⟨d, z1, z2, rfl | rfl⟩
      · rw [z]; trivial
      · rw [z2]
        obtain ⟨v, y1, y2⟩ := k2
        exact ⟨v, y1, y2.tups tk z1⟩
      · rw [z2]
        obtain ⟨v, y1, y2 | ⟨a, _, _, _, _, y2⟩⟩ := k2
        · exact ⟨v, y1, y2.tups tk z1⟩
        · exact (top_tok z1 y2).elim
    sep := fun i j s t a h1 h2 ne ex _ _ => by
      obtain ⟨t, q1, rfl⟩ := get h1
      rcases sh t with z | ⟨d, z1, z2, _⟩
      · rw [z] at ex; cases ex
      · rw [z2] at ex; cases ex
    mh := fun a ha => absurd ha (by simp)
    mus := fun i d h => by
      obtain ⟨t, q1, q⟩ := get h
      rcases sh t with z | ⟨d, z1, z2, _⟩
      · rw [z] at q; cases q
      · rw [z2] at q; cases q
    bos := fun i d a r _ h => by cases h
    lks := fun i j d a _ h => absurd h (by simp)
    lkh := fun j a h => absurd h (by simp) }
end
section
variable {ca : Str → Option Addr} {W : WX} {X : Cx} {x n : Str} {c : Value} {i : Nat} {body suite : List Stmt} {b₀ : Stmt} {np pos pos' : Pos} {b h : SV}
end
end S3

/-! Y32: a def that hands back a list of texts, called with lists of texts and tuples: the list is new. -/
namespace S3
open PySem PySem.Spec L2
section
variable {Z : Wd} {F F' H H' : Hp}
end
end S3

/-! Y33: C() of an own class that has no __init__ of its own. -/
namespace L2
open PySem PySem.Spec PyProof.Rows PySem.W NwA
section
variable {X : Cx} {C : Addr} {x : Str} {p pos : Pos}
end
end L2
namespace S3
open PySem L2
section
variable {Z : Wd} {W : WX} {σ : L2.St} {H : Hp} {Q : VK}
end
section
variable {ca : Str → Option Addr} {W : WX} {X : Cx} {c n : Str} {p pos : Pos}
end
end S3

/-! Y34: within an except suite: for over lists, tuples and texts; own defs called there. -/
namespace L2H
open PySem PySem.Spec PyProof.Rows L2 HotX
open Sem (wp)
open Builtin Builtin.Str
section
variable {prog : Program} {w : World} {A : Around} {E : Value → Shared → Prop} {s : Shared}
/-- the end of a walk: StopIteration, while an exception is handled -/
theorem stop_hot {α : Type} {x1 it : Addr} {Q : α → Shared → Prop} {h1 : Heap} (hot : HotAt A x1 s.heap) (hn : x1 ≠ it) (eb : Heap.SameBut it s.heap h1)
    (k : ∀ h' a, (∀ b o, b ≠ it → s.heap.get? b = some o → h'.get? b = some o) → (∃ o, h'.get? a = some o ∧ o.cls = .type "StopIteration") → E (.ref a) { s with heap := h' }) :
    wpAny (model prog w) A (newExc (.type "StopIteration") [] >>= fun e => (raiseNew e : Sem α)) Q E { s with heap := h1 } := by
  obtain ⟨hh, o1, vs1, e1, d1, c1⟩ := hot
  refine wpAny_bind ?_
  simp only [newExc, newTuple]
  refine wpAny_bind (wpAny_newObj_type ?_ (by size_fits))
  refine wpAny_bind (m := firstArgMember _ _) (wpAny_of_eq (a := Value.none) (by first | rfl | (simp only [firstArgMember]; rfl)) ?_)
  refine wpAny_newObj_type ?_ (by size_fits)
  have g1 : h1.get? x1 = some o1 := (eb.2 x1 hn).trans e1
  refine raiseNew_hot ⟨hh, o1, vs1, Heap.get?_push_of_some _ (Heap.get?_push_of_some _ g1), d1, c1⟩ (Nat.ne_of_lt (Heap.lt_size (Heap.get?_push_of_some _ g1))) (Heap.get?_push_size _ rfl) rfl (by first | (simp; done) | (simp; omega) | (simp only [Array.size_append]; simp; omega)) ?_
  refine k _ _ (fun b o hb e => ?_) ⟨_, Heap.get?_update_self _ (Heap.get?_push_size _ rfl) rfl, rfl⟩
  have e' : h1.get? b = some o := (eb.2 b hb).trans e
  rw [Heap.get?_update_other _ _ (Nat.ne_of_gt (Heap.lt_size (Heap.get?_push_of_some _ e')))]
  exact Heap.get?_push_of_some _ (Heap.get?_push_of_some _ e')
theorem list_end_hot {it l x1 : Addr} {i : Nat} {items : Array Value} {Q : Option Value → Shared → Prop} (hot : HotAt A x1 s.heap) (hn : x1 ≠ it)
    (hit : s.heap.IsListIter it l i) (hl : s.heap.IsList l items) (hx : items[i]? = none)
    (hQ : ∀ h', Heap.ExtBut it s.heap h' → Q none { s with heap := h' }) : wpAny (model prog w) A (pyNext (.ref it)) Q E s := by
  obtain ⟨o, ho, hc, hd⟩ := id hit
  obtain ⟨ol, hol, _, nl, hdl⟩ := hl
  unfold pyNext
  refine wpAny_bind (wpAny_attempt (wpAny_callSpecial?_slot (name := Str.ofString "__next__") hit.typeIs slot_listiter_next
    (wpAny_call_entry slot_listiter_next hit.typeIs entry_listiter_next ?_ (args_listiter_next _))))
  show wpAny _ _ (field (.ref it) 0 >>= _) _ _ s
  refine wpAny_bind (wpAny_field ho hd (x := .ref l) rfl ?_)
  show wpAny _ _ (if (Value.ref l == Value.none) = true then _ else _) _ _ s
  rw [if_neg (show ¬ ((Value.ref l == Value.none) = true) from Bool.false_ne_true)]
  show wpAny _ _ (field (.ref it) 1 >>= _) _ _ s
  refine wpAny_bind (wpAny_field ho hd (x := .int i 0) rfl ?_)
  show wpAny _ _ (seqItems? (.ref l) >>= _) _ _ s
  refine wpAny_bind (wpAny_seqItems hol hdl ?_)
  simp only [Int.toNat_natCast, hx]
  refine wpAny_bind (wpAny_rule (wpAny_bind (wpAny_setField ho hd (by simp) ?_)))
  show wpAny _ _ (newExc (.type "StopIteration") [] >>= _) _ _ _
  refine stop_hot (A := A.in1) hot hn (Heap.SameBut.update ..) fun h' a eb st => ?_
  refine wpAny_bind (wpAny_isInstance (T := "StopIteration") (b := true) st isSubtype_stop ?_)
  exact wpAny_pure (hQ _ fun b o hb e => eb b o hb e)
theorem tuple_end_hot {it t x1 : Addr} {i : Nat} {items : Array Value} {Q : Option Value → Shared → Prop} (hot : HotAt A x1 s.heap) (hn : x1 ≠ it)
    (hit : s.heap.IsTupleIter it t i) (ht : s.heap.IsTuple t items) (hx : items[i]? = none)
    (hQ : ∀ h', Heap.ExtBut it s.heap h' → Q none { s with heap := h' }) : wpAny (model prog w) A (pyNext (.ref it)) Q E s := by
  obtain ⟨o, ho, hc, hd⟩ := id hit
  obtain ⟨ol, hol, _, nl, hdl⟩ := ht
  unfold pyNext
  refine wpAny_bind (wpAny_attempt (wpAny_callSpecial?_slot (name := Str.ofString "__next__") hit.typeIs F.slot_tuple_iterator_next
    (wpAny_call_entry F.slot_tuple_iterator_next hit.typeIs F.entry_tuple_iterator_next ?_ (F.args_tuple_iterator_next_1 _))))
  show wpAny _ _ (field (.ref it) 0 >>= _) _ _ s
  refine wpAny_bind (wpAny_field ho hd (x := .ref t) rfl ?_)
  show wpAny _ _ (if (Value.ref t == Value.none) = true then _ else _) _ _ s
  rw [if_neg (show ¬ ((Value.ref t == Value.none) = true) from Bool.false_ne_true)]
  show wpAny _ _ (field (.ref it) 1 >>= _) _ _ s
  refine wpAny_bind (wpAny_field ho hd (x := .int i 0) rfl ?_)
  show wpAny _ _ (seqItems? (.ref t) >>= _) _ _ s
  refine wpAny_bind (wpAny_seqItems hol hdl ?_)
  simp only [Int.toNat_natCast, hx]
  refine wpAny_bind (wpAny_rule (wpAny_bind (wpAny_setField ho hd (by simp) ?_)))
  show wpAny _ _ (newExc (.type "StopIteration") [] >>= _) _ _ _
  refine stop_hot (A := A.in1) hot hn (Heap.SameBut.update ..) fun h' a eb st => ?_
  refine wpAny_bind (wpAny_isInstance (T := "StopIteration") (b := true) st isSubtype_stop ?_)
  exact wpAny_pure (hQ _ fun b o hb e => eb b o hb e)
theorem ascii_end_hot {it x1 : Addr} {x : Str} {t : Tok} {i : Nat} {Q : Option Value → Shared → Prop} (hot : HotAt A x1 s.heap) (hn : x1 ≠ it)
    (hit : s.heap.IsStrIter it "str_ascii_iterator" x t i) (hx : x.cps[i]? = none)
    (hQ : ∀ h', Heap.ExtBut it s.heap h' → Q none { s with heap := h' }) : wpAny (model prog w) A (pyNext (.ref it)) Q E s := by
  obtain ⟨o, ho, hc, hd⟩ := id hit
  unfold pyNext
  refine wpAny_bind (wpAny_attempt (wpAny_callSpecial?_slot (name := Str.ofString "__next__") hit.typeIs F.slot_str_ascii_iterator_next
    (wpAny_call_entry F.slot_str_ascii_iterator_next hit.typeIs F.entry_str_ascii_iterator_next ?_ (F.args_str_ascii_iterator_next_1 _))))
  show wpAny _ _ (field (.ref it) 0 >>= _) _ _ s
  refine wpAny_bind (wpAny_field ho hd (x := .str x t) rfl ?_)
  show wpAny _ _ (field (.ref it) 1 >>= _) _ _ s
  refine wpAny_bind (wpAny_field ho hd (x := .int i 0) rfl ?_)
  simp only [Int.toNat_natCast, hx]
  refine wpAny_bind (wpAny_rule (wpAny_bind (wpAny_setField ho hd (by simp) (wpAny_bind (wpAny_letGo ?_)))))
  show wpAny _ _ (newExc (.type "StopIteration") [] >>= _) _ _ _
  refine stop_hot (A := A.in1) hot hn (Heap.SameBut.update ..) fun h' a eb st => ?_
  refine wpAny_bind (wpAny_isInstance (T := "StopIteration") (b := true) st isSubtype_stop ?_)
  exact wpAny_pure (hQ _ fun b o hb e => eb b o hb e)
theorem wide_end_hot {it x1 : Addr} {x : Str} {t : Tok} {i : Nat} {Q : Option Value → Shared → Prop} (hot : HotAt A x1 s.heap) (hn : x1 ≠ it)
    (hit : s.heap.IsStrIter it "str_iterator" x t i) (hx : x.cps[i]? = none)
    (hQ : ∀ h', Heap.ExtBut it s.heap h' → Q none { s with heap := h' }) : wpAny (model prog w) A (pyNext (.ref it)) Q E s := by
  obtain ⟨o, ho, hc, hd⟩ := id hit
  unfold pyNext
  refine wpAny_bind (wpAny_attempt (wpAny_callSpecial?_slot (name := Str.ofString "__next__") hit.typeIs F.slot_str_iterator_next
    (wpAny_call_entry F.slot_str_iterator_next hit.typeIs F.entry_str_iterator_next ?_ (F.args_str_iterator_next_1 _))))
  show wpAny _ _ (field (.ref it) 0 >>= _) _ _ s
  refine wpAny_bind (wpAny_field ho hd (x := .str x t) rfl ?_)
  show wpAny _ _ (field (.ref it) 1 >>= _) _ _ s
  refine wpAny_bind (wpAny_field ho hd (x := .int i 0) rfl ?_)
  simp only [Int.toNat_natCast, hx]
  refine wpAny_bind (wpAny_rule (wpAny_bind (wpAny_setField ho hd (by simp) (wpAny_bind (wpAny_letGo ?_)))))
  show wpAny _ _ (newExc (.type "StopIteration") [] >>= _) _ _ _
  refine stop_hot (A := A.in1) hot hn (Heap.SameBut.update ..) fun h' a eb st => ?_
  refine wpAny_bind (wpAny_isInstance (T := "StopIteration") (b := true) st isSubtype_stop ?_)
  exact wpAny_pure (hQ _ fun b o hb e => eb b o hb e)
end

/-! ### the turns -/
/-- the exception that is handled stands in the state -/
theorem hot_at {X : Cx} {pins : List (Addr × Obj)} {σ : L2.St} {H : Hp} {s : Shared} {it : Addr} (c : HotC X) (I : Inv X pins σ H s) (f : FpOk X pins H it) : ∃ x1, HotAt X.A x1 s.heap ∧ x1 ≠ it := by
  obtain ⟨p, ⟨hh, v1, e1, c1⟩, hp⟩ := c
  exact ⟨p.1, ⟨hh, p.2, v1, (I.pin p (List.mem_append_left _ hp)).1, e1, c1⟩, f.2.2.2.2.2 p (List.mem_append_left _ hp)⟩
section
variable {P : Program} {w : World} {K : PySem.W.Frag} {tg : Expr}
theorem turn_listH (a it : Addr) : TurnH P w K tg (Itl K a) [it] it (fun i h => h.IsListIter it a i) where
  mem := (turn_list (P := P) (w := w) (K := K) (tg := tg) a it).mem
  obj := (turn_list (P := P) (w := w) (K := K) (tg := tg) a it).obj
  keep := (turn_list (P := P) (w := w) (K := K) (tg := tg) a it).keep
  self := (turn_list (P := P) (w := w) (K := K) (tg := tg) a it).self
  item := by
    intro X hP hw hK hc i pins s σ H E I hf st hg
    subst hP hw hK
    obtain ⟨xs, x, hq, hx⟩ := hg
    obtain ⟨its, rv, p, hz⟩ := I.list hq
    obtain ⟨u, hu, ru⟩ := rv.get hx
    obtain ⟨f0, f1, f2, f3, f4, f5⟩ := hf it (by simp)
    refine wpAny_pyNext_list_item st p.isList (x := u) (by simpa using hu) fun h' st' sb => ?_
    have I1 : Inv X pins σ H { s with heap := h' } := I.turned (t' := s.toks) (fun b o hb e => (sb.2 b hb).trans e) f0 f1 f3 f4 f5
    obtain ⟨o, e, c, d⟩ := id st'
    exact ⟨u, rfl, go_of (s := { s with heap := h' }) e c d (by decide) ⟨x, H, I1, ru, ⟨rfl, fun ys hy => by rw [I.list_inj hy hq]; exact hx⟩, st', fun b hb => (hf b hb).1⟩⟩
  done := by
    intro X hP hw hK hc i pins s σ H E I hf st hg
    subst hP hw hK
    obtain ⟨xs, hq, hx⟩ := hg
    obtain ⟨its, rv, p, hz⟩ := I.list hq
    obtain ⟨x1, hot, hn⟩ := hot_at hc I (hf it (by simp))
    obtain ⟨f0, f1, f2, f3, f4, f5⟩ := hf it (by simp)
    have hl := rv.length
    exact list_end_hot hot hn st p.isList (by simp; omega) fun h' eb => ⟨rfl, I.turned (t' := s.toks) (fun b o hb e => eb b o hb e) f0 f1 f3 f4 f5⟩
theorem turn_tupleH (a it : Addr) : TurnH P w K tg (Itt K a) [it] it (fun i h => h.IsTupleIter it a i) where
  mem := (turn_tuple (P := P) (w := w) (K := K) (tg := tg) a it).mem
  obj := (turn_tuple (P := P) (w := w) (K := K) (tg := tg) a it).obj
  keep := (turn_tuple (P := P) (w := w) (K := K) (tg := tg) a it).keep
  self := (turn_tuple (P := P) (w := w) (K := K) (tg := tg) a it).self
  item := by
    intro X hP hw hK hc i pins s σ H E I hf st hg
    subst hP hw hK
    obtain ⟨xs, x, hq, hx⟩ := hg
    obtain ⟨its, rv, p, hz⟩ := I.tuple hq
    obtain ⟨u, hu, ru⟩ := rv.get hx
    obtain ⟨f0, f1, f2, f3, f4, f5⟩ := hf it (by simp)
    refine wpAny_pyNext_tuple_item st (show s.heap.IsTuple a its.toArray from p) (x := u) (by simpa using hu) fun h' st' sb => ?_
    have I1 : Inv X pins σ H { s with heap := h' } := I.turned (t' := s.toks) (fun b o hb e => (sb.2 b hb).trans e) f0 f1 f3 f4 f5
    obtain ⟨o, e, c, d⟩ := id st'
    exact ⟨u, rfl, go_of (s := { s with heap := h' }) e c d (by decide) ⟨x, H, I1, ru, ⟨rfl, fun ys hy => by rw [I.tuple_inj hy hq]; exact hx⟩, st', fun b hb => (hf b hb).1⟩⟩
  done := by
    intro X hP hw hK hc i pins s σ H E I hf st hg
    subst hP hw hK
    obtain ⟨xs, hq, hx⟩ := hg
    obtain ⟨its, rv, p, hz⟩ := I.tuple hq
    obtain ⟨x1, hot, hn⟩ := hot_at hc I (hf it (by simp))
    obtain ⟨f0, f1, f2, f3, f4, f5⟩ := hf it (by simp)
    have hl := rv.length
    exact tuple_end_hot hot hn st (show s.heap.IsTuple a its.toArray from p) (by simp; omega) fun h' eb => ⟨rfl, I.turned (t' := s.toks) (fun b o hb e => eb b o hb e) f0 f1 f3 f4 f5⟩
theorem turn_strH (it : Addr) (x : Str) (t : Tok) (ty : String) (hty : ty = "str_ascii_iterator" ∨ ty = "str_iterator") : TurnH P w K tg (Its x) [it] it (fun i h => h.IsStrIter it ty x t i) where
  mem := (turn_str (P := P) (w := w) (K := K) (tg := tg) it x t ty hty).mem
  obj := (turn_str (P := P) (w := w) (K := K) (tg := tg) it x t ty hty).obj
  keep := (turn_str (P := P) (w := w) (K := K) (tg := tg) it x t ty hty).keep
  self := (turn_str (P := P) (w := w) (K := K) (tg := tg) it x t ty hty).self
  item := by
    intro X hP hw hK hc i pins s σ H E I hf st hg
    subst hP hw hK
    obtain ⟨f0, f1, f2, f3, f4, f5⟩ := hf it (by simp)
    have hg : i < x.cps.size := hg
    have hx : x.cps[i]? = some x.cps[i] := Array.getElem?_eq_getElem hg
    have fin : ∀ h', h'.IsStrIter it ty x t (i + 1) → Heap.SameBut it s.heap h' → (["enumerate", "zip", "dict_itemiterator", "dict_reverseitemiterator", "odict_iterator", "itertools.zip_longest", "itertools.pairwise"].contains ty = false) →
        ∃ u, some (Value.str ⟨#[x.cps[i]]⟩ s.toks) = some u ∧ wpAny (model X.prog X.w) X.A (letOwnedTupleGo tg (.ref it) u) (fun _ s2 => ∃ x' H', Inv X pins σ H' s2 ∧ RelV x' u ∧ (Its x).yld i H x' H' ∧ s2.heap.IsStrIter it ty x t (i + 1) ∧ ∀ b ∈ [it], H' b = none) E { s with heap := h', toks := s.toks + 1 } := by
      intro h' st' sb hno
      have I1 : Inv X pins σ H { s with heap := h', toks := s.toks + 1 } := I.turned (fun b o hb e => (sb.2 b hb).trans e) f0 f1 f3 f4 f5
      obtain ⟨oi, e, cc, dd⟩ := id st'
      exact ⟨_, rfl, go_of (s := { s with heap := h', toks := s.toks + 1 }) e cc dd hno ⟨.str ⟨#[x.cps[i]]⟩, H, I1, ⟨_, rfl⟩, ⟨rfl, _, hx, rfl⟩, st', fun b hb => (hf b hb).1⟩⟩
    rcases hty with e | e
    · subst e
      exact wpAny_pyNext_ascii_item st hx fun h' st' sb => fin h' st' sb (by decide)
    · subst e
      exact wpAny_pyNext_wide_item st hx fun h' st' sb => fin h' st' sb (by decide)
  done := by
    intro X hP hw hK hc i pins s σ H E I hf st hg
    subst hP hw hK
    obtain ⟨x1, hot, hn⟩ := hot_at hc I (hf it (by simp))
    obtain ⟨f0, f1, f2, f3, f4, f5⟩ := hf it (by simp)
    have hx : x.cps[i]? = none := Array.getElem?_eq_none hg
    rcases hty with e | e
    · rw [e] at st
      exact ascii_end_hot hot hn st hx fun h' eb => ⟨rfl, I.turned (t' := s.toks) (fun b o hb e => eb b o hb e) f0 f1 f3 f4 f5⟩
    · rw [e] at st
      exact wide_end_hot hot hn st hx fun h' eb => ⟨rfl, I.turned (t' := s.toks) (fun b o hb e => eb b o hb e) f0 f1 f3 f4 f5⟩
end

/-! ### what is walked -/
section
variable {X : Cx} {tg : Expr}
theorem pih_list {l : Expr} {tl : TE} (hl : PE X l tl) : PIH X tg l (iList X.K tl) := by
  refine ⟨fun pins s σ H R I h => ?_⟩
  refine thn (hl.run pins s σ H _ I h) fun v s1 ⟨x, H1, I1, r1, q1⟩ => ?_
  obtain ⟨a, e, ⟨xs, hq⟩, q⟩ := q1
  subst e
  cases r1
  obtain ⟨its, rv, p, hz⟩ := I1.list hq
  refine wpAny_pyIter_list p.isList ?_
  refine ⟨s1.heap.objs.size, [s1.heap.objs.size], _, _, H1, rfl, I1.kept (t' := s1.toks) fun b o e => Heap.get?_push_of_some _ e, turn_listH a _, ⟨_, Heap.get?_push_size _ rfl, rfl, rfl⟩, fun b hb => ?_, q⟩
  have e : b = s1.heap.objs.size := by simpa using hb
  subst e
  exact I1.fpOk (Nat.le_refl _) (I1.hok.fresh (Nat.le_refl _))
theorem pih_tup {l : Expr} {tl : TE} (hl : PE X l tl) : PIH X tg l (iTup X.K tl) := by
  refine ⟨fun pins s σ H R I h => ?_⟩
  refine thn (hl.run pins s σ H _ I h) fun v s1 ⟨x, H1, I1, r1, q1⟩ => ?_
  obtain ⟨a, e, ⟨xs, hq⟩, q⟩ := q1
  subst e
  cases r1
  obtain ⟨its, rv, p, hz⟩ := I1.tuple hq
  refine wpAny_pyIter_tuple (show s1.heap.IsTuple a its.toArray from p) ?_
  refine ⟨s1.heap.objs.size, [s1.heap.objs.size], _, _, H1, rfl, I1.kept (t' := s1.toks) fun b o e => Heap.get?_push_of_some _ e, turn_tupleH a _, ⟨_, Heap.get?_push_size _ rfl, rfl, rfl⟩, fun b hb => ?_, q⟩
  have e : b = s1.heap.objs.size := by simpa using hb
  subst e
  exact I1.fpOk (Nat.le_refl _) (I1.hok.fresh (Nat.le_refl _))
theorem pih_str {e : Expr} {te : TE} (he : PE X e te) : PIH X tg e (iStr te) := by
  refine ⟨fun pins s σ H R I h => ?_⟩
  refine thn (he.run pins s σ H _ I h) fun v s1 ⟨y, H1, I1, r1, x, ex, q⟩ => ?_
  subst ex
  obtain ⟨t, rfl⟩ := r1
  have fp : ∀ b ∈ [s1.heap.objs.size], FpOk X pins H1 b := fun b hb => by
    have e : b = s1.heap.objs.size := by simpa using hb
    subst e
    exact I1.fpOk (Nat.le_refl _) (I1.hok.fresh (Nat.le_refl _))
  cases ha : x.cps.all (· < 128)
  · exact wpAny_pyIter_wide ha ⟨s1.heap.objs.size, [s1.heap.objs.size], _, _, H1, rfl, I1.kept (t' := s1.toks) fun b o e => Heap.get?_push_of_some _ e, turn_strH _ x t "str_iterator" (.inr rfl), ⟨_, Heap.get?_push_size _ rfl, rfl, rfl⟩, fp, q⟩
  · exact wpAny_pyIter_ascii ha ⟨s1.heap.objs.size, [s1.heap.objs.size], _, _, H1, rfl, I1.kept (t' := s1.toks) fun b o e => Heap.get?_push_of_some _ e, turn_strH _ x t "str_ascii_iterator" (.inl rfl), ⟨_, Heap.get?_push_size _ rfl, rfl, rfl⟩, fp, q⟩
theorem PIH_or {iter : Expr} {w1 w2 : TI} (h1 : PIH X tg iter w1) (h2 : PIH X tg iter w2) : PIH X tg iter (fun σ H R => w1 σ H R ∨ w2 σ H R) := ⟨fun p s σ H R I q => by
  rcases q with q | q
  · exact h1.run p s σ H R I q
  · exact h2.run p s σ H R I q⟩
theorem PIH_imp {iter : Expr} {w1 w2 : TI} (h1 : PIH X tg iter w1) (i : ∀ σ H R, w2 σ H R → w1 σ H R) : PIH X tg iter w2 := ⟨fun p s σ H R I q => h1.run p s σ H R I (i σ H R q)⟩
end
end L2H

/-! Y35: within an except suite, in the language of trees: for, calls of own defs. -/
namespace L2
open PySem PySem.Spec PyProof.Rows
end L2
namespace L2H
open PySem PySem.Spec PyProof.Rows L2 HotX
theorem RoomH.units {k : Nat} {A : Around} (hr : RoomH k A) : A.units + 64 < cLine := by have := hr.un; omega
/-- what a def promises where the exception a (of class cls, dict d) is handled -/
structure FnHX (P : Program) (w : World) (K : PySem.W.Frag) (mg : Str → Option Value) (base : Heap) (k : Nat) (f : Addr) (fd : FuncData) (ps : List Str) (sp : Sp) (a : Addr) (cls : Value) (d : Option Addr) : Prop where
  len : ∀ vs H Q E, sp vs H Q E → vs.length = ps.length
  run : ∀ (A : Around) (outer : List Env) (s : Shared) (H : Hp) (args : Args) (us : List Value) (vs : List V) (Q : VK) (oe : Obj), RoomH k A → A.handled = some (.ref a) → L2N.Zn cls d oe → (∃ ws, oe.data = .fields ws) → PinOk outer H s (a, oe) → Env0 P w K mg base A outer s H → BindsTo s fd args (ps.zip us) → Vals vs us → sp vs H Q (fun _ _ _ => False) →
    codeAny (model P w) A (.call (.ref f) args) (CR (L2N.CX P w) outer P w H s Q (fun _ _ _ => False)) s
theorem hot_suite {X : Cx} {a : Addr} {oe : Obj} {cls : Value} {d : Option Addr} {pn : List (Addr × Obj)} (hz : L2N.Zn cls d oe) (hf : ∃ ws, oe.data = .fields ws) : HotC (X.suite a ((a, oe) :: pn)) := by
  obtain ⟨ws, e⟩ := hf
  exact ⟨(a, oe), ⟨rfl, ws, e, hz.2.2 ws e⟩, List.mem_cons_self⟩
theorem noCX {P : Program} {w : World} {outer : List Env} {H : Hp} {s : Shared} {e : Value} {s' : Shared} (h : L2N.CX P w outer H s (fun _ _ _ => False) e s') : False := by
  obtain ⟨_, _, _, _, _, _, _, _, _, _, _, _, z⟩ := h
  exact z
theorem fn_ofX {P : Program} {w : World} {K : PySem.W.Frag} {mg : Str → Option Value} {base : Heap} {k : Nat} {f : Addr} {name qual : Str} {params : Arguments} {body : List Stmt} {scope : Scope} {dV kV doc pm cdv ct oc : Value} {an od : Option Addr}
    {osl : Array (Option Value)} {N ps : List Str} {sp : Sp} {a : Addr} {cls : Value} {d : Option Addr} (lk : K.lookup f = some ⟨oc, od, .func (PySem.W.fnOf name qual params body scope dV kV doc pm an cdv ct), osl⟩) (hcd : PySem.W.codeIn K cdv qual = true) (S : FnScope N ps scope)
    (len : ∀ vs H Q E, sp vs H Q E → vs.length = ps.length)
    (hbody : ∀ (A : Around) (outer : List Env) (s : Shared) (H : Hp) (vs : List V) (Q : VK) (oe : Obj), RoomH k (A.deeper (envOfC qual scope s.heap.objs.size f cdv)) → L2N.Zn cls d oe → (∃ ws, oe.data = .fields ws) → sp vs H Q (fun _ _ _ => False) →
      ∃ t, PSs ((cxOf (L2N.CX P w) P w K mg base N qual scope f cdv A outer s H (fun _ _ _ => False)).suite a [(a, oe)]) body t ∧ t { nx := fun _ H' => Q .non H', rt := Q } (L2.start N vs) H) :
    FnHX P w K mg base (k + 1) f (PySem.W.fnOf name qual params body scope dV kV doc pm an cdv ct) ps sp a cls d := by
  refine ⟨len, fun A outer s H args us vs Q oe hr hh hz hf hpin e0 hb r hsp => ?_⟩
  have hl := len _ _ _ _ hsp
  have KX : K.In s.heap := e0.mod.kin.keeps fun b o e => (e0.bs b o e).1
  have lim : s.heap.NoLimit := e0.mod.nolimit.keeps fun b o e => (e0.bs b o e).1
  have hkind : ∀ y ∈ ps.zip us, scope.names.lookup y.1 = some .local ∨ (scope.names.lookup y.1 = some .cell ∧ ((cellsFrom (s.heap.objs.size + 1) scope.names []).lookup y.1).isSome = true) := fun ⟨n, v⟩ hy => by
    rcases S.par n (List.of_mem_zip hy).1 with q | q
    · exact .inl q
    · exact .inr ⟨q, PySem.W.cellsFrom_some _ _ _ (.inl q)⟩
  refine codeAny_call_function hr.depth (KX _ _ lk) rfl S.co S.gen rfl (PySem.W.codeRec_of KX hcd) (hb _ _ _ _ ?_)
  refine wpAny_newFunctionEnv_cells S.kind hkind fun env he s1 x => ?_
  subst he
  refine ⟨lim.keeps x.toInCall.keep, codeAny_func ?_⟩
  obtain ⟨t, ht, hq⟩ := hbody A outer s H vs Q oe (hr.deeper _) hz hf hsp
  have I : Inv (cxH (L2N.CX P w) P w K mg base N qual scope f cdv A outer s H (fun _ _ _ => False) (a, oe)) [] (L2.start N vs) H s1 := inv_startH S hpin e0 hl r x
  have hA : (A.deeper (envOfC qual scope s.heap.objs.size f cdv)).mark (some (.ref a)) = A.deeper (envOfC qual scope s.heap.objs.size f cdv) := by
    obtain ⟨hd, dp, fr, gs, u⟩ := A
    have hh : hd = some (.ref a) := hh
    subst hh
    rfl
  have eX : (cxOf (L2N.CX P w) P w K mg base N qual scope f cdv A outer s H (fun _ _ _ => False)).suite a [(a, oe)] = (cxH (L2N.CX P w) P w K mg base N qual scope f cdv A outer s H (fun _ _ _ => False) (a, oe)).wish (fun _ _ => False) := by
    show ({ cxOf (L2N.CX P w) P w K mg base N qual scope f cdv A outer s H (fun _ _ _ => False) with A := (A.deeper (envOfC qual scope s.heap.objs.size f cdv)).mark (some (.ref a)), calm := false, pn := [(a, oe)], xe := fun _ _ => False } : Cx) = _
    rw [hA]; rfl
  rw [eX] at ht
  refine wpAny_mono (ht.run [] s1 (L2.start N vs) H _ (I.wish _) hq) (fun fl s' hs => ?_) fun e s' hs => hs.elim
  have fin : ∀ {σ' : L2.St} {H' : Hp} {v : V} {u : Value}, Inv ((cxH (L2N.CX P w) P w K mg base N qual scope f cdv A outer s H (fun _ _ _ => False) (a, oe)).wish (fun _ _ => False)) [] σ' H' s' → RelV v u → Q v H' → CE outer P w H s Q u s' :=
    fun {σ' H' v u} J rv q => ⟨v, H', J.os, J.bare, J.base, J.hok, rv, q⟩
  cases fl with
  | ret u =>
    obtain ⟨v, σ', H', J, rv, q⟩ := hs
    exact fin J rv q
  | next =>
    obtain ⟨σ', H', J, q⟩ := hs
    exact fin (v := V.non) (u := Value.none) J rfl q
  | brk =>
    obtain ⟨_, _, _, q⟩ := hs
    exact False.elim q
  | cont =>
    obtain ⟨_, _, _, q⟩ := hs
    exact False.elim q
section
variable {X : Cx} {k : Nat} {f : Addr} {fd : FuncData} {ps : List Str} {sp : Sp} {a : Addr} {oe : Obj} {cls : Value} {d : Option Addr} {pn : List (Addr × Obj)} {x m : Str} {q pos apos : Pos} {e o : Expr} {es : List Expr} {ta : TE} {t : TA}
theorem run_fnX {pins : List (Addr × Obj)} {σ : L2.St} {H : Hp} {s : Shared} {Q : VK} {us : List Value} {vs : List V} (F : FnHX X.prog X.w X.K X.mg X.base k f fd ps sp a cls d) (hr : RoomH k X.A) (hz : L2N.Zn cls d oe) (hf : ∃ ws, oe.data = .fields ws) (hb : Binds X.K fd ps [])
    (I : Inv (X.suite a ((a, oe) :: pn)) pins σ H s) (r : Vals vs us) (h : sp vs H Q (fun _ _ _ => False)) : wpAny (model X.prog X.w) (X.suite a ((a, oe) :: pn)).A (call (.ref f) us) (EP (X.suite a ((a, oe) :: pn)) pins σ Q) (X.suite a ((a, oe) :: pn)).xe s := by
  have hl : us.length = ps.length := by rw [← r.length]; exact F.len _ _ _ _ h
  have b := hb s us I.kIn (by rw [List.append_nil]; exact hl)
  rw [List.append_nil] at b
  have P1 := I.pin (a, oe) (List.mem_append_left _ List.mem_cons_self)
  have hpin : PinOk X.stack H s (a, oe) := ⟨P1.1, P1.2.1, fun hm => (List.mem_cons.mp (I.stkSub a hm)).elim P1.2.2.1 P1.2.2.2.1, P1.2.2.2.2⟩
  refine wpAny_call (codeAny_mono (F.run (X.suite a ((a, oe) :: pn)).A X.stack s H ⟨us, []⟩ us vs Q oe ⟨hr.dp, hr.un⟩ rfl hz hf hpin I.env0 b r h) fun r s' hq => ?_)
  cases r with
  | error e => exact (noCX hq).elim
  | ok fl =>
    cases fl with
    | ret u => exact I.after hq
    | next => exact False.elim hq
    | brk => exact False.elim hq
    | cont => exact False.elim hq
theorem pe_callX (F : FnHX X.prog X.w X.K X.mg X.base k f fd ps sp a cls d) (hr : RoomH k X.A) (hz : L2N.Zn cls d oe) (hf : ∃ ws, oe.data = .fields ws) (hg : Gl (X.suite a ((a, oe) :: pn)) x) (hm : X.mg x = some (.ref f)) (hk : PySem.W.keepIn X.K (.ref f) = true) (hb : Binds X.K fd ps [])
    (ha : PA (X.suite a ((a, oe) :: pn)) (e :: es) t) (hdb : (x == ("__debug__" : Str)) = false := by decide) (he : starEach (e :: es) X.env = (false, eval e X.env) :: starEach es X.env := by rfl) (hpl : (backTo pos (starEach es X.env)).any (·.1) = false := by rfl) :
    PE (X.suite a ((a, oe) :: pn)) (.Call (.Name x q) (e :: es) [] pos) (tCallS sp (fun _ _ _ _ => False) t) := by
  refine ⟨fun pins s σ H Q I h => ?_⟩
  refine wpAny_Call_Name_kw (ld_glob I hg hm ?_ hdb)
  refine PySem.W.callWith_K (h₀ := X.base) I.ok.mod.kin hk (thn (ha.run pos pins s σ H _ I h) fun us s1 ⟨vs, H1, I1, r, q⟩ => ⟨I1.kIn, ?_⟩) he hpl
  exact run_fnX (X := X) (pn := pn) F hr hz hf hb I1 r q
end
end L2H
namespace S3
open PySem PySem.Spec L2 L2H
/-- nothing is raised -/
def noEx (phi : List D → RC) : List D → RC := fun ds => match phi ds with
  | .ex _ _ => .no
  | r => r
def eCallH (phi : List D → RC) (ms : List Md) (a : AV) : EV := eCall (noEx phi) ms a
section
variable {Z : Wd} {F H : Hp} {N : En} {σ : L2.St} {W : WX}
theorem sp_noEx {ms : List Md} {phi : List D → RC} {vs : List V} {H : Hp} {Q : VK} {E E' : XK} (h : spOf Z ms (noEx phi) vs H Q E) : spOf Z ms phi vs H Q E' := by
  obtain ⟨F, ds, h1, h2, h3, P⟩ := h
  refine ⟨F, ds, h1, h2, h3, ?_⟩
  unfold noEx at P
  cases q : phi ds with
  | ex x o => rw [q] at P; exact P.elim
  | ok n d o => rw [q] at P; exact P
  | dp d o => rw [q] at P; exact P
  | no => rw [q] at P; exact P
end
/-- a def of the module, as an except suite may call it -/
structure FnTH (ca : Str → Option Addr) (P : Program) (w : World) (K : PySem.W.Frag) (mg : Str → Option Value) (base : Heap) (k : Nat) (n : Str) (ms : List Md) (phi : List D → RC) : Prop where
  ex : ∃ (f : Addr) (fd : FuncData) (ps : List Str), (∀ a cls d, FnHX P w K mg base (2 * k) f fd ps (spOf ⟨P, w, K, caX ca a cls d⟩ ms phi) a cls d) ∧ mg n = some (.ref f) ∧ PySem.W.keepIn K (.ref f) = true ∧ Binds K fd ps []
section
variable {P : Program} {w : World} {K : PySem.W.Frag} {mg : Str → Option Value} {base : Heap} {ca : Str → Option Addr}
theorem FnTH.zero {n : Str} {f : Addr} {fd : FuncData} {ps : List Str} {ms : List Md} {g : String} {tab : String → Option Def} (hf : mg n = some (.ref f)) (hk : PySem.W.keepIn K (.ref f) = true) (hb : Binds K fd ps []) : FnTH ca P w K mg base 0 n ms (sem tab 0 g) :=
  ⟨f, fd, ps, fun a cls d => ⟨fun vs H Q E ⟨_, _, _, _, _, z⟩ => z.elim, fun A outer s H args us vs Q oe _ _ _ _ _ _ _ _ ⟨_, _, _, _, _, z⟩ => z.elim⟩, hf, hk, hb⟩
theorem FnTH.succ {n : Str} {f : Addr} {fd : FuncData} {ps : List Str} {ms : List Md} {k : Nat} {g : String} {T : Def} {tab : String → Option Def} (h : ∀ a cls d, FnHX P w K mg base (2 * (k + 1)) f fd ps (spOf ⟨P, w, K, caX ca a cls d⟩ T.ms (T.run (sem tab k))) a cls d) (hf : mg n = some (.ref f)) (hk : PySem.W.keepIn K (.ref f) = true)
    (hb : Binds K fd ps []) (ht : tab g = some T) (hm : T.ms = ms := by rfl) : FnTH ca P w K mg base (k + 1) n ms (sem tab (k + 1) g) := by
  refine ⟨f, fd, ps, ?_, hf, hk, hb⟩
  subst hm
  have e : sem tab (k + 1) g = T.run (sem tab k) := by funext ds; simp only [sem, ht]
  rw [e]
  exact h
open PySem.Spec PyProof.Rows in
/-- THE RULE: a def of the text keeps the promise of its term, an exception being handled -/
theorem fn_okH {x qual : Str} {st : Stmt} {f : Addr} {fd : FuncData} {Nm ps : List Str} {k : Nat} {T : Def} {phi : String → List D → RC} {a : Addr} {cls : Value} {d : Option Addr} (Fn : L2.Fun K x qual st f fd) (S : FnScope Nm ps (defScope st)) (hps : ps.length = T.ms.length) (hn : Nm.length = T.n) (hm : T.ms.length ≤ T.n)
    (body : ∀ (cdv : Value) (A : Around) (outer : List PySem.Env) (s : Shared) (H : Hp) (oe : Obj), RoomH k (A.deeper (envOfC qual (defScope st) s.heap.objs.size f cdv)) → L2N.Zn cls d oe → (∃ ws, oe.data = .fields ws) →
      PySem.W.kdsCode K cdv = true → Bv (caX ca a cls d) (fun _ _ _ _ => False) ((cxOf (L2N.CX P w) P w K mg base Nm qual (defScope st) f cdv A outer s H (fun _ _ _ => False)).suite a [(a, oe)]) (defBody st) (T.body phi)) :
    FnHX P w K mg base (k + 1) f fd ps (spOf ⟨P, w, K, caX ca a cls d⟩ T.ms (T.run phi)) a cls d := by
  obtain ⟨oc, od, kV, doc, pm, an, cdv, ct, osl, rfl, lk, hcd⟩ := Fn.ex
  refine fn_ofX lk hcd S (fun vs H Q E ⟨F, ds, l, a, _⟩ => by rw [a.lens.1, hps]) fun A outer s H vs Q oe hr hz hf ⟨F, ds, l, ag, ap, P⟩ => ?_
  refine ⟨_, body cdv A outer s H oe hr hz hf (kdsCode_of hcd), ⟨F, H, mSet T.ms vs, mAt T.ms vs, fun _ => []⟩, F, startE T.ms ds T.n, start_ok l ag ap hn hm, ?_⟩
  unfold Def.run at P
  rw [if_pos ag.lens.2] at P
  exact body_end ag.lens.1 P
end
section
variable {ca : Str → Option Addr} {W : WX} {X : Cx} {a : Addr} {oe : Obj} {cls : Value} {d : Option Addr} {pn : List (Addr × Obj)} {e c iter : Expr} {es : List Expr} {s1 : List Stmt} {ga : AV} {fa fb : EV} {f : SV} {pos p : Pos}
theorem ev_callH {n : Str} {k : Nat} {ms : List Md} {phi : List D → RC} (G : FnTH ca X.prog X.w X.K X.mg X.base k n ms phi) (hr : RoomH (2 * k + 1) X.A) (hz : L2N.Zn cls d oe) (hf : ∃ ws, oe.data = .fields ws) (ha : Av (caX ca a cls d) W (X.suite a ((a, oe) :: pn)) (e :: es) ga) (hg : Gl X n := by rfl) (hdb : (n == ("__debug__" : Str)) = false := by decide)
    (he : starEach (e :: es) X.env = (false, eval e X.env) :: starEach es X.env := by rfl) (hpl : (backTo pos (starEach es X.env)).any (·.1) = false := by rfl) : Ev (caX ca a cls d) W (X.suite a ((a, oe) :: pn)) (.Call (.Name n p) (e :: es) [] pos) (eCallH phi ms ga) := by
  obtain ⟨f, fd, ps, G, hm, hk, hb⟩ := G.ex
  refine PE_imp (pe_callX (G a cls d) (hr.mono (Nat.le_succ _)) hz hf hg hm hk hb ha hdb he hpl) fun σ H Q h => ?_
  have h2 := call_rd h
  obtain ⟨N, F, env, S, P⟩ := h2
  refine ⟨N, F, env, S, ?_⟩
  cases q : ga env with
  | no => rw [q] at P; exact P
  | ex z e1 => rw [q] at P; exact P
  | ok rs e1 =>
    rw [q] at P
    exact fun vs F1 H1 f1 S1 hl => by
      have h3 := P vs F1 H1 f1 S1 hl
      dsimp only at h3
      rw [List.append_nil] at h3
      exact sp_noEx h3
/-- the text iter, walked within an except suite -/
abbrev WvH (ca : Str → Option Addr) (W : WX) (X : Cx) (tg iter : Expr) (w : WV) : Prop := L2H.PIH X tg iter (tWv (zw ca X) W w)
theorem wvH_any {tg : Expr} (h : Ev ca W X e fa) : WvH ca W X tg e (wAny fa) := PIH_imp (PIH_or (pih_list h) (PIH_or (pih_tup h) (pih_str h))) fun _ _ _ => wv_any_rd rfl
theorem wvH_r1 {tg : Expr} (hm : X.mg "range" = none) (h : Ev ca W X e fa) (hg : Gl X "range" := by rfl) (hs : starEach [e] X.env = (false, eval e X.env) :: starEach [] X.env := by rfl) : WvH ca W X tg (.Call (.Name "range" p) [e] [] pos) (wR1 fa) := PIH_imp (pi_range1H hg hm (pa_cons h pa_nil hs) (by rw [hs]; rfl)) fun _ _ _ => wv_r1_rd
theorem sv_forH {tmp : List Nat} {tt : Tg} {tg : TG} {w : WV} (hz : L2N.Zn cls d oe) (hf : ∃ ws, oe.data = .fields ws) (hg : PG (X.suite a ((a, oe) :: pn)) c tg) (tk : TgOk (zw ca (X.suite a ((a, oe) :: pn))) tg tt) (h : WvH ca W (X.suite a ((a, oe) :: pn)) c iter w) (hb : Bv ca W (X.suite a ((a, oe) :: pn)) s1 f)
    (hs : ∀ x, foldedSetIterable iter X.env x = pure x := by intro _; rfl) : Sv ca W (X.suite a ((a, oe) :: pn)) (.For c iter s1 [] pos) (sFor tmp tt w f) := PS_imp (L2H.ps_forH (fun e s' z => z.elim) (hot_suite hz hf) h hg hb hs) fun _ _ _ => st_for tk
end
theorem FnT.noEx {ca : Str → Option Addr} {P : Program} {w : World} {K : PySem.W.Frag} {mg : Str → Option Value} {base : Heap} {k : Nat} {n : Str} {ms : List Md} {phi : List D → RC} (G : FnT ca P w K mg base k n ms phi) : FnT ca P w K mg base k n ms (noEx phi) := by
  obtain ⟨f, fd, ps, F, h1, h2, h3⟩ := G.ex
  exact ⟨f, fd, ps, ⟨fun vs H Q E h => F.len vs H Q E (sp_noEx h), fun A outer s H args us vs Q E r e0 b rv h => F.run A outer s H args us vs Q E r e0 b rv (sp_noEx h)⟩, h1, h2, h3⟩
theorem hu_ofH {k : Nat} {A : PySem.Around} (hr : RoomH k A) : A.units + 1 < PySem.cLine := by have := hr.un; omega
theorem u65H {k : Nat} {A : PySem.Around} (hr : RoomH k A) : A.units + 65 < PySem.cLine := by have := hr.un; omega
end S3

/-! Y36: a list comprehension whose element may raise. -/
namespace L2
open PySem PySem.Spec PyProof.Rows
open Sem (wp)
theorem noteFrame_eq {env env' : PySem.Env} (h : env.frame = env'.frame) (e : Value) : noteFrame e env = noteFrame e env' := by
  unfold noteFrame PySem.frameOf
  rw [h]
theorem hide1_none {B : Heap} {C b : Addr} (h : B.get? b = none) : (PySem.W.hideAll B [C]).get? b = none := by
  cases q : (PySem.W.hideAll B [C]).get? b with
  | none => rfl
  | some o => rw [PySem.W.of_hideAll _ q] at h; cases h
theorem frames_but {B h h' : Heap} {C : Addr} : ∀ {l : List PySem.Env}, h.FunFrames B l → (∀ b, b ≠ C → h'.get? b = h.get? b) → (∀ b ∈ frs l, b ≠ C) → h'.FunFrames (PySem.W.hideAll B [C]) l
  | [], _, _, _ => trivial
  | env :: l, ⟨hk, ⟨L, o, hf, hn, ho, hd⟩, hr⟩, k, n => by
    have hL : L ≠ C := n L (by unfold frs; rw [List.filterMap_cons, hf]; exact List.mem_cons_self)
    exact ⟨hk, ⟨L, o, hf, hide1_none hn, (k L hL).trans ho, hd⟩, frames_but hr k fun b hb => n b (by unfold frs; rw [List.filterMap_cons, hf]; exact List.mem_cons_of_mem _ hb)⟩
section
variable {M : Model} {A : Around} {E : Value → Shared → Prop} {s : Shared} {env : PySem.Env} {outer : List PySem.Env} {L L0 a : Addr} {Z : Obj → Prop} {Q : Unit → Shared → Prop} {B : Heap}
/-- what another frame holds is noted -/
theorem looks_heldX (hZ : PXN.Steady1 Z) (hfr : A.frames = some (env :: outer)) (hf : env.frame = some L) (hne : L0 ≠ L) (hfl : HandSPX.HeldZ B (env :: outer) a Z L0 s.heap)
    (hQ : ∀ h', HandSPX.HeldZ B (env :: outer) a Z L h' → s.heap.UpToSlots h' → Q () { s with heap := h' }) : wpAny M A (noteFrame (.ref a) env) Q E s := by
  obtain ⟨hkb, hen, hl, oe, vs, T, oT, ts, he, hz, hd, h1, hnT, hTe, hT, hdT, h3⟩ := hfl
  unfold noteFrame
  simp only [hf]
  refine wpAny_bind (wpAny_field he hd h1 ?_)
  rw [if_pos (show (Value.ref T != Value.none) = true from by simp)]
  refine wpAny_bind (wpAny_field hT hdT h3 ?_)
  rw [if_neg (show ¬ ((rawInt L0 == rawInt L) = true) from by simp [rawInt]; intro z; exact hne (by exact_mod_cast z))]
  refine wpAny_bind (wpAny_setField hT hdT (Array.getElem?_eq_some_iff.mp h3).1 ?_)
  have other : ∀ b, b ≠ T → (s.heap.update T (Obj.mapFields (·.setIfInBounds 3 Value.none))).get? b = s.heap.get? b := fun b hb => Heap.get?_update_other _ _ (Ne.symm hb)
  have noRecord : ∀ b o, s.heap.get? b = some o → (∀ vs, o.data ≠ .fields vs) → b ≠ T := fun b o hb hnf q => by
    rw [q, hT] at hb; injection hb with hb; subst hb; exact hnf ts hdT
  refine PXN.wpAny_entryZ hZ hfr (hl.of_keeps fun b o hb hnf => ⟨o, (other b (noRecord b o hb hnf)).trans hb, rfl⟩) hf ((other a (Ne.symm hTe)).trans he)
    (fun b o hbo => (other b fun q => by rw [q, hnT] at hbo; cases hbo).trans (hkb b o hbo)) hen hd (Array.getElem?_eq_some_iff.mp h1).1 hz fun h' hN => ?_
  obtain ⟨x1, x2, x3, x4⟩ := hN
  exact hQ h' ⟨x1, hen, x2, x3⟩ fun b o hb hnf => x4 b o ((other b (noRecord b o hb hnf)).trans hb) hnf
theorem note_any (hZ : PXN.Steady1 Z) (hfr : A.frames = some (env :: outer)) (hf : env.frame = some L) (x : Sky B (env :: outer) a Z L0 s.heap)
    (hQ : ∀ h', HandSPX.HeldZ B (env :: outer) a Z L h' → s.heap.UpToSlots h' → Q () { s with heap := h' }) : wpAny M A (noteFrame (.ref a) env) Q E s := by
  rcases x with ⟨hB, hn, hl, oe, vs, he, hz, hd, h1⟩ | fl | hh
  · exact PXN.look_newZ hZ hfr hl hf he hB hn hd h1 hz hQ
  · exact PXN.looks_onZ hZ hfr hf fl hQ
  · by_cases e : L0 = L
    · subst e
      exact HandSPX.againZ hf hh.2.2.2 (hQ s.heap hh (Heap.UpToSlots.refl _))
    · exact looks_heldX hZ hfr hf e hh hQ
end
section
variable {M : Model} {A : Around} {E : Value → Shared → Prop} {s : Shared} {env : PySem.Env}
def postX (M : Model) (A : Around) (E : Value → Shared → Prop) (Q : Value → Shared → Prop) (acc : Value) (cenv : PySem.Env) (r : Result) (s' : Shared) : Prop :=
  match r with
  | .ok _ => ∃ m, s'.heap.Ns cenv.locals m ∧ ∀ h', Heap.SameBut cenv.locals s'.heap h' → Q acc { s' with heap := h' }
  | .error x => ∃ m, s'.heap.Ns cenv.locals m ∧ ∀ h', Heap.SameBut cenv.locals s'.heap h' → ∀ cenv' : PySem.Env, cenv'.frame = cenv.frame → wpAny M A (passOn "comprehension.variables-let-go" x cenv' : Sem Value) (fun _ _ => False) E { s' with heap := h' }
theorem comprehension_X {e : Expr} {scope : Scope} {pos : Pos} {newAcc first : Sem Value} {g : Comprehension} {gs : List Comprehension} {cl : List (Str × Addr)} {Q : Value → Shared → Prop}
    (hcl : clausesOf e = g :: gs) (hs : ∀ x, foldedSetIterable g.iter env x = pure x) (hclos : closureFor scope env = pure cl)
    (hkind : scope.kind = .function) (hnames : ∀ x ∈ scope.names, x.2 = .local → scope.names.lookup x.1 = some .local)
    (h : wpAny M A first (fun x s₁ => wpAny M A (pyIter x) (fun it s₂ => wpAny M A newAcc (fun acc s₃ =>
      wpAny M A (newFunctionEnv scope env.globals cl [] env.qual none .none (some env)) (fun cenv s₄ =>
        codeAny M A (.compStart e 0 it acc { cenv with scope := relabel scope env }) (postX M A E Q acc cenv) s₄) E s₃) E s₂) E s₁) E s) :
    wpAny M A (comprehension e scope env pos newAcc false first none) Q E s := by
  unfold comprehension
  rw [hclos, hcl]
  refine wpAny_bind (wpAny_mono h (fun x s₁ h₁ => wpAny_bind (wpAny_standAt (wpAny_bind (wpAny_of_eq (hs x) (wpAny_bind (wpAny_holding (wpAny_mono h₁ (fun it s₂ h₂ =>
    wpAny_standIf (wpAny_bind (wpAny_mono h₂ (fun acc s₃ h₃ => wpAny_bind (wpAny_pure (wpAny_bind (wpAny_mono h₃ (fun cenv s₄ h₄ => ?_) fun _ _ h' => h')))) fun _ _ h' => h')))
      fun _ _ h' => h'))))))) fun _ _ h' => h')
  dsimp only
  have hv : ∀ x ∈ (scope.names.filter fun x => (x.2 == .local || x.2 == .cell) && x.1 != (".0" : Str)).reverse, x.2 = .local →
      Env.kindOf { cenv with scope := relabel scope env } x.1 = some .local := fun x hx hl => lookup_relabel_local (hnames x (List.mem_filter.mp (List.mem_reverse.mp hx)).1 hl)
  refine wpAny_holding (wpAny_bind (wpAny_attempt (wpAny_holding (wpAny_run (codeAny_mono h₄ fun r s' hr => ?_)))))
  cases r with
  | ok f =>
    obtain ⟨m, hn, hr⟩ := hr
    exact wpAny_bind (wpAny_holding (wpAny_comp_letGo (cenv := { cenv with scope := relabel scope env }) hkind _ s' m hv hn fun h' m' _ hs' => wpAny_pure (hr h' hs')))
  | error x =>
    obtain ⟨m, hn, hr⟩ := hr
    exact wpAny_bind (wpAny_holding (wpAny_comp_letGo (cenv := { cenv with scope := relabel scope env }) hkind _ s' m hv hn fun h' m' _ hs' => wpAny_mono (hr h' hs' _ rfl) (fun _ _ f => f.elim) fun _ _ y => y))
end
section
variable {X : Cx}
/-- [elt for target in iter if ..], the element may raise -/
def tLcX (W : WX) (wi : TI) (g : TG) (tt : TT) (te : WX → TE) (vs : List Nat) : TE := fun σ H Q => wi σ H fun J H1 => ∀ D, H1 D = none → ∃ Wm : Nat → Nat → Hp → Prop, (∃ m, Wm 0 m (upd H1 D (.lst []))) ∧ ∀ i m H, Wm i m H →
  (J.stop i H ∧ Q (.ref D) H) ∨ (J.go i H ∧ ∃ Nx : Hp → Prop, (∀ H', Nx H' → ∃ m', m' < m ∧ Wm (i + 1) m' H') ∧ ∀ x H', J.yld i H x H' → g x (wipe σ vs) H' fun σ2 H2 => wipe σ2 vs = wipe σ vs ∧ tt σ2 H2 fun b H3 =>
    if b = true then te (fun cls d _ H => W cls d σ H) σ2 H3 fun y H4 => ∃ acc, H4 D = some (.lst acc) ∧ acc.length < sizeLine ∧ Nx (upd H4 D (.lst (acc ++ [y]))) else Nx H3)
theorem lc_coreX {W : WX} {pins : List (Addr × Obj)} {s : Shared} {σ : St} {H : Hp} {Q : VK} {elt tg iter : Expr} {ifs : List Expr} {scope : Scope} {own : List (Str × Nat)} {pos pos' : Pos} {wi : TI} {g : TG} {tt : TT} {te : WX → TE} {Qf : Value → Shared → Prop}
    (hst : X.stack = X.env :: X.outer) (hfr : X.env.frame = some X.env.locals) (tk : L2N.Takes X W)
    (hc : X.calm = true) (hN : X.N.Nodup) (I : Inv X pins σ H s) (hi : PI X tg iter wi) (ok : BlkOk X.N X.env.scope scope own)
    (hg : ∀ (s : Shared) (H : Hp) (C : Addr) (cl : List (Str × Addr)) (fp : List Addr), PG (X.blk s H scope (compEnvC scope cl C X.env) fp) tg g) (ht : ∀ (s : Shared) (H : Hp) (C : Addr) (cl : List (Str × Addr)) (fp : List Addr), PTs (X.blk s H scope (compEnvC scope cl C X.env) fp) ifs tt)
    (he : ∀ (s : Shared) (H : Hp) (C : Addr) (cl : List (Str × Addr)) (fp : List Addr) (xe : Value → Shared → Prop) (Wb : WX), L2N.Takes ((X.blk s H scope (compEnvC scope cl C X.env) fp).wish xe) Wb → PE ((X.blk s H scope (compEnvC scope cl C X.env) fp).wish xe) elt (te Wb)) (hs : ∀ x, foldedSetIterable iter X.env x = pure x)
    (h : tLcX W wi g tt te (own.map (·.2)) σ H Q)
    (hRR : ∀ D C s' m H', Inv X pins σ H' s' → Q (.ref D) H' → s'.heap.Ns C m → FpOk X pins H' C → ∀ h', Heap.SameBut C s'.heap h' → Qf (.ref D) { s' with heap := h' }) :
    wpAny (model X.prog X.w) X.A (comprehension (.ListComp elt [⟨tg, iter, ifs, 0⟩] scope pos) scope X.env pos' (newList []) false (eval iter X.env) none) Qf X.xe s := by
  have hfree : ∀ y ∈ scope.names, y.2 = .free → ∃ c, X.env.cells.lookup y.1 = some c := fun y hy e => by
    rcases ok.free y hy e with k | k
    · exact I.ok.has _ (.inl k)
    · exact I.ok.has _ (.inr k)
  refine comprehension_X rfl hs (closure_ok hfree) ok.kind (fun y hy e => by rw [ok.uniq y hy, e])
    (thn (hi.run pins s σ H _ I h) fun xv s1 hx => thn hx fun itv s2 h2 => ?_)
  obtain ⟨it, fp, tn, J, H2, e, I2, T, st2, f2, q⟩ := h2
  subst e
  refine wpAny_newObj_type (newEnv_comp ?_) (by show 0 ≤ sizeLine; decide)
  generalize hD : s2.heap.objs.size = D
  have hDn : H2 D = none := I2.hok.fresh (Nat.le_of_eq hD)
  obtain ⟨Wm, ⟨m0, w0⟩, turn⟩ := q D hDn
  generalize hs3 : ({ s2 with heap := s2.heap.push { cls := .type "list", data := .seq ([] : List Value).toArray } } : Shared) = s3
  have I3 : Inv X pins σ (upd H2 D (.lst [])) s3 := by
    rw [← hs3]
    refine I2.laid (t' := s2.toks) (fun b o e => Heap.get?_push_of_some _ e) (Nat.le_of_eq hD) ⟨Nat.zero_le _, [], 0, .nil, ?_⟩
    rw [← hD]
    exact Heap.get?_push_size _ rfl
  have h3 : s3.heap = s2.heap.push { cls := .type "list", data := .seq ([] : List Value).toArray } := by rw [← hs3]
  have sz : ∀ b ∈ fp, b < s2.heap.objs.size := fun b hb => by
    obtain ⟨o, e, _⟩ := T.obj _ _ st2 b hb
    exact Heap.lt_size e
  have f3 : ∀ b ∈ fp, FpOk X pins (upd H2 D (.lst [])) b ∧ b < s3.heap.objs.size := fun b hb => by
    have hlt := sz b hb
    refine ⟨⟨?_, (f2 b hb).2⟩, by rw [h3, Heap.size_push]; exact Nat.lt_succ_of_lt hlt⟩
    rw [upd_ne (by rw [← hD]; exact Nat.ne_of_lt hlt)]
    exact (f2 b hb).1
  have st3 : tn 0 s3.heap := T.keep _ _ _ st2 fun b _ o e => by rw [h3]; exact Heap.get?_push_of_some _ e
  have I4 := block_start I3 ok hN f3
  have pg := hg s3 (upd H2 D (.lst [])) s3.heap.objs.size (cellsFrom (s3.heap.objs.size + 1) scope.names (cloFrom X.env.cells scope.names [])) fp
  have pt := ht s3 (upd H2 D (.lst [])) s3.heap.objs.size (cellsFrom (s3.heap.objs.size + 1) scope.names (cloFrom X.env.cells scope.names [])) fp
  have pe := he s3 (upd H2 D (.lst [])) s3.heap.objs.size (cellsFrom (s3.heap.objs.size + 1) scope.names (cloFrom X.env.cells scope.names [])) fp
  show codeAny _ _ (.compStart (.ListComp elt [⟨tg, iter, ifs, 0⟩] scope pos) 0 (.ref it) (.ref D) (compEnvC scope (cellsFrom (s3.heap.objs.size + 1) scope.names (cloFrom X.env.cells scope.names [])) s3.heap.objs.size X.env))
    (postX (model X.prog X.w) X.A X.xe Qf (.ref D) (compEnvC scope (cellsFrom (s3.heap.objs.size + 1) scope.names (cloFrom X.env.cells scope.names [])) s3.heap.objs.size X.env)) { s3 with heap := pushCells (s3.heap.push { cls := .type "dict", data := .dict #[] }) scope.names }
  have nfp : ∀ b ∈ fp, (upd H2 D (.lst [])) b = none := fun b hb => (f3 b hb).1.1
  generalize hce : compEnvC scope (cellsFrom (s3.heap.objs.size + 1) scope.names (cloFrom X.env.cells scope.names [])) s3.heap.objs.size X.env = ce at I4 pg pt pe ⊢
  have cL : ce.locals = s3.heap.objs.size := by subst hce; rfl
  have cF : ce.frame = X.env.frame := by subst hce; rfl
  generalize hH3 : upd H2 D (.lst []) = H3 at I3 I4 pg pt pe w0 nfp f3
  generalize hs4 : ({ s3 with heap := pushCells (s3.heap.push { cls := .type "dict", data := .dict #[] }) scope.names } : Shared) = s4 at I4 ⊢
  have st4 : tn 0 s4.heap := T.keep _ _ _ st3 fun b _ o e => by rw [← hs4]; exact pushCells_keeps _ _ _ _ (Heap.get?_push_of_some _ e)
  have stat : ∀ {σ' : St} {H' : Hp} {s' : Shared}, Inv (X.blk s3 H3 scope ce fp) [] σ' H' s' → (∀ b ∈ fp, H' b = none) → ∀ b ∈ fp, FpOk (X.blk s3 H3 scope ce fp) [] H' b := fun {σ' H' s'} I' hn b hb =>
    ⟨hn b hb, (I'.ok.exf b hb).1, I'.ok.exfs b hb, .inl hb, fun x c e => (I'.ok.exf b hb).2 x c e, fun p hp => absurd (show p ∈ ([] : List (Addr × Obj)) ++ [] from hp) (by simp)⟩
  -- an exception of the element
  have catch_ : ∀ u s', L2N.XE (X.blk s3 H3 scope ce fp) (fun cls d _ H => W cls d σ H) u s' → notedBy (model X.prog X.w) X.A ce (fun e s' => postX (model X.prog X.w) X.A X.xe Qf (.ref D) ce (.error e) s') u s' := by
    rintro u s' ⟨a, B, sI, pq, σq, Hq, cls, d, rfl, Jq, nb, up, sky, na, os, ag, w⟩
    have I7 : Inv X pins σ Hq sI := I3.call' (ch := fp) Jq.os Jq.base Jq.hok Jq.bare fun b hb => ⟨(f3 b hb).1.2.2.2.1, (f3 b hb).1.2.1, (f3 b hb).1.2.2.2.2.1, (f3 b hb).1.2.2.2.2.2⟩
    have nC : Hq ce.locals = none := Jq.free
    have fC : FpOk X pins Hq ce.locals := by
      have z := nC
      rw [cL] at z ⊢
      exact I3.fpOk (Nat.le_refl _) z
    have hfrA : X.A.frames = some (X.env :: X.outer) := by rw [I.ok.frames, hst]
    have sky' : Sky B (X.env :: X.outer) a (L2N.Zn cls d) ce.locals s'.heap := by rw [← hst]; exact sky
    show wpAny _ _ (noteFrame (.ref a) ce) _ _ _
    rw [noteFrame_eq cF]
    refine note_any L2N.Zn.steady hfrA hfr sky' fun g3 hh up3 => ?_
    obtain ⟨m, hns, _⟩ := Jq.loc
    obtain ⟨oC, es, ep, hoC, rC⟩ := id hns
    have dC : ∀ vs, oC.data ≠ .fields vs := fun vs z => by
      obtain ⟨hd, _⟩ := rC
      rw [hd] at z; cases z
    obtain ⟨sl1, e1⟩ := up ce.locals oC hoC dC
    obtain ⟨sl2, e2⟩ := up3 ce.locals { oC with slots := sl1 } e1 dC
    refine ⟨m, ⟨_, es, ep, e2, rC⟩, fun g4 sb cenv' hcf => ?_⟩
    obtain ⟨k1, k2, k3, oe, vs, TT, oT, ts, he1, hz1, hd1, h11, hnT, hTe, hT, hdT, h31⟩ := id hh
    have nf : ∀ {b : Addr} {o : Obj} {vs : Array Value}, g3.get? b = some o → o.data = .fields vs → b ≠ ce.locals := fun {b o vs} e dd z => by
      rw [z, e2] at e; cases e
      exact dC _ dd
    have aC : a ≠ ce.locals := nf he1 hd1
    have TC : TT ≠ ce.locals := nf hT hdT
    have held4 : HandSPX.HeldZ (PySem.W.hideAll B [ce.locals]) (X.env :: X.outer) a (L2N.Zn cls d) X.env.locals g4 := by
      refine ⟨fun b o e => ?_, hide1_none k2, frames_but k3 (fun b hb => sb.2 b hb) (fun b hb z => ?_), oe, vs, TT, oT, ts, (sb.2 a aC).trans he1, hz1, hd1, h11, hide1_none hnT, hTe, (sb.2 TT TC).trans hT, hdT, h31⟩
      · have nbC : b ≠ ce.locals := fun z => by rw [z, PySem.W.hideAll_none _ List.mem_cons_self] at e; cases e
        exact (sb.2 b nbC).trans (k1 b o (PySem.W.of_hideAll _ e))
      · rw [z] at hb
        have hb' : ce.locals ∈ frs X.stack := by rw [hst]; exact hb
        rcases List.mem_cons.mp (I.stkSub _ hb') with z | z
        · exact fC.2.1 z
        · exact fC.2.2.1 z
    have I8 : Inv X pins σ Hq { sI with heap := PySem.W.hideAll sI.heap [ce.locals] } := by
      obtain ⟨q0, q1, q2, q3, q4, q5⟩ := fC
      exact I7.turned (t' := sI.toks) (fun b o hb e => PySem.W.hideAll_get _ e (by simpa using hb)) q0 q1 q3 q4 q5
    have upA : (PySem.W.hideAll sI.heap [ce.locals]).UpToSlots g4 := fun b o e dd => by
      have nbC : b ≠ ce.locals := fun z => by rw [z, PySem.W.hideAll_none _ List.mem_cons_self] at e; cases e
      obtain ⟨sl, y1⟩ := up b o (PySem.W.of_hideAll _ e) dd
      obtain ⟨sl2, y2⟩ := up3 b _ y1 dd
      exact ⟨sl2, (sb.2 b nbC).trans y2⟩
    have ha4 : g4.get? a = some oe := (sb.2 a aC).trans he1
    unfold PySem.passOn
    refine wpAny_bind (wpAny_field ha4 hd1 h11 ?_)
    rw [if_neg (show ¬ ((Value.ref TT == Value.none) = true) from by simp)]
    have fin : wpAny (model X.prog X.w) X.A (setFlight (.ref a) cenv'.frame) (fun _ s5 => wpAny (model X.prog X.w) X.A (throw (.ref a) : Sem Value) (fun _ _ => False) X.xe s5) X.xe { s' with heap := g4 } := by
      rw [hcf, cF, hfr]
      refine HandSPX.setFlight_anyZ held4.1 held4.2.2.1 held4.2.2.2 fun h5 y1 y2 y3 y4 => wpAny_throw (tk _ _ ?_)
      exact ⟨a, PySem.W.hideAll B [ce.locals], { sI with heap := PySem.W.hideAll sI.heap [ce.locals] }, pins, σ, Hq, cls, d, rfl, I8, fun b o e hb => by
        have nbC : b ≠ ce.locals := fun z => by rw [z, PySem.W.hideAll_none _ List.mem_cons_self] at e; cases e
        exact PySem.W.hideAll_get _ (nb b o (PySem.W.of_hideAll _ e) hb) (by simpa using nbC), upA.trans y4, .inr (.inr (by rw [hst]; exact ⟨y1, held4.2.1, y2, y3⟩)), na, os, ag, w⟩
    first
      | exact wpAny_bind (wpAny_pure (wpAny_bind fin))
      | exact wpAny_bind fin
  have tkB : L2N.Takes ((X.blk s3 H3 scope ce fp).wish (fun u s' => L2N.XE (X.blk s3 H3 scope ce fp) (fun cls d _ H => W cls d σ H) u s')) (fun cls d _ H => W cls d σ H) :=
    fun u s' ⟨a, B, sI, pq, σq, Hq, cls, d, e, Jq, r⟩ => ⟨a, B, sI, pq, σq, Hq, cls, d, e, Jq.unwish, r⟩
  have pe := pe _ _ tkB
  have loop : codeAny (model X.prog X.w) X.A (.compLoop (.ListComp elt [⟨tg, iter, ifs, 0⟩] scope pos) 0 (.ref it) (.ref D) ce) (postX (model X.prog X.w) X.A X.xe Qf (.ref D) ce) s4 := by
    refine compLoop_any (fun n s' => ∃ i H', Inv (X.blk s3 H3 scope ce fp) [] (wipe σ (own.map (·.2))) H' s' ∧ tn i s'.heap ∧ (∀ b ∈ fp, H' b = none) ∧ Wm i n H') ?_ m0 ⟨0, H3, I4, st4, nfp, w0⟩
    rintro n s5 ⟨i, H5, I5, st5, n5, w5⟩
    rcases turn i n H5 w5 with ⟨stop, qq⟩ | ⟨go, Nx, hNx, step⟩
    · have td := T.done (X.blk s3 H3 scope ce fp) rfl rfl rfl hc i [] s5 _ H5 (fun _ _ => False) I5 (stat I5 n5) st5 stop
      refine thnF td fun r s6 ⟨hr, I6⟩ => ?_
      subst hr
      have I7 : Inv X pins σ H5 s6 := I3.call' (ch := fp) I6.os I6.base I6.hok I6.bare fun b hb => ⟨(f3 b hb).1.2.2.2.1, (f3 b hb).1.2.1, (f3 b hb).1.2.2.2.2.1, (f3 b hb).1.2.2.2.2.2⟩
      have nC : H5 s3.heap.objs.size = none := by
        have z : H5 ce.locals = none := I6.free
        rw [cL] at z
        exact z
      obtain ⟨m, hn, _⟩ := I6.loc
      have hn : s6.heap.Ns ce.locals m := hn
      have hn' := hn
      rw [cL] at hn'
      refine ⟨m, hn, fun h' sb => ?_⟩
      rw [cL] at sb
      exact hRR D s3.heap.objs.size s6 m H5 I7 qq hn' (I3.fpOk (Nat.le_refl _) nC) h' sb
    · have ti := T.item (X.blk s3 H3 scope ce fp) rfl rfl rfl hc i [] s5 _ H5 (fun _ _ => False) I5 (stat I5 n5) st5 go
      refine thnF ti fun r s6 ⟨u, hr, h6⟩ => ?_
      subst hr
      refine thnF h6 fun _ s7 ⟨x, H7, I7, r7, y7, st7, n7⟩ => ?_
      have I7' := I7.pinned (stat I7 n7) (T.obj _ _ st7)
      refine thnF (pg.run _ s7 _ H7 x u _ I7' r7 (step x H7 y7)) fun _ s8 ⟨σ8, H8, I8, hw8, q8⟩ => ?_
      refine thnF (pt.run _ s8 σ8 H8 _ I8 q8) fun b s9 ⟨H9, I9, q9⟩ => ?_
      have fin : ∀ {s' : Shared} {H' : Hp}, Inv (X.blk s3 H3 scope ce fp) ([] ++ pinsAt fp s7.heap) σ8 H' s' → Nx H' → ∃ m, m < n ∧ ∃ i H', Inv (X.blk s3 H3 scope ce fp) [] (wipe σ (own.map (·.2))) H' s' ∧ tn i s'.heap ∧ (∀ b ∈ fp, H' b = none) ∧ Wm i m H' := fun {s' H'} I' nx => by
        obtain ⟨m', hm, w'⟩ := hNx H' nx
        have pin' : ∀ b ∈ fp, ∀ o, s7.heap.get? b = some o → s'.heap.get? b = some o ∧ H' b = none := fun b hb o e =>
          let z := I'.pin (b, o) (List.mem_append_right _ (List.mem_append_right _ (mem_pinsAt hb e)))
          ⟨z.1, z.2.1⟩
        have hl : (wipe σ (own.map (·.2))).length = σ8.length := by rw [← hw8, wipe_length]
        refine ⟨m', hm, i + 1, H', (I'.unpinned (pins := [])).weak hl (fun j v e => ?_), T.keep _ _ _ st7 fun b hb o e => (pin' b hb o e).1, fun b hb => ?_, w'⟩
        · rw [← hw8] at e
          exact (wipe_some e).1
        · obtain ⟨o, e, _⟩ := T.obj _ _ st7 b hb
          exact (pin' b hb o e).2
      cases b with
      | false =>
        simp only [Bool.false_eq_true, if_false] at q9 ⊢
        exact fin I9 q9
      | true =>
        simp only [if_true] at q9 ⊢
        refine wpAny_mono (pe.run _ s9 σ8 H9 _ (I9.wish _) q9) (fun z s10 ⟨yv, H10, I10, r10, acc, hD10, hz10, nx⟩ => ?_) fun u s' xx => catch_ u s' xx
        exact app_ok (X := X.blk s3 H3 scope ce fp) I10.unwish hD10 hz10 r10 fun s11 I11 => fin I11 nx
  exact codeAny_compStart_list loop (T.self X.A 0 _ _ _ st4 loop)
theorem pe_lcX {W : WX} {elt tg iter : Expr} {ifs : List Expr} {scope : Scope} {own : List (Str × Nat)} {pos : Pos} {wi : TI} {g : TG} {tt : TT} {te : WX → TE} (hst : X.stack = X.env :: X.outer) (hfr : X.env.frame = some X.env.locals) (tk : L2N.Takes X W) (hc : X.calm = true) (hN : X.N.Nodup) (hi : PI X tg iter wi) (ok : BlkOk X.N X.env.scope scope own)
    (hg : ∀ (s : Shared) (H : Hp) (C : Addr) (cl : List (Str × Addr)) (fp : List Addr), PG (X.blk s H scope (compEnvC scope cl C X.env) fp) tg g) (ht : ∀ (s : Shared) (H : Hp) (C : Addr) (cl : List (Str × Addr)) (fp : List Addr), PTs (X.blk s H scope (compEnvC scope cl C X.env) fp) ifs tt)
    (he : ∀ (s : Shared) (H : Hp) (C : Addr) (cl : List (Str × Addr)) (fp : List Addr) (xe : Value → Shared → Prop) (Wb : WX), L2N.Takes ((X.blk s H scope (compEnvC scope cl C X.env) fp).wish xe) Wb → PE ((X.blk s H scope (compEnvC scope cl C X.env) fp).wish xe) elt (te Wb)) (hs : ∀ x, foldedSetIterable iter X.env x = pure x := by intro _; rfl) :
    PE X (.ListComp elt [⟨tg, iter, ifs, 0⟩] scope pos) (tLcX W wi g tt te (own.map (·.2))) := by
  refine ⟨fun pins s σ H Q I h => ?_⟩
  rw [eval_ListComp]
  refine lc_coreX hst hfr tk hc hN I hi ok hg ht he hs h fun D C s' m H' I' q hn f h'' sb => ?_
  obtain ⟨f0, f1, f2, f3, f4, f5⟩ := f
  exact ⟨.ref D, H', I'.turned (t' := s'.toks) (fun b o hb e => (sb.2 b hb).trans e) f0 f1 f3 f4 f5, rfl, q⟩
end
end L2

/-! Y37: a list comprehension whose element may raise, in the language of trees. -/
namespace S3
open PySem PySem.Spec L2
def lcLX (t : Tg) (c : TV) (f : EV) : List D → Env → List D → Option (Exn ⊕ List D)
  | [], _, acc => some (.inr acc)
  | d :: ds, e, acc => (match tgt t d e with
    | some e1 => (match c e1 with
      | .ok true e2 => (match f e2 with
        | .ok r e3 => (match stl r e3 with
          | some (x, _) => lcLX t c f ds e (acc ++ [x])
          | none => none)
        | .ex x _ => some (.inl x)
        | .no => none)
      | .ok false _ => lcLX t c f ds e acc
      | _ => none)
    | none => none)
/-- [f for t in w if c], f may raise -/
def eLcX (own : List Nat) (t : Tg) (w : WV) (c : TV) (f : EV) : EV := fun e => match w e with
  | .ok xs e1 => if xs.length ≤ 16777216 then (match lcLX t c f xs (wipeE (lock e1) own) [] with
    | some (.inr ys) => .ok (.nw (.lst ys)) e1
    | some (.inl x) => .ex x e1
    | none => .no) else .no
  | .ex x e1 => .ex x e1
  | .no => .no
def outX (e : Env) : Exn ⊕ List D → RE
  | .inr ys => .ok (.nw (.lst ys)) e
  | .inl x => .ex x e
section
variable {Z : Wd} {F F' H H' : Hp} {N : En} {σ : L2.St} {e e' : Env} {v x y : V} {W : WX} {E : Ends}
theorem lcX_sound {g : TG} {t : Tg} {own : List Nat} {c : TV} {f : EV} {J : It} {ds : List D} {out : Exn ⊕ List D} {Q : VK} (tk : TgOk Z g t) (sub : ∀ i ∈ tgIx t, i ∈ own) (S : SOk Z N F H σ e) (wk : WalkOk Z N F J ds)
    (hz : ds.length ≤ 16777216) (hl : lcLX t c f ds (wipeE (lock e) own) [] = some out) (P : PostE Z N F σ W Q (outX e out)) : ∀ A, H A = none →
    ∃ Wm : Nat → Nat → Hp → Prop, (∃ m, Wm 0 m (upd H A (.lst []))) ∧ ∀ i m H, Wm i m H → (J.stop i H ∧ Q (.ref A) H) ∨ (J.go i H ∧ ∃ Nx : Hp → Prop, (∀ H', Nx H' → ∃ m', m' < m ∧ Wm (i + 1) m' H') ∧
      ∀ x H', J.yld i H x H' → g x (wipe σ own) H' fun σ2 H2 => wipe σ2 own = wipe σ own ∧ tTv Z W0 c σ2 H2 fun b H3 =>
        if b = true then tEv Z (fun cls d _ H => W cls d σ H) f σ2 H3 fun y H4 => ∃ acc, H4 A = some (.lst acc) ∧ acc.length < sizeLine ∧ Nx (upd H4 A (.lst (acc ++ [y]))) else Nx H3) := by
  intro A hA
  refine ⟨fun i m Hx => m = ds.length - i ∧ i ≤ ds.length ∧ ∃ F' Hm acc accD, Same F F' ∧ SOk Z N F' Hm σ e ∧ Hm A = none ∧ Hx = upd Hm A (.lst acc) ∧ RpA Z F' acc accD ∧ accD.length ≤ i ∧ lcLX t c f (ds.drop i) (wipeE (lock e) own) accD = some out,
    ⟨ds.length, rfl, Nat.zero_le _, F, H, [], [], Same.refl _, S, hA, rfl, .nil, Nat.le_refl _, hl⟩, ?_⟩
  rintro i m _ ⟨rfl, hi, F1, Hm, acc, accD, f1, S1, nA, rfl, ra, hacc, hl1⟩
  have SH : SOk Z N F1 (upd Hm A (.lst acc)) σ e := S1.gr (Gr.lay S1.le nA)
  obtain ⟨w1, w2⟩ := wk F1 _ σ e SH f1 i
  by_cases hlt : i < ds.length
  · have ed : ds.drop i = ds[i] :: ds.drop (i + 1) := List.drop_eq_getElem_cons hlt
    have ei : ds[i]? = some ds[i] := List.getElem?_eq_getElem hlt
    rw [ed] at hl1
    generalize ds[i] = d at hl1 ei
    obtain ⟨go, yl⟩ := w1 d ei
    refine .inr ⟨go, fun Hx => ∃ F' Hm acc accD, Same F F' ∧ SOk Z N F' Hm σ e ∧ Hm A = none ∧ Hx = upd Hm A (.lst acc) ∧ RpA Z F' acc accD ∧ accD.length ≤ i + 1 ∧ lcLX t c f (ds.drop (i + 1)) (wipeE (lock e) own) accD = some out,
      fun H' h => ⟨ds.length - (i + 1), by omega, rfl, hlt, h⟩, fun x H2 hy => ?_⟩
    obtain ⟨F2, g2, r2⟩ := yl x H2 hy
    have S2 := SH.gr g2
    have S3' := S2.lockd.wipe2 own
    unfold lcLX at hl1
    cases q : tgt t d (wipeE (lock e) own) with
    | none => rw [q] at hl1; cases hl1
    | some e2 =>
      rw [q] at hl1
      dsimp only at hl1
      refine tk ⟨F2, H2, [], fun _ => none, fun _ => []⟩ F2 H2 (wipe σ own) (wipeE (lock e) own) x d e2 _ S3' r2 q fun σ2 S4 off => ⟨by rw [wipe_off off sub, wipe_wipe], ⟨F2, H2, [], fun _ => none, fun _ => []⟩, F2, e2, S4, ?_⟩
      have A2 : H2 A = some (.lst acc) := g2.h _ _ upd_same
      have ntA : NT (HO.lst acc) := fun _ z => by cases z
      have FA : F2 A = none := g2.nf A _ upd_same ntA (none_le S1.le nA)
      have back : ∀ {F3 H3 : Hp} {σ3 : L2.St} {e3 : Env}, SOk Z ⟨F2, H2, [], fun _ => none, fun _ => []⟩ F3 H3 σ3 e3 → H3 A = some (.lst acc) ∧ F3 A = none ∧ ∃ H3m : Hp, SOk Z N F3 H3m σ e ∧ H3m A = none ∧ ∀ o, upd H3 A o = upd H3m A o := by
        intro F3 H3 σ3 e3 T
        have k1 : H3 A = some (.lst acc) := T.h0 A _ A2 (by simp)
        have k2 : F3 A = none := T.nf A _ A2 ntA FA
        refine ⟨k1, k2, fun b => if b = A then none else H3 b, S1.grow (g2.f.trans T.f0) (fun b o hb => ?_) (fun b o hb => ?_) (fun b u hb nt n => ?_), if_pos rfl, fun o => ?_⟩
        · have nb : b ≠ A := ne_of_none hb nA
          rw [if_neg nb]
          exact T.h0 b o (g2.h _ _ (by rw [upd_ne nb]; exact hb)) (by simp)
        · have nb : b ≠ A := fun z => by subst z; rw [k2] at hb; cases hb
          rw [if_neg nb]
          exact T.le _ _ hb
        · have nb : b ≠ A := ne_of_none hb nA
          have hb' : upd Hm A (.lst acc) b = some u := by rw [upd_ne nb]; exact hb
          exact T.nf b u (g2.h _ _ hb') nt (g2.nf b u hb' nt n)
        · funext b
          show (if b = A then some o else H3 b) = (if b = A then some o else (if b = A then none else H3 b))
          by_cases z : b = A
          · rw [if_pos z, if_pos z]
          · rw [if_neg z, if_neg z, if_neg z]
      cases q2 : c e2 with
      | no => rw [q2] at hl1; cases hl1
      | ex z e3 => rw [q2] at hl1; cases hl1
      | ok b e3 =>
        rw [q2] at hl1
        intro F3 H3 f3 T3
        cases b with
        | false =>
          refine iteF ?_
          obtain ⟨k1, k2, H3m, S5, k3, k4⟩ := back T3
          refine ⟨F3, H3m, acc, accD, f1.trans (g2.f.trans f3), S5, k3, ?_, ra.mono (g2.f.trans f3), Nat.le_succ_of_le hacc, hl1⟩
          rw [← k4]
          funext b
          by_cases z : b = A
          · subst z; rw [upd_same, k1]
          · rw [upd_ne z]
        | true =>
          refine iteT ⟨⟨F2, H2, [], fun _ => none, fun _ => []⟩, F3, e3, T3, ?_⟩
          dsimp only at hl1
          cases q3 : f e3 with
          | no => rw [q3] at hl1; cases hl1
          | ex z e4 =>
            rw [q3] at hl1
            dsimp only at hl1
            cases hl1
            intro cls dd F5 H5 f5 T5 x5
            obtain ⟨k1, k2, H6m, S6, k3, k4⟩ := back T5
            have e5 : H5 = upd H6m A (.lst acc) := by
              rw [← k4]
              funext b
              by_cases z : b = A
              · subst z; rw [upd_same, k1]
              · rw [upd_ne z]
            have S7 : SOk Z N F5 H5 σ e := by rw [e5]; exact S6.gr (Gr.lay S6.le k3)
            exact P cls dd F5 H5 (f1.trans (g2.f.trans (f3.trans f5))) S7 x5
          | ok r e4 =>
            rw [q3] at hl1
            dsimp only at hl1
            cases q4 : stl r e4 with
            | none => rw [q4] at hl1; cases hl1
            | some pr =>
              obtain ⟨x', e5⟩ := pr
              rw [q4] at hl1
              dsimp only at hl1
              intro v F5 H5 f5 T5 R5
              obtain ⟨F6, f6, T6, r6⟩ := RvOk.stl T5 R5 q4
              obtain ⟨k1, k2, H6m, S6, k3, k4⟩ := back T6
              have ff : Same F1 F6 := g2.f.trans (f3.trans (f5.trans f6))
              refine ⟨acc, k1, ?_, F6, H6m, acc ++ [v], accD ++ [x'], f1.trans ff, S6, k3, k4 _, (ra.mono ff).append (.cons r6 .nil), by rw [List.length_append]; exact Nat.succ_le_succ hacc, hl1⟩
              rw [ra.length, sizeLine_eq]
              omega
  · have e0 : ds.drop i = [] := List.drop_eq_nil_of_le (Nat.le_of_not_lt hlt)
    rw [e0] at hl1
    unfold lcLX at hl1
    cases hl1
    refine .inl ⟨w2 (Nat.le_of_not_lt hlt), P (.ref A) F1 _ f1 SH ⟨A, rfl, none_le S1.le nA, S1.nohave nA, ⟨acc, upd_same, ra⟩, fun j s hj l => ?_⟩⟩
    obtain ⟨_, u, hu⟩ := S1.live hj (S1.unlive hj l (Same.refl _) (fun _ _ z => z) fun _ _ _ _ _ _ _ => kp_same (same_upd nA))
    rw [nA] at hu; cases hu
theorem lcX_rd {g : TG} {t : Tg} {own : List Nat} {w : WV} {c : TV} {f : EV} {Q : VK} (tk : TgOk Z g t) (sub : ∀ i ∈ tgIx t, i ∈ own) (h : tEv Z W (eLcX own t w c f) σ H Q) : tLcX W (tWv Z W w) g (tTv Z W0 c) (fun Wb => tEv Z Wb f) own σ H Q := by
  obtain ⟨N, F, e, S, P⟩ := h
  refine ⟨N, F, e, S, ?_⟩
  unfold eLcX at P
  show PostW Z N F σ W _ (w e)
  cases q : w e with
  | no => rw [q] at P; exact P
  | ex z e1 => rw [q] at P; exact P
  | ok xs e1 =>
    rw [q] at P
    dsimp only at P
    split at P
    · rename_i hz
      cases q1 : lcLX t c f xs (wipeE (lock e1) own) [] with
      | none => rw [q1] at P; exact P.elim
      | some out =>
        have P' : PostE Z N F σ W Q (outX e1 out) := by
          rw [q1] at P
          cases out <;> exact P
        exact fun J F1 H1 f1 S1 wk => lcX_sound tk sub S1 wk hz q1 (PostE.shift P' f1)
    · exact P.elim
end
section
variable {ca : Str → Option Addr} {W : WX} {X : Cx} {fe : EV} {w : WV} {c : TV} {elt tg iter : Expr} {ifs : List Expr} {scope : Scope} {own : List (Str × Nat)} {pos : Pos} {g : TG} {t : Tg}
theorem ev_lcX (hst : X.stack = X.env :: X.outer) (hfr : X.env.frame = some X.env.locals) (tkX : L2N.Takes X W) (hc : X.calm = true) (hN : X.N.Nodup) (hi : Wv ca W X tg iter w) (ok : BlkOk X.N X.env.scope scope own) (tk : TgOk (zw ca X) g t) (sub : ∀ i ∈ tgIx t, i ∈ own.map (·.2))
    (hg : ∀ (s : Shared) (H : Hp) (C : Addr) (cl : List (Str × Addr)) (fp : List Addr), PG (X.blk s H scope (compEnvC scope cl C X.env) fp) tg g)
    (ht : ∀ (s : Shared) (H : Hp) (C : Addr) (cl : List (Str × Addr)) (fp : List Addr), PTs (X.blk s H scope (compEnvC scope cl C X.env) fp) ifs (tTv (zw ca X) W0 c))
    (he : ∀ (s : Shared) (H : Hp) (C : Addr) (cl : List (Str × Addr)) (fp : List Addr) (xe : Value → Shared → Prop) (Wb : WX), L2N.Takes ((X.blk s H scope (compEnvC scope cl C X.env) fp).wish xe) Wb → Ev ca Wb ((X.blk s H scope (compEnvC scope cl C X.env) fp).wish xe) elt fe) (hs : ∀ x, foldedSetIterable iter X.env x = pure x := by intro _; rfl) :
    Ev ca W X (.ListComp elt [⟨tg, iter, ifs, 0⟩] scope pos) (eLcX (own.map (·.2)) t w c fe) :=
  PE_imp (pe_lcX (te := fun Wb => tEv (zw ca X) Wb fe) hst hfr tkX hc hN hi ok hg ht he hs) fun _ _ _ => lcX_rd tk sub
end
end S3

/-! Y38: enumerate(xs, start=1). -/
namespace L2
open PySem PySem.Spec PyProof.Rows
open Sem (wp)
section
variable {M : Model} {A : Around} {E : Value → Shared → Prop} {s : Shared} {env : PySem.Env}
theorem callWith_type_kwB {pos : Pos} {T : String} {first : List Value} {args : List (Bool × Sem Value)} {keywords : List (Option Str × Sem Value)} {Q : Value → Shared → Prop}
    (hplain : args.any (·.1) = false) (hkw : keywords.any (·.1.isNone) = false)
    (h : wpAny M A (evalArgs (.type T) true args keywords) (fun a s₁ => wpAny M A (call (.type T) (first ++ a.pos) a.kw) Q E s₁) E s) :
    wpAny M A (callWith pos (.type T) first args keywords) Q E s := by
  unfold callWith
  refine wpAny_bind (wpAny_holding (wpAny_mono h (fun a s₁ h₁ => wpAny_bind (wpAny_standAt ?_)) fun _ _ x => x))
  simp only [hplain, hkw, Bool.or_false]
  refine wpAny_bind (wpAny_pure ?_)
  exact wpAny_bind (wpAny_mono h₁ (fun r s₂ hr => wpAny_bind (wpAny_holding (wpAny_point (wpAny_pure hr)))) fun _ _ x => x)
theorem callWith_typeKw {pos : Pos} {T : String} {e : Expr} {rest : List Expr} {kws : List Keyword} {Q : Value → Shared → Prop}
    (h : wpAny M A (spliced (backTo pos (starEach (e :: rest) env))) (fun vs s₁ => wpAny M A (evalAll ((backToKw pos (keywordEach kws env)).map (·.2)))
      (fun kvs s₂ => wpAny M A (call (.type T) vs (((backToKw pos (keywordEach kws env)).filterMap (·.1)).zip kvs)) Q E s₂) E s₁) E s)
    (he : backTo pos (starEach (e :: rest) env) = (false, eval e env) :: backTo pos (starEach rest env) := by rfl)
    (hplain : (backTo pos (starEach (e :: rest) env)).any (·.1) = false := by rfl)
    (hall : (backToKw pos (keywordEach kws env)).all (·.1.isSome) = true := by rfl)
    (hkw : (backToKw pos (keywordEach kws env)).any (·.1.isNone) = false := by rfl) :
    wpAny M A (callWith pos (.type T) [] (backTo pos (starEach (e :: rest) env)) (backToKw pos (keywordEach kws env))) Q E s := by
  refine callWith_type_kwB hplain hkw ?_
  rw [he] at h ⊢
  exact evalArgs_kwB hall h
end
/-- the list at a as it stands at each turn, each item in a new pair, counted from 1 -/
def Ite1 (K : PySem.W.Frag) (a : Addr) : It :=
  ⟨fun i H => ∃ (xs : List V) (x : V), SqL K H a xs ∧ xs[i]? = some x, fun i H v H' => ∃ T x, v = .ref T ∧ H T = none ∧ H' = upd H T (.tup [.int ((i : Int) + 1), x]) ∧ ∀ xs, SqL K H a xs → xs[i]? = some x, fun i H => ∃ xs : List V, SqL K H a xs ∧ xs.length ≤ i⟩
theorem enum_end1 {prog : Program} {w : World} {A : Around} {E : Value → Shared → Prop} {s : Shared} {e it l : Addr} {i : Nat} {c : Int} {items : Array Value} {old : Value} {Q : Option Value → Shared → Prop} (hh : A.handled = none)
    (he : IsEnum s.heap e it c old) (hit : s.heap.IsListIter it l i) (hl : s.heap.IsList l items) (hx : items[i]? = none)
    (hQ : ∀ h', Heap.ExtBut it s.heap h' → Q none { s with heap := h' }) : wpAny (model prog w) A (pyNext (.ref e)) Q E s := by
  have hT : s.TypeIs (.ref e) "enumerate" := ⟨_, he, rfl⟩
  unfold pyNext
  refine wpAny_bind (wpAny_attempt (wpAny_callSpecial?_slot (name := Str.ofString "__next__") hT F.slot_enumerate_next
    (wpAny_call_entry F.slot_enumerate_next hT F.entry_enumerate_next ?_ (F.args_enumerate_next_1 _))))
  show wpAny _ _ (field (.ref e) 2 >>= _) _ _ _
  refine wpAny_bind (wpAny_field he rfl (x := .ref it) rfl ?_)
  refine wpAny_bind (wpAny_nextOf_list_end hh hit hl hx fun h' x he' hx' => ?_)
  obtain ⟨o, ho, hc⟩ := hx'
  refine wpAny_bind (wpAny_isInstance (T := "StopIteration") (b := true) ⟨o, ho, hc⟩ isSubtype_stop ?_)
  exact wpAny_pure (hQ _ he')
theorem turn_enum1 {P : Program} {w : World} {K : PySem.W.Frag} {elts : List Expr} {kk : Nat} {tpos : Pos} (a e it : Addr) :
    Turn P w K (.Tuple elts kk tpos) (Ite1 K a) [e, it] e (fun i h => (∃ old, IsEnum h e it ((i : Int) + 1) old) ∧ h.IsListIter it a i ∧ e ≠ it) where
  mem := by simp
  obj := fun i h st b hb => by
    obtain ⟨⟨old, he⟩, ⟨o, ho, hc, hd⟩, _⟩ := st
    have e' : b = e ∨ b = it := by simpa using hb
    rcases e' with z | z
    · rw [z]; exact ⟨_, he, fun v q => nomatch q⟩
    · rw [z]; exact ⟨o, ho, fun v q => by rw [hd] at q; cases q⟩
  keep := fun i h h' st k => let ⟨⟨old, he⟩, hi, hne⟩ := st; ⟨⟨old, k e (by simp) _ he⟩, hi.at fun o q => k it (by simp) o q, hne⟩
  item := by
    intro X hP hw hK hc i pins s σ H E I hf st hg
    subst hP hw hK
    obtain ⟨⟨old, he⟩, hit, hne⟩ := st
    obtain ⟨xs, x, hq, hx⟩ := hg
    obtain ⟨its, rv, p, hz⟩ := I.list hq
    obtain ⟨u, hu, ru⟩ := rv.get hx
    have hel : e < s.heap.objs.size := Heap.lt_size he
    have hil : it < s.heap.objs.size := by obtain ⟨_, q, _⟩ := hit; exact Heap.lt_size q
    obtain ⟨ol, hol, hcl, nl, hdl⟩ := p.isList
    have nai : a ≠ it := fun z => by
      obtain ⟨o2, q1, _, q2⟩ := hit
      rw [z, q1] at hol; cases hol
      rw [q2] at hdl; cases hdl
    have nae : e ∉ ([it, a] : List Addr) := fun z => by
      have z' : e = it ∨ e = a := by simpa using z
      rcases z' with z | z
      · exact hne z
      · rw [← z] at hol
        have q : some ol = some _ := hol.symm.trans he
        cases q
        cases hdl
    have hui : its.toArray[i]? = some u := by simpa using hu
    have D : Draws X.prog X.w X.A.in1 it [it, a] its.toArray.size (fun i v => its.toArray[i]? = some v) (fun i h => h.IsListIter it a i ∧ h.IsList a its.toArray) := Draws.list (show X.A.in1.handled = none from I.ok.hd hc) it a nai _
    refine wpAny_pyNext_enum_itemC D he ⟨hit, p.isList⟩ (Array.getElem?_eq_some_iff.mp hui).1 hne nae fun x' h' tk hx' ho hit' hT hsz hk => ?_
    obtain ⟨hit', _⟩ := hit'
    obtain rfl : u = x' := by rw [hui] at hx'; exact Option.some.inj hx'
    refine ⟨_, rfl, wpAny_letOwnedTupleGo_enum (s := { s with heap := h', toks := tk + 1 }) ho fun h'' he' sb => ?_⟩
    have hT2 : h''.get? s.heap.objs.size = some { cls := .type "tuple", data := .seq #[.int ((i : Int) + 1) tk, u] } := (sb.2 _ (Nat.ne_of_gt hel)).trans hT
    have new : ObjOk X.prog X.w (upd H s.heap.objs.size (.tup [.int ((i : Int) + 1), x])) h'' s.heap.objs.size (.tup [.int ((i : Int) + 1), x]) :=
      ⟨by show 2 ≤ sizeLine; decide, [.int ((i : Int) + 1) tk, u], .cons ⟨_, rfl⟩ (.cons ru .nil), ⟨_, hT2, rfl, _, rfl⟩⟩
    have I1 : Inv X pins σ (upd H s.heap.objs.size (.tup [.int ((i : Int) + 1), x])) { s with heap := h'', toks := tk + 1 } :=
      I.turnedNew (ch := [e, it]) (fun b ob hb q => (sb.2 b (fun z => hb (by simp [z]))).trans (hk b ob (fun z => hb (by simp [z])) (fun z => hb (by simp [z])) q)) hf (Nat.le_refl _) new
    refine ⟨.ref s.heap.objs.size, _, I1, rfl, ⟨_, x, rfl, I.hok.fresh (Nat.le_refl _), rfl, fun ys hy => by rw [I.list_inj hy hq]; exact hx⟩, ⟨⟨u, ?_⟩, hit'.at fun o q => (sb.2 it (Ne.symm hne)).trans q, hne⟩, fun b hb => ?_⟩
    · have e1 : ((i + 1 : Nat) : Int) + 1 = (i : Int) + 1 + 1 := by omega
      rw [e1]; exact he'
    · have hb' : b < s.heap.objs.size := by
        have e' : b = e ∨ b = it := by simpa using hb
        rcases e' with z | z
        · rw [z]; exact hel
        · rw [z]; exact hil
      rw [upd_ne (Nat.ne_of_lt hb')]
      exact (hf b hb).1
  done := by
    intro X hP hw hK hc i pins s σ H E I hf st hg
    subst hP hw hK
    obtain ⟨⟨old, he⟩, hit, hne⟩ := st
    obtain ⟨xs, hq, hx⟩ := hg
    obtain ⟨its, rv, p, hz⟩ := I.list hq
    obtain ⟨f0, f1, f2, f3, f4, f5⟩ := hf it (by simp)
    have hl := rv.length
    exact enum_end1 (I.ok.hd hc) he hit p.isList (by simp; omega) fun h' eb => ⟨rfl, I.turned (t' := s.toks) (fun b o hb q => eb b o hb q) f0 f1 f3 f4 f5⟩
  self := fun A i s Q E st h => let ⟨⟨_, he⟩, _⟩ := st; wpAny_pyIter_enum he h
def iEnum1 (K : PySem.W.Frag) (ta : TA) : TI := fun σ H R => ta σ H fun vs H1 => ∃ a xs, vs = [.ref a] ∧ SqL K H1 a xs ∧ R (Ite1 K a) H1
theorem pi_enum1 {X : Cx} {e : Expr} {ta : TA} {p pos tpos q kp : Pos} {elts : List Expr} {kk j : Nat} (hg : Gl X "enumerate") (hm : X.mg "enumerate" = none) (ha : PA X [e] ta) (hs : starEach [e] X.env = [(false, eval e X.env)] := by rfl) :
    PI X (.Tuple elts kk tpos) (.Call (.Name "enumerate" p) [e] [⟨some "start", .Constant (.int 1) j q, kp⟩] pos) (iEnum1 X.K ta) := by
  refine ⟨fun pins s σ H R I h => ?_⟩
  refine wpAny_Call_Name_kw (ld_blt I hg hm boot_enumerate ?_)
  refine callWith_typeKw (thn (ha.run pos pins s σ H _ I h) fun us s1 ⟨vs, H1, I1, r1, q1⟩ => kws_cons (thn (pe_int.run pins s1 σ H1 (fun v H2 => v = V.int 1 ∧ H2 = H1) I1 ⟨rfl, rfl⟩) fun u s2 ⟨v, H2, I2, r2, ev, eH⟩ => kws_nil ?_)) (by rw [hs]; rfl) (by rw [hs]; rfl)
  subst ev eH
  obtain ⟨t, rfl⟩ := r2
  obtain ⟨a, xs, ex, hq, qq⟩ := q1
  subst ex
  cases r1 with
  | cons r rr =>
    cases rr
    cases r
    obtain ⟨its, rv, p', hz⟩ := I2.list hq
    show wpAny _ _ (call (.type "enumerate") [.ref a] [(Str.ofString "start", .int 1 t)]) _ _ _
    refine enum_begins_start (begins_list a its.toArray) p'.isList (by decide) (by decide) fun h' he hl hsz hk => wpAny_pyIter_enum he ?_
    have I3 : Inv X pins σ H2 { s2 with heap := h' } := I2.kept (t' := s2.toks) hk
    refine ⟨s2.heap.objs.size + 1, [s2.heap.objs.size + 1, s2.heap.objs.size], _, _, H2, rfl, I3, turn_enum1 a (s2.heap.objs.size + 1) s2.heap.objs.size, ⟨⟨.none, he⟩, ⟨_, hl, rfl, rfl⟩, Nat.succ_ne_self _⟩, fun b hb => ?_, qq⟩
    have e' : b = s2.heap.objs.size + 1 ∨ b = s2.heap.objs.size := by simpa using hb
    have hle : s2.heap.objs.size ≤ b := by
      rcases e' with z | z
      · rw [z]; exact Nat.le_add_right _ _
      · rw [z]; exact Nat.le_refl _
    exact I2.fpOk hle (I2.hok.fresh hle)
end L2
namespace S3
open PySem L2
def enumD1 (xs : List D) : List D := xs.zipIdx.map fun p => .tup [.int ((p.2 : Int) + 1), p.1]
def wEnum1 (f : EV) : WV := wE f fun r e => match walk r e with
  | some (.lst xs, e1) => .ok (enumD1 xs) e1
  | _ => .no
section
variable {Z : Wd} {F F' H H' : Hp} {N : En} {σ : St} {e e' : Env} {v x y : V} {W : WX} {E : Ends}
theorem enumD1_get {xs : List D} {i : Nat} : (enumD1 xs)[i]? = (xs[i]?).map fun d => .tup [.int ((i : Int) + 1), d] := by
  unfold enumD1
  rw [List.getElem?_map, List.getElem?_zipIdx]
  cases xs[i]? <;> simp
theorem enumD1_len (xs : List D) : (enumD1 xs).length = xs.length := by unfold enumD1; rw [List.length_map, List.length_zipIdx]
theorem walk_enum1 {K : PySem.W.Frag} (hK : Z.K = K) {ds : List D} (S : SOk Z N F H σ e) (h : Rp Z F v (.lst ds) ∨ ∃ a, v = .ref a ∧ (∃ u, N.H a = some u) ∧ a ∉ N.M ∧ Top Z F H a (.lst ds)) :
    ∃ a, v = .ref a ∧ (∃ xs, SqL K H a xs) ∧ WalkOk Z N F (Ite1 K a) (enumD1 ds) := by
  obtain ⟨a, xs, rfl, ha, ra, st⟩ : ∃ a xs, v = .ref a ∧ H a = some (.lst xs) ∧ RpA Z F xs ds ∧ ∀ F' H' σ e, SOk Z N F' H' σ e → Same F F' → H' a = some (.lst xs) := by
    rcases h with h | ⟨a, rfl, ⟨u, hu⟩, m, xs, ha, ra⟩
    · cases h with
      | lst k r => exact ⟨_, _, rfl, S.le _ _ k, r, fun F' H' σ e S' f => S'.le _ _ (f _ _ k)⟩
    · have e1 := S.h0 a u hu m
      rw [ha] at e1
      cases e1
      exact ⟨a, xs, rfl, ha, ra, fun F' H' σ e S' f => S'.h0 a _ hu m⟩
  refine ⟨a, rfl, ⟨xs, SqL.of ha⟩, fun F' H' σ' e' S' f i => ⟨fun d hd => ?_, fun hl => ⟨xs, SqL.of (st _ _ _ _ S' f), by rw [ra.length]; rw [enumD1_len] at hl; exact hl⟩⟩⟩
  have hx := st _ _ _ _ S' f
  rw [enumD1_get, Option.map_eq_some_iff] at hd
  obtain ⟨d0, hd0, rfl⟩ := hd
  obtain ⟨w, hw, rw'⟩ := ra.get hd0
  refine ⟨⟨xs, w, SqL.of hx, hw⟩, fun x H2 ⟨T, w2, e1, hT, e2, y⟩ => ?_⟩
  subst e1 e2
  have := y xs (SqL.of hx)
  rw [hw] at this
  cases this
  have fT := none_le S'.le hT
  exact ⟨upd F' T (.tup [.int ((i : Int) + 1), w]), Gr.layF S'.le hT, .tup upd_same (.cons (.int _) (.cons ((rw'.mono f).mono (same_upd fT)) .nil))⟩
theorem wv_enum1_rd {K : PySem.W.Frag} (hK : Z.K = K) {f : EV} {R : It → Hp → Prop} (h : tWv Z W (wEnum1 f) σ H R) : iEnum1 K (tCons (tEv Z W f) tNil) σ H R := by
  obtain ⟨N, F, e, S, P⟩ := h
  unfold wEnum1 wE at P
  refine ⟨N, F, e, S, ?_⟩
  cases q : f e with
  | no => rw [q] at P; exact P
  | ex z e1 => rw [q] at P; exact fun cls d F1 H1 f1 S1 x => P cls d F1 H1 f1 S1 x
  | ok r e0 =>
    rw [q] at P
    dsimp only at P
    intro v F1 H1 f1 S1 R1
    cases q1 : walk r e0 with
    | none => rw [q1] at P; exact P.elim
    | some pr =>
      obtain ⟨d, e1⟩ := pr
      rw [q1] at P
      cases d <;> try exact P.elim
      rename_i xs
      have h : ∀ J F2 H2, Same F F2 → SOk Z N F2 H2 σ e1 → WalkOk Z N F2 J (enumD1 xs) → R J H2 := P
      obtain ⟨F2, f2, S2, h2⟩ := walk_ok S1 R1 q1
      obtain ⟨a, ev, ⟨ys, h3⟩, w⟩ := walk_enum1 hK S2 h2
      exact ⟨a, ys, by rw [ev], h3, h _ F2 H1 (f1.trans f2) S2 w⟩
end
section
variable {ca : Str → Option Addr} {W : WX} {X : Cx} {a : Expr} {fa : EV} {pos p q kp tpos : Pos}
theorem wv_enum1 {elts : List Expr} {kk j : Nat} (hm : X.mg "enumerate" = none) (h : Ev ca W X a fa) (hg : Gl X "enumerate" := by rfl) (hs : starEach [a] X.env = (false, eval a X.env) :: starEach [] X.env := by rfl) : Wv ca W X (.Tuple elts kk tpos) (.Call (.Name "enumerate" p) [a] [⟨some "start", .Constant (.int 1) j q, kp⟩] pos) (wEnum1 fa) :=
  PI_imp (pi_enum1 hg hm (pa_cons h pa_nil hs) (by rw [hs]; rfl)) fun _ _ _ => wv_enum1_rd rfl
end
end S3

/-! P1: reckoning with the terms: what simp may unfold; loops by an invariant. -/
namespace S3
open PySem
section
variable {e e' : Env} {f g h : EV} {s t : SV} {c d : TV}
@[simp] theorem slot0 (s : Sl) (e : Env) : slot (s :: e) 0 = s := rfl
@[simp] theorem slotS (s : Sl) (e : Env) (i : Nat) : slot (s :: e) (i + 1) = slot e i := rfl
@[simp] theorem eC_e (x : D) : eC x e = .ok (.fz x) e := rfl
@[simp] theorem eSlot_e (i : Nat) : eSlot i e = match slot e i with | .no => .no | .fz d => .ok (.fz d) e | _ => .ok (.at i) e := rfl
@[simp] theorem eBind_e {k : RV → EV} : eBind f k e = match f e with | .ok r e1 => k r e1 | .ex x e1 => .ex x e1 | .no => .no := rfl
@[simp] theorem eOp1_e (op : D → Option RV) : eOp1 op f e = match f e with | .ok r e1 => (match rd r e1 with | some x => ofOp (op x) e1 | none => .no) | .ex x e1 => .ex x e1 | .no => .no := rfl
@[simp] theorem eOp2_e (op : D → D → Option RV) : eOp2 op f g e = match f e with | .ok r e1 => (match g e1 with | .ok q e2 => (match rd r e2, rd q e2 with | some x, some y => ofOp (op x y) e2 | _, _ => .no) | .ex x e1 => .ex x e1 | .no => .no) | .ex x e1 => .ex x e1 | .no => .no := rfl
@[simp] theorem eOp3_e (op : D → D → D → Option RV) : eOp3 op f g h e = match f e with | .ok r e1 => (match g e1 with | .ok q e2 => (match h e2 with | .ok p e3 => (match rd r e3, rd q e3, rd p e3 with | some x, some y, some z => ofOp (op x y z) e3 | _, _, _ => .no) | .ex x e1 => .ex x e1 | .no => .no) | .ex x e1 => .ex x e1 | .no => .no) | .ex x e1 => .ex x e1 | .no => .no := rfl
@[simp] theorem ofOp_s (r : RV) : ofOp (some r) e = .ok r e := rfl
@[simp] theorem ofOp_n : ofOp none e = .no := rfl
@[simp] theorem rd_fz (d : D) : rd (.fz d) e = some d := rfl
@[simp] theorem rd_nw (d : D) : rd (.nw d) e = some d := rfl
@[simp] theorem rd_at (i : Nat) : rd (.at i) e = (slot e i).val := rfl
@[simp] theorem val_fz (d : D) : (Sl.fz d).val = some d := rfl
@[simp] theorem val_ow (d : D) : (Sl.ow d).val = some d := rfl
@[simp] theorem val_bo (d : D) : (Sl.bo d).val = some d := rfl
@[simp] theorem val_mu (d : D) : (Sl.mu d).val = some d := rfl
@[simp] theorem val_no : (Sl.no).val = none := rfl
@[simp] theorem stl_fz (d : D) : stl (.fz d) e = some (d, e) := rfl
@[simp] theorem stl_nw (d : D) : stl (.nw d) e = some (d, e) := rfl
@[simp] theorem stl_at (i : Nat) : stl (.at i) e = match slot e i with | .fz d => some (d, e) | .ow d => some (d, e.set i (.fz d)) | .dp true d => some (d.sbT, e.set i (.fz d.sbT)) | _ => none := rfl
@[simp] theorem eI_e : eI f e = match f e with | .ok r e1 => (match r with | .fz (.int i) => .ok (.fz (.int i)) e1 | _ => .no) | .ex x e1 => .ex x e1 | .no => .no := rfl
@[simp] theorem aNil_e : aNil e = .ok [] e := rfl
@[simp] theorem aCons_e (a : AV) : aCons f a e = match f e with | .ok r e1 => (match a e1 with | .ok rs e2 => .ok (r :: rs) e2 | .ex x e2 => .ex x e2 | .no => .no) | .ex x e1 => .ex x e1 | .no => .no := rfl
@[simp] theorem aKeep_e (a : AV) : aKeep f a e = match f e with | .ok r e1 => (match stl r e1 with | some (d, e1') => (match a e1' with | .ok rs e2 => .ok (.fz d :: rs) e2 | .ex x e2 => .ex x e2 | .no => .no) | none => .no) | .ex x e1 => .ex x e1 | .no => .no := rfl
@[simp] theorem fzs_nil : fzs [] = some [] := rfl
@[simp] theorem fzs_cons (d : D) (r : List RV) : fzs (.fz d :: r) = (fzs r).map (d :: ·) := rfl
@[simp] theorem eDisp_e (mk : List D → RV) (a : AV) : eDisp mk a e = match a e with | .ok rs e1 => (match fzs rs with | some ds => if ds.length ≤ 16777216 then .ok (mk ds) e1 else .no | none => .no) | .ex x e1 => .ex x e1 | .no => .no := rfl
@[simp] theorem argD_nil : argD [] [] e = some [] := rfl
@[simp] theorem argD_v (ms : List Md) (d : D) (rs : List RV) : argD (.v :: ms) (.fz d :: rs) e = (argD ms rs e).map (d :: ·) := rfl
@[simp] theorem argD_r (ms : List Md) (r : RV) (rs : List RV) : argD (.r :: ms) (r :: rs) e = (match rd r e with | some d => (argD ms rs e).map (d :: ·) | none => none) := rfl
@[simp] theorem argD_m (ms : List Md) (i : Nat) (rs : List RV) : argD (.m :: ms) (.at i :: rs) e = (match slot e i with | .ow d => (argD ms rs e).map (d :: ·) | .mu d => (argD ms rs e).map (d :: ·) | _ => none) := rfl
@[simp] theorem mutIx_nil (rs : List RV) : mutIx [] rs = [] := by cases rs <;> rfl
@[simp] theorem mutIx_v (ms : List Md) (r : RV) (rs : List RV) : mutIx (.v :: ms) (r :: rs) = mutIx ms rs := by cases r <;> rfl
@[simp] theorem mutIx_r (ms : List Md) (r : RV) (rs : List RV) : mutIx (.r :: ms) (r :: rs) = mutIx ms rs := by cases r <;> rfl
@[simp] theorem mutIx_m (ms : List Md) (i : Nat) (rs : List RV) : mutIx (.m :: ms) (.at i :: rs) = i :: mutIx ms rs := rfl
@[simp] theorem atIx_nil : atIx [] = [] := rfl
@[simp] theorem atIx_at (i : Nat) (rs : List RV) : atIx (.at i :: rs) = i :: atIx rs := rfl
@[simp] theorem atIx_fz (d : D) (rs : List RV) : atIx (.fz d :: rs) = atIx rs := rfl
@[simp] theorem atIx_nw (d : D) (rs : List RV) : atIx (.nw d :: rs) = atIx rs := rfl
@[simp] theorem apart_e (ms : List Md) (rs : List RV) : apart ms rs = (mutIx ms rs).all fun i => (atIx rs).count i == 1 := rfl
@[simp] theorem wback_nil : wback [] [] e = some e := rfl
@[simp] theorem wback_cons (i : Nat) (is : List Nat) (d : D) (ds : List D) : wback (i :: is) (d :: ds) e = (match slot e i with | .ow _ => wback is ds (e.set i (.ow d)) | .mu _ => wback is ds (e.set i (.mu d)) | _ => none) := rfl
@[simp] theorem rv_t (d : D) : rv true d = .nw d := rfl
@[simp] theorem rv_f (d : D) : rv false d = .fz d := rfl
@[simp] theorem eCall_e (phi : List D → RC) (ms : List Md) (a : AV) : eCall phi ms a e = match a e with
  | .ok rs e1 => (match argD ms rs e1 with
    | some ds => if apart ms rs then (match phi ds with
        | .ok n d outs => (match wback (mutIx ms rs) outs e1 with | some e2 => .ok (rv n d) e2 | none => .no)
        | .ex x outs => (match wback (mutIx ms rs) outs e1 with | some e2 => .ex x e2 | none => .no)
        | .dp d outs => (match wback (mutIx ms rs) outs e1 with | some e2 => .ok (.dn d) e2 | none => .no)
        | .no => .no) else .no
    | none => .no)
  | .ex x e1 => .ex x e1
  | .no => .no := rfl
@[simp] theorem mine_ow (k : D → Bool) (d : D) : mine k (.ow d) = k d := rfl
@[simp] theorem mine_mu (k : D → Bool) (d : D) : mine k (.mu d) = k d := rfl
@[simp] theorem reown_mu (a b : D) : reown (.mu a) b = .mu b := rfl
@[simp] theorem reown_ow (a b : D) : reown (.ow a) b = .ow b := rfl
@[simp] theorem isLst_l (xs : List D) : isLst (.lst xs) = true := rfl
@[simp] theorem eMut_e (i : Nat) (k : D → Bool) (op : D → List D → Option (D × RV)) (a : AV) : eMut i k op a e = if mine k (slot e i) then (match a e with
  | .ok rs e1 => (match fzs rs with
    | some ds => if mine k (slot e1 i) then (match (slot e1 i).val with
      | some d => (match op d ds with | some (d', r) => .ok r (e1.set i (reown (slot e1 i) d')) | none => .no)
      | none => .no) else .no
    | none => .no)
  | .ex x e1 => .ex x e1
  | .no => .no) else .no := rfl
@[simp] theorem tVal_e : tVal f e = match f e with | .ok r e1 => (match rd r e1 with | some d => (match asBool d with | some b => .ok b e1 | none => .no) | none => .no) | .ex x e1 => .ex x e1 | .no => .no := rfl
@[simp] theorem tTru_e : tTru f e = match f e with | .ok r e1 => (match rd r e1 with | some d => (match truth d with | some b => .ok b e1 | none => .no) | none => .no) | .ex x e1 => .ex x e1 | .no => .no := rfl
@[simp] theorem asBool_b (b : Bool) : asBool (.bl b) = some b := rfl
@[simp] theorem truth_b (b : Bool) : truth (.bl b) = some b := rfl
@[simp] theorem truth_non : truth .non = some false := rfl
@[simp] theorem truth_int (i : Int) : truth (.int i) = some (i != 0) := rfl
@[simp] theorem truth_str (x : Str) : truth (.str x) = some (x.length != 0) := rfl
@[simp] theorem truth_lst (xs : List D) : truth (.lst xs) = some (!xs.isEmpty) := rfl
@[simp] theorem truth_tup (xs : List D) : truth (.tup xs) = some (!xs.isEmpty) := rfl
@[simp] theorem tAndS_e : tAndS c d e = match c e with | .ok true e1 => d e1 | r => r := rfl
@[simp] theorem tOrS_e : tOrS c d e = match c e with | .ok false e1 => d e1 | r => r := rfl
@[simp] theorem tNotS_e : tNotS c e = match c e with | .ok b e1 => .ok (!b) e1 | r => r := rfl
@[simp] theorem eAnd_e : eAnd f g e = match f e with | .ok r e1 => (match rd r e1 with | some d => (match truth d with | some true => g e1 | some false => .ok r e1 | none => .no) | none => .no) | .ex x e1 => .ex x e1 | .no => .no := rfl
@[simp] theorem eOr_e : eOr f g e = match f e with | .ok r e1 => (match rd r e1 with | some d => (match truth d with | some true => .ok r e1 | some false => g e1 | none => .no) | none => .no) | .ex x e1 => .ex x e1 | .no => .no := rfl
@[simp] theorem eChain_e (o o' : D → D → Option RV) : eChain o o' f g h e = match f e with
  | .ok r e1 => (match g e1 with
    | .ok q e2 => (match rd r e2, rd q e2 with
      | some x, some y => (match o x y with
        | some (.fz (.bl true)) => (match h e2 with
          | .ok p e3 => (match rd q e3, rd p e3 with | some y, some z => ofOp (o' y z) e3 | _, _ => .no)
          | .ex x e1 => .ex x e1
          | .no => .no)
        | some (.fz (.bl false)) => .ok (.fz (.bl false)) e2
        | _ => .no)
      | _, _ => .no)
    | .ex x e1 => .ex x e1
    | .no => .no)
  | .ex x e1 => .ex x e1
  | .no => .no := rfl
@[simp] theorem sSeq_e : sSeq s t e = match s e with | .nx e1 => t e1 | r => r := rfl
@[simp] theorem sNx_e : sNx e = .nx e := rfl
@[simp] theorem sExpr_e : sExpr f e = match f e with | .ok r e1 => .nx e1 | .ex x e1 => .ex x e1 | .no => .no := rfl
@[simp] theorem sRet_e : sRet f e = match f e with | .ok r e1 => ret r e1 | .ex x e1 => .ex x e1 | .no => .no := rfl
@[simp] theorem ret_fz (d : D) : ret (.fz d) e = .rt (.fz d) e := rfl
@[simp] theorem ret_nw (d : D) : ret (.nw d) e = .rt (.nw d) e := rfl
@[simp] theorem ret_at (i : Nat) : ret (.at i) e = match slot e i with | .fz d => .rt (.fz d) e | .ow d => .rt (.nw d) (e.set i .no) | .dp true d => .rt (.dn d) (e.set i .no) | _ => .no := rfl
@[simp] theorem sIf_e : sIf c s t e = match c e with | .ok true e1 => s e1 | .ok false e1 => t e1 | .ex x e1 => .ex x e1 | .no => .no := rfl
@[simp] theorem sSet_e (i : Nat) : sSet i f e = match f e with | .ok r e1 => (match setS i r e1 with | some e2 => .nx e2 | none => .no) | .ex x e1 => .ex x e1 | .no => .no := rfl
@[simp] theorem setS_fz (i : Nat) (d : D) : setS i (.fz d) e = some (e.set i (.fz d)) := rfl
@[simp] theorem setS_nw (i : Nat) (d : D) : setS i (.nw d) e = some (e.set i (.ow d)) := rfl
@[simp] theorem setS_at (i j : Nat) : setS i (.at j) e = (stl (.at j) e).map fun p => p.2.set i (.fz p.1) := rfl
@[simp] theorem sUnp_e (is : List Nat) : sUnp is f e = match f e with | .ok r e1 => (match stl r e1 with | some (.tup ds, e1) => (match setAll is ds e1 with | some e2 => .nx e2 | none => .no) | _ => .no) | .ex x e1 => .ex x e1 | .no => .no := rfl
@[simp] theorem setAll_nil : setAll [] [] e = some e := rfl
@[simp] theorem setAll_cons (i : Nat) (is : List Nat) (d : D) (ds : List D) : setAll (i :: is) (d :: ds) e = setAll is ds (e.set i (.fz d)) := rfl
@[simp] theorem tgt_one (i : Nat) (d : D) : tgt (.one i) d e = some (e.set i (.fz d)) := rfl
@[simp] theorem tgt_tup (is : List Nat) (ds : List D) : tgt (.tup is) (.tup ds) e = setAll is ds e := rfl
@[simp] theorem wipeE_nil : wipeE e [] = e := rfl
@[simp] theorem wipeE_cons (i : Nat) (is : List Nat) : wipeE e (i :: is) = (wipeE e is).set i .no := rfl
@[simp] theorem lock_nil : lock [] = [] := rfl
@[simp] theorem lock_cons (s : Sl) : lock (s :: e) = s.lock :: lock e := rfl
@[simp] theorem lock_fz (d : D) : (Sl.fz d).lock = .fz d := rfl
@[simp] theorem lock_ow (d : D) : (Sl.ow d).lock = .bo d := rfl
@[simp] theorem lock_mu (d : D) : (Sl.mu d).lock = .bo d := rfl
@[simp] theorem lock_bo (d : D) : (Sl.bo d).lock = .bo d := rfl
@[simp] theorem lock_no : (Sl.no).lock = .no := rfl
@[simp] theorem tYesS_e : tYesS e = .ok true e := rfl
@[simp] theorem wAny_e : wAny f e = match f e with | .ok r e1 => (match walk r e1 with | some (d, e1) => (match items d with | some xs => .ok xs e1 | none => .no) | none => .no) | .ex x e1 => .ex x e1 | .no => .no := rfl
@[simp] theorem walk_fz (d : D) : walk (.fz d) e = some (d, e) := rfl
@[simp] theorem walk_nw (d : D) : walk (.nw d) e = some (d, e) := rfl
@[simp] theorem walk_at (i : Nat) : walk (.at i) e = match slot e i with | .fz d => some (d, e) | .ow d => some (d, e.set i (.fz d)) | .bo d => some (d, e) | .dp true d => some (d.sbT, e.set i (.fz d.sbT)) | _ => none := rfl
@[simp] theorem items_l (xs : List D) : items (.lst xs) = some xs := rfl
@[simp] theorem items_t (xs : List D) : items (.tup xs) = some xs := rfl
@[simp] theorem items_s (xs : List D) : items (.scr xs) = some xs := rfl
@[simp] theorem items_str (x : Str) : items (.str x) = some (x.cps.toList.map fun c => .str ⟨#[c]⟩) := rfl
@[simp] theorem wR1_e : wR1 g e = match g e with | .ok r e1 => (match r with | .fz (.int y) => if -(2 ^ 62) ≤ y ∧ y < 2 ^ 62 then .ok (rng 0 y) e1 else .no | _ => .no) | .ex x e1 => .ex x e1 | .no => .no := by
  unfold wR1 wE eI eBind
  cases g e with
  | ok r e1 => cases r with
    | fz d => cases d <;> rfl
    | _ => rfl
  | _ => rfl
theorem sFor_e {tmp : List Nat} {tg : Tg} {w : WV} {b : SV} : sFor tmp tg w b e = match w e with | .ok xs e1 => forL tmp tg b xs e1 | .ex x e1 => .ex x e1 | .no => .no := rfl
@[simp] theorem finish_nx (ms : List Md) : finish ms (.nx e) = match outsE ms e with | some o => .ok false .non o | none => .no := rfl
@[simp] theorem finish_fz (ms : List Md) (d : D) : finish ms (.rt (.fz d) e) = match outsE ms e with | some o => .ok false d o | none => .no := rfl
@[simp] theorem finish_nw (ms : List Md) (d : D) : finish ms (.rt (.nw d) e) = match outsE ms e with | some o => .ok true d o | none => .no := rfl
@[simp] theorem finish_ex (ms : List Md) (x : Exn) : finish ms (.ex x e) = match outsE ms e with | some o => .ex x o | none => .no := rfl
@[simp] theorem outsE_nil : outsE [] e = some [] := by cases e <;> rfl
@[simp] theorem outsE_v (ms : List Md) (s : Sl) : outsE (.v :: ms) (s :: e) = outsE ms e := by cases s <;> rfl
@[simp] theorem outsE_r (ms : List Md) (s : Sl) : outsE (.r :: ms) (s :: e) = outsE ms e := by cases s <;> rfl
@[simp] theorem outsE_m (ms : List Md) (d : D) : outsE (.m :: ms) (.mu d :: e) = (outsE ms e).map (d :: ·) := rfl
end
/-! operators at their kinds -/
@[simp] theorem opAdd_i (i j : Int) : opAdd (.int i) (.int j) = some (.fz (.int (i + j))) := rfl
@[simp] theorem opSub_i (i j : Int) : opSub (.int i) (.int j) = some (.fz (.int (i - j))) := rfl
@[simp] theorem opAdd_s (x y : Str) : opAdd (.str x) (.str y) = if x.length + y.length ≤ BIG then some (.fz (.str (x ++ y))) else none := rfl
@[simp] theorem opAdd_l (x y : List D) : opAdd (.lst x) (.lst y) = if x.length + y.length ≤ BIG then some (.nw (.lst (x ++ y))) else none := rfl
@[simp] theorem opMul_i (i j : Int) : opMul (.int i) (.int j) = if (-(2 ^ 64) < i ∧ i < 2 ^ 64) ∨ (-(2 ^ 64) < j ∧ j < 2 ^ 64) then some (.fz (.int (i * j))) else none := rfl
@[simp] theorem opMod_i (i j : Int) : opMod (.int i) (.int j) = if 0 < j then some (.fz (.int (i % j))) else none := rfl
@[simp] theorem opDiv_i (i j : Int) : opDiv (.int i) (.int j) = if 0 < j ∧ j < 1073741824 then some (.fz (.int (i / j))) else none := rfl
@[simp] theorem opLt_i (i j : Int) : opLt (.int i) (.int j) = some (.fz (.bl (decide (i < j)))) := rfl
@[simp] theorem opLe_i (i j : Int) : opLe (.int i) (.int j) = some (.fz (.bl (decide (i ≤ j)))) := rfl
@[simp] theorem opGt_i (i j : Int) : opGt (.int i) (.int j) = some (.fz (.bl (decide (j < i)))) := rfl
@[simp] theorem opInt_i (i : Int) : opInt (.int i) = some (.fz (.int i)) := rfl
@[simp] theorem opAbs_i (i : Int) : opAbs (.int i) = some (.fz (.int (if i < 0 then -i else i))) := rfl
@[simp] theorem opLen_s (x : Str) : opLen (.str x) = some (.fz (.int x.length)) := rfl
@[simp] theorem opLen_l (x : List D) : opLen (.lst x) = some (.fz (.int x.length)) := rfl
@[simp] theorem opLen_t (x : List D) : opLen (.tup x) = some (.fz (.int x.length)) := rfl
@[simp] theorem opIx_l (xs : List D) (i : Int) : opIx (.lst xs) (.int i) = (L2.atI xs i).map .fz := rfl
@[simp] theorem opIx_t (xs : List D) (i : Int) : opIx (.tup xs) (.int i) = (L2.atI xs i).map .fz := rfl
@[simp] theorem opIx_s (z : Str) (i : Int) : opIx (.str z) (.int i) = (L2.atI z.cps.toList i).map fun c => .fz (.str ⟨#[c]⟩) := rfl
@[simp] theorem mApp_l (xs : List D) (y : D) : mAppend (.lst xs) [y] = if xs.length < BIG then some (.lst (xs ++ [y]), .fz .non) else none := rfl
@[simp] theorem mkLst_e (xs : List D) : mkLst xs = .nw (.lst xs) := rfl
@[simp] theorem mkTup_e (xs : List D) : mkTup xs = .fz (.tup xs) := rfl
@[simp] theorem bRV_s (b : Bool) : bRV (some b) = some (.fz (.bl b)) := rfl
@[simp] theorem bRV_n : bRV none = none := rfl
theorem py_ii (i j : Int) : PyData.eqv (.int i) (.int j) = decide (i = j) := by
  by_cases h : i = j
  · subst h; simp [PyData.eqv]
  · simp [PyData.eqv, h]
theorem dEq_ii (i j : Int) : dEq (.int i) (.int j) = some (decide (i = j)) := by
  show some (PyData.eqv (.int i) (.int j)) = _
  rw [py_ii]
theorem opEq_i (i j : Int) : opEq (.int i) (.int j) = some (.fz (.bl (decide (i = j)))) := by unfold opEq; rw [dEq_ii]; rfl
theorem atI_nat {α : Type} {xs : List α} {i : Int} {x : α} (h0 : 0 ≤ i) (h : xs[i.toNat]? = some x) : L2.atI xs i = some x := by
  have hl := (List.getElem?_eq_some_iff.mp h).1
  unfold L2.atI L2.ixN
  rw [if_pos h0, if_pos (by omega)]
  exact h
theorem atI_lt {α : Type} {xs : List α} {i : Int} (h0 : 0 ≤ i) (h : i < xs.length) : ∃ x, xs[i.toNat]? = some x ∧ L2.atI xs i = some x := by
  have hl : i.toNat < xs.length := by omega
  exact ⟨_, List.getElem?_eq_getElem hl, atI_nat h0 (List.getElem?_eq_getElem hl)⟩

/-! ### loops -/
/-- a turn's end, then: J if the loop goes on, R of the loop's end otherwise -/
def turnP (tmp : List Nat) (J : Env → Prop) (R : RS → Prop) : RS → Prop
  | .nx e => J (wipeE e tmp)
  | .ct e => J (wipeE e tmp)
  | .bk e => R (.nx (wipeE e tmp))
  | .rt r e => R (.rt r e)
  | .ex x e => R (.ex x e)
  | .no => R .no
@[simp] theorem turnP_nx (tmp J R e) : turnP tmp J R (.nx e) = J (wipeE e tmp) := rfl
@[simp] theorem turnP_ct (tmp J R e) : turnP tmp J R (.ct e) = J (wipeE e tmp) := rfl
@[simp] theorem turnP_bk (tmp J R e) : turnP tmp J R (.bk e) = R (.nx (wipeE e tmp)) := rfl
@[simp] theorem turnP_rt (tmp J R e r) : turnP tmp J R (.rt r e) = R (.rt r e) := rfl
@[simp] theorem turnP_ex (tmp J R e r) : turnP tmp J R (.ex r e) = R (.ex r e) := rfl
theorem forL_inv {tmp : List Nat} {t : Tg} {b : SV} {ds : List D} {R : RS → Prop} (I : Nat → Env → Prop) {e : Env} (h0 : I 0 e)
    (hs : ∀ i d e, ds[i]? = some d → I i e → ∃ e1, tgt t d e = some e1 ∧ turnP tmp (I (i + 1)) R (b e1)) (he : ∀ e, I ds.length e → R (.nx e)) : R (forL tmp t b ds e) := by
  induction ds generalizing I e with
  | nil => exact he e h0
  | cons d ds ih =>
    obtain ⟨e1, h1, h2⟩ := hs 0 d e rfl h0
    unfold forL
    rw [h1]
    dsimp only
    have next : ∀ e2, I 1 e2 → R (forL tmp t b ds e2) := fun e2 h => ih (fun i => I (i + 1)) h (fun i d e hd hi => hs (i + 1) d e (by simpa using hd) hi) (fun e h => he e (by simpa using h))
    cases q : b e1 with
    | nx e2 => rw [q] at h2; exact next _ h2
    | ct e2 => rw [q] at h2; exact next _ h2
    | bk e2 => rw [q] at h2; exact h2
    | rt r e2 => rw [q] at h2; exact h2
    | ex x e2 => rw [q] at h2; exact h2
    | no => rw [q] at h2; exact h2
/-- a loop, then the rest; R: the end of the loop leads to Q -/
theorem seq_for {tmp : List Nat} {t : Tg} {w : WV} {b : SV} {g : SV} {e e0 : Env} {ds : List D} {Q : RS → Prop} (hw : w e = .ok ds e0) (I : Nat → Env → Prop) (h0 : I 0 e0)
    (hs : ∀ R : RS → Prop, (∀ r e, Q (.rt r e) → R (.rt r e)) → (∀ e, Q (g e) → R (.nx e)) → (∀ x e, Q (.ex x e) → R (.ex x e)) → ∀ i d e, ds[i]? = some d → I i e → ∃ e1, tgt t d e = some e1 ∧ turnP tmp (I (i + 1)) R (b e1))
    (he : ∀ e, I ds.length e → Q (g e)) : Q (sSeq (sFor tmp t w b) g e) := by
  rw [sSeq_e, sFor_e, hw]
  exact forL_inv (R := fun r => Q (match r with | .nx e1 => g e1 | r => r)) I h0 (hs _ (fun _ _ h => h) (fun _ h => h) (fun _ _ h => h)) he
theorem sole_for {tmp : List Nat} {t : Tg} {w : WV} {b : SV} {e e0 : Env} {ds : List D} {Q : RS → Prop} (hw : w e = .ok ds e0) (I : Nat → Env → Prop) (h0 : I 0 e0)
    (hs : ∀ i d e, ds[i]? = some d → I i e → ∃ e1, tgt t d e = some e1 ∧ turnP tmp (I (i + 1)) Q (b e1)) (he : ∀ e, I ds.length e → Q (.nx e)) : Q (sFor tmp t w b e) := by
  rw [sFor_e, hw]
  exact forL_inv I h0 hs he
theorem rng_get {a b : Int} {i : Nat} {d : D} (h : (rng a b)[i]? = some d) : d = .int (a + i) ∧ (i : Int) < b - a := by
  unfold rng at h
  rw [List.getElem?_map, Option.map_eq_some_iff] at h
  obtain ⟨j, h1, rfl⟩ := h
  obtain ⟨hl, h2⟩ := List.getElem?_eq_some_iff.mp h1
  rw [List.getElem_range] at h2
  subst h2
  rw [List.length_range] at hl
  exact ⟨rfl, by omega⟩
theorem rng0_get {b : Int} {i : Nat} {d : D} (h : (rng 0 b)[i]? = some d) : d = .int i ∧ (i : Int) < b := by
  have := rng_get h
  rw [Int.zero_add] at this
  exact ⟨this.1, by omega⟩
@[simp] theorem rng_len (a b : Int) : (rng a b).length = (b - a).toNat := by simp [rng]
/-- one item of a list comprehension -/
def lc1 (t : Tg) (c : TV) (f : EV) (e : Env) (d : D) : Option (Option D) := match tgt t d e with
  | some e1 => (match c e1 with
    | .ok true e2 => (match f e2 with
      | .ok r e3 => (match stl r e3 with
        | some (x, _) => some (some x)
        | none => none)
      | _ => none)
    | .ok false _ => some none
    | _ => none)
  | none => none
theorem lcL_fm {α : Type} {t : Tg} {c : TV} {f : EV} {l : List α} {mk : α → D} {e : Env} (G : α → Option D) (h : ∀ a ∈ l, lc1 t c f e (mk a) = some (G a)) {acc : List D} : lcL t c f (l.map mk) e acc = some (acc ++ l.filterMap G) := by
  induction l generalizing acc with
  | nil => simp [lcL]
  | cons a l ih =>
    have h1 := h a List.mem_cons_self
    have h2 := fun acc => ih (fun b hb => h b (List.mem_cons_of_mem _ hb)) (acc := acc)
    rw [List.map_cons]
    unfold lc1 at h1
    unfold lcL
    cases q1 : tgt t (mk a) e with
    | none => rw [q1] at h1; cases h1
    | some e1 =>
      rw [q1] at h1
      dsimp only at h1 ⊢
      cases q2 : c e1 with
      | no => rw [q2] at h1; cases h1
      | ex x e2 => rw [q2] at h1; cases h1
      | ok b e2 =>
        rw [q2] at h1
        cases b with
        | false =>
          dsimp only at h1 ⊢
          rw [h2, List.filterMap_cons, ← Option.some.inj h1]
        | true =>
          dsimp only at h1 ⊢
          cases q3 : f e2 with
          | no => rw [q3] at h1; cases h1
          | ex x e3 => rw [q3] at h1; cases h1
          | ok r e3 =>
            rw [q3] at h1
            dsimp only at h1 ⊢
            cases q4 : stl r e3 with
            | none => rw [q4] at h1; cases h1
            | some p =>
              obtain ⟨x, e4⟩ := p
              rw [q4] at h1
              dsimp only at h1 ⊢
              rw [h2, List.filterMap_cons, ← Option.some.inj h1]
              simp
theorem lcL_mp {α : Type} {t : Tg} {c : TV} {f : EV} {l : List α} {mk : α → D} {e : Env} (G : α → D) (h : ∀ a ∈ l, lc1 t c f e (mk a) = some (some (G a))) {acc : List D} : lcL t c f (l.map mk) e acc = some (acc ++ l.map G) := by
  rw [lcL_fm (fun a => some (G a)) h, ← List.filterMap_eq_map]
  rfl
theorem eLc_ok {own : List Nat} {t : Tg} {w : WV} {c : TV} {f : EV} {e e1 : Env} {xs ys : List D} (hw : w e = .ok xs e1) (hl : lcL t c f xs (wipeE (lock e1) own) [] = some ys) (hz : xs.length ≤ 16777216) : eLc own t w c f e = .ok (.nw (.lst ys)) e1 := by
  unfold eLc
  rw [hw]
  dsimp only
  rw [hl]
  dsimp only
  rw [if_pos hz]
theorem atI0 {α : Type} (c : α) (cs : List α) : L2.atI (c :: cs) 0 = some c := atI_nat (by decide) rfl
theorem lcL_rng {t : Tg} {c : TV} {f : EV} {a b : Int} {e : Env} (G : Nat → D) (h : ∀ i : Nat, (i : Int) < b - a → lc1 t c f e (.int (a + (i : Int))) = some (some (G i))) : lcL t c f (rng a b) e [] = some ((List.range (b - a).toNat).map G) := by
  unfold rng
  rw [lcL_mp (mk := fun i : Nat => D.int (a + (i : Int))) G (fun i hi => h i (by have := List.mem_range.mp hi; omega)), List.nil_append]
theorem run_is {T : Def} {phi : String → List D → RC} {ds : List D} (h : ds.length = T.ms.length) : T.run phi ds = finish T.ms (T.body phi (startE T.ms ds T.n)) := if_pos h
theorem opPow_i (i j : Int) : opPow (.int i) (.int j) = if 0 ≤ j ∧ j ≤ 1000000 ∧ i.natAbs < 2 ^ 64 then some (.fz (.int (i ^ j.toNat))) else none := rfl
theorem okD_ints (n : Nat) (ps : List Int) : okD (n + 1) (.lst (ps.map .int)) = true := by
  show (ps.map D.int).all (okD n) = true
  rw [List.all_map, List.all_eq_true]
  intro p _
  cases n <;> rfl
theorem opEq_nil (ps : List Int) : opEq (.lst (ps.map .int)) (.lst []) = some (.fz (.bl ps.isEmpty)) := by
  unfold opEq dEq
  rw [okD_ints 5]
  show bRV (some (PyData.eqv (.list ((ps.map D.int).map (py 5))) (.list []))) = _
  cases ps <;> simp [PyData.eqv, PyData.eqvAll]
end S3

/-! P2: kinds of plain data whose == is =; slices; what walks of lists give. -/
namespace S3
open PySem
class Enc (α : Type) [DecidableEq α] where
  enc : α → D
  pd : α → PyData
  dep : Nat
  ok : ∀ a n, dep ≤ n → okD n (enc a) = true
  pyE : ∀ a n, dep ≤ n → py n (enc a) = pd a
  eqv : ∀ a b, PyData.eqv (pd a) (pd b) = decide (a = b)
abbrev enc {α : Type} [DecidableEq α] [Enc α] : α → D := Enc.enc
theorem eqvAll_map {α : Type} [DecidableEq α] [Enc α] (l m : List α) : PyData.eqvAll (l.map Enc.pd) (m.map Enc.pd) = decide (l = m) := by
  induction l generalizing m with
  | nil => cases m <;> simp [PyData.eqvAll]
  | cons a l ih =>
    cases m with
    | nil => simp [PyData.eqvAll]
    | cons b m =>
      simp only [List.map_cons, PyData.eqvAll]
      rw [ih, Enc.eqv]
      by_cases h1 : a = b <;> by_cases h2 : l = m <;> simp [h1, h2]
instance : Enc Str where
  enc := .str
  pd := .str
  dep := 0
  ok := fun a n _ => by cases n <;> rfl
  pyE := fun a n _ => by cases n <;> rfl
  eqv := fun a b => by
    by_cases h : a = b
    · subst h; simp [PyData.eqv]
    · simp [PyData.eqv, h]
instance : Enc Int where
  enc := .int
  pd := .int
  dep := 0
  ok := fun a n _ => by cases n <;> rfl
  pyE := fun a n _ => by cases n <;> rfl
  eqv := fun a b => py_ii a b
instance {α β : Type} [DecidableEq α] [DecidableEq β] [Enc α] [Enc β] : Enc (α × β) where
  enc := fun p => .tup [enc p.1, enc p.2]
  pd := fun p => .tuple [Enc.pd p.1, Enc.pd p.2]
  dep := max (Enc.dep α) (Enc.dep β) + 1
  ok := fun a n h => by
    cases n with
    | zero => omega
    | succ n =>
      show [enc a.1, enc a.2].all (okD n) = true
      simp [Enc.ok a.1 n (by omega), Enc.ok a.2 n (by omega)]
  pyE := fun a n h => by
    cases n with
    | zero => omega
    | succ n =>
      show PyData.tuple ([enc a.1, enc a.2].map (py n)) = _
      simp [Enc.pyE a.1 n (by omega), Enc.pyE a.2 n (by omega)]
  eqv := fun a b => by
    obtain ⟨a1, a2⟩ := a
    obtain ⟨b1, b2⟩ := b
    simp only [PyData.eqv, PyData.eqvAll, Enc.eqv]
    by_cases h1 : a1 = b1 <;> by_cases h2 : a2 = b2 <;> simp [h1, h2]
instance {α : Type} [DecidableEq α] [Enc α] : Enc (List α) where
  enc := fun l => .lst (l.map enc)
  pd := fun l => .list (l.map Enc.pd)
  dep := Enc.dep α + 1
  ok := fun a n h => by
    cases n with
    | zero => omega
    | succ n =>
      show (a.map enc).all (okD n) = true
      rw [List.all_map, List.all_eq_true]
      exact fun x _ => Enc.ok x n (by omega)
  pyE := fun a n h => by
    cases n with
    | zero => omega
    | succ n =>
      show PyData.list ((a.map enc).map (py n)) = _
      rw [List.map_map]
      congr 1
      exact List.map_congr_left fun x _ => Enc.pyE x n (by omega)
  eqv := fun a b => by
    show PyData.eqvAll (a.map Enc.pd) (b.map Enc.pd) = _
    exact eqvAll_map a b
section
variable {α : Type} [DecidableEq α] [Enc α]
end
/-! lists and sets of strings -/
def strL (xs : List Str) : List D := xs.map .str
theorem strL_len (xs : List Str) : (strL xs).length = xs.length := List.length_map _
/-! C4..C6's words -/
@[simp] theorem aStar_e {f : EV} {g : AV} {e : Env} : aStar f g e = match f e with
  | .ok r e1 => (match (rd r e1).bind seqI with
    | some xs => (match g e1 with
      | .ok rs e2 => .ok (xs.map .fz ++ rs) e2
      | .ex x e2 => .ex x e2
      | .no => .no)
    | none => .no)
  | .ex x e1 => .ex x e1
  | .no => .no := rfl
@[simp] theorem seqI_l (xs : List D) : seqI (.lst xs) = some xs := rfl
@[simp] theorem seqI_t (xs : List D) : seqI (.tup xs) = some xs := rfl
theorem fzs_app (xs : List D) (rs : List RV) : fzs (xs.map .fz ++ rs) = (fzs rs).map (xs ++ ·) := by
  induction xs with
  | nil => simp
  | cons x xs ih =>
    rw [List.map_cons, List.cons_append, fzs_cons, ih, Option.map_map]
    rfl
theorem toKeys_strL (xs : List Str) : toKeys (strL xs) = some (xs.map Sum.inr) := by
  induction xs with
  | nil => rfl
  | cons x xs ih =>
    show (match toKey (.str x), toKeys (strL xs) with | some k, some ks => some (k :: ks) | _, _ => none) = _
    rw [ih]
    rfl
@[simp] theorem sPutL_e {i : Nat} {f g : EV} {e : Env} : sPutL i f g e = match f e with
  | .ok r e0 => (match stl r e0 with
    | some (v, e1) => if mine isLst (slot e1 i) then (match g e1 with
      | .ok q e2 => (match rd q e2 with
        | some y => if mine isLst (slot e2 i) then (match (slot e2 i).val with
          | some d => (match mPutL d y v with
            | some d' => .nx (e2.set i (reown (slot e2 i) d'))
            | none => .no)
          | none => .no) else .no
        | none => .no)
      | .ex x e1 => .ex x e1
      | .no => .no) else .no
    | none => .no)
  | .ex x e1 => .ex x e1
  | .no => .no := rfl
end S3

/-! P3: triples; own instances; what comprehensions over dicts, sets, two clauses give. -/
namespace S3
open PySem
structure Tri where
  a : Str
  b : Str
  c : Str
deriving DecidableEq
instance : Enc Tri where
  enc := fun p => .tup [.str p.a, .str p.b, .str p.c]
  pd := fun p => .tuple [.str p.a, .str p.b, .str p.c]
  dep := 1
  ok := fun a n h => by
    cases n with
    | zero => omega
    | succ n => show [D.str a.a, .str a.b, .str a.c].all (okD n) = true; cases n <;> rfl
  pyE := fun a n h => by
    cases n with
    | zero => omega
    | succ n => show PyData.tuple ([D.str a.a, .str a.b, .str a.c].map (py n)) = _; cases n <;> rfl
  eqv := fun x y => by
    obtain ⟨a1, a2, a3⟩ := x
    obtain ⟨b1, b2, b3⟩ := y
    simp only [PyData.eqv, PyData.eqvAll]
    by_cases h1 : a1 = b1 <;> by_cases h2 : a2 = b2 <;> by_cases h3 : a3 = b3 <;> simp [h1, h2, h3]
section
variable {e : Env} {f g : EV}
@[simp] theorem noMut_nil : noMut [] = true := rfl
@[simp] theorem noMut_r (ms : List Md) : noMut (.r :: ms) = noMut ms := rfl
@[simp] theorem noMut_v (ms : List Md) : noMut (.v :: ms) = noMut ms := rfl
end
/-! ### dicts -/
section
variable {κ : Type} [DecidableEq κ]
end
/-! ### comprehensions -/
def dc1 (t : Tg) (c : TV) (f g : EV) (e : Env) (d : D) : Option (Option (Key × D)) := match tgt t d e with
  | some e1 => (match c e1 with
    | .ok true e2 => (match f e2 with
      | .ok r e3 => (match (rd r e3).bind toKey with
        | some k => (match g e3 with
          | .ok q e4 => (match stl q e4 with
            | some (x, _) => some (some (k, x))
            | none => none)
          | _ => none)
        | none => none)
      | _ => none)
    | .ok false _ => some none
    | _ => none)
  | none => none
/-! ### sets of tuples -/
end S3

/-! P4: reckoning with deep trees; what their comprehensions give. -/
namespace S3
open PySem
section
variable {e : Env} {f g k a : EV} {p : PV}
@[simp] theorem stl_dn (d : D) : stl (.dn d) e = some (d.sbT, e) := rfl
@[simp] theorem ret_dn (d : D) : ret (.dn d) e = .rt (.dn d) e := rfl
@[simp] theorem setS_dn (i : Nat) (d : D) : setS i (.dn d) e = some (e.set i (.dp true d)) := rfl
@[simp] theorem notOb_int (i : Int) : notOb (.int i) = true := rfl
@[simp] theorem notOb_str (i : Str) : notOb (.str i) = true := rfl
@[simp] theorem view_nil : view [] = [] := rfl
@[simp] theorem view_cons (s : Sl) (e : Env) : view (s :: e) = s.view :: view e := rfl
@[simp] theorem vw_fz (d : D) : (Sl.fz d).view = .fz d := rfl
@[simp] theorem vw_ow (d : D) : (Sl.ow d).view = .bo d := rfl
@[simp] theorem vw_mu (d : D) : (Sl.mu d).view = .bo d := rfl
@[simp] theorem vw_bo (d : D) : (Sl.bo d).view = .bo d := rfl
@[simp] theorem vw_no : (Sl.no).view = .no := rfl
@[simp] theorem vw_dp (g : Bool) (d : D) : (Sl.dp g d).view = .fz d.sbT := rfl
@[simp] theorem leafD_str (x : Str) : leafD (.str x) = true := rfl
@[simp] theorem leafD_int (x : Int) : leafD (.int x) = true := rfl
@[simp] theorem leafD_bl (x : Bool) : leafD (.bl x) = true := rfl
@[simp] theorem leafD_non : leafD .non = true := rfl
@[simp] theorem eLeaf_e : eLeaf f e = match f (view e) with
  | .ok r e1 => (match rd r e1 with
    | some d => if leafD d then .ok (.fz d) e else .no
    | none => .no)
  | _ => .no := rfl
end
/-! ### deep dict comprehensions -/
end S3

namespace S3
open PySem L2
/-! ### the defs as terms -/
def b_valid_name (phi : String → List D → RC) : SV :=
 sSeq (sIf (tOrS (tNotS (tVal (eChain opLe opLe (eC (.int 1)) (eOp1 opLen (eSlot 0)) (eC (.int 8))))) (tVal (eOp2 opNotIn (eOp2 opIx (eSlot 0) (eC (.int 0))) (eC (.str "abcdefghijklmnopqrstuvwxyz"))))) (sRet (eC (.bl false))) (sNx)) (sRet (eOp1 opAll (eLc [1] (.one 1) (wAny (eSlot 0)) (tYesS) (eOr (eOp2 opIn (eSlot 1) (eC (.str "abcdefghijklmnopqrstuvwxyz"))) (eOp2 opIn (eSlot 1) (eC (.str "0123456789")))))))
def T_valid_name : Def := ⟨[.r], 2, b_valid_name⟩

def b__is_name (phi : String → List D → RC) : SV :=
 sRet (eAnd (eOp1 (opIsTy "str") (eSlot 0)) (eCall (phi "valid_name") [.r] (aCons (eSlot 0) (aNil))))
def T__is_name : Def := ⟨[.r], 1, b__is_name⟩

def b__are_things (phi : String → List D → RC) : SV :=
 sSeq (sIf (tOrS (tNotS (tTru (eOp1 (opIsTy "tuple") (eSlot 0)))) (tNotS (tTru (eOp1 opAll (eLc [1] (.one 1) (wAny (eSlot 0)) (tYesS) (eCall (phi "_is_name") [.r] (aCons (eSlot 1) (aNil)))))))) (sRet (eC (.bl false))) (sNx)) (sRet (eOp2 opEq (eOp1 opLen (eOp1 opSet (eSlot 0))) (eOp1 opLen (eSlot 0))))
def T__are_things : Def := ⟨[.r], 2, b__are_things⟩

def b_valid_step (phi : String → List D → RC) : SV :=
 sSeq (sMatch (eSlot 0) ((["begin", "quit"], [1], sRet (eCall (phi "_is_name") [.r] (aCons (eSlot 1) (aNil)))) :: ((["read"], [1, 2], sRet (eAnd (eCall (phi "_is_name") [.r] (aCons (eSlot 1) (aNil))) (eCall (phi "_is_name") [.r] (aCons (eSlot 2) (aNil))))) :: ((["close"], [1, 3], sRet (eAnd (eCall (phi "_is_name") [.r] (aCons (eSlot 1) (aNil))) (eCall (phi "_are_things") [.r] (aCons (eSlot 3) (aNil))))) :: [])))) (sRet (eC (.bl false)))
def T_valid_step : Def := ⟨[.r], 4, b_valid_step⟩

def b_format_step (phi : String → List D → RC) : SV :=
 sSeq (sIf (tNotS (tTru (eCall (phi "valid_step") [.r] (aCons (eSlot 0) (aNil))))) (sRaise "InvalidStep" ["step"] (aKeep (eSlot 0) (aNil))) (sNx)) (sSeq (sIf (tVal (eOp2 opEq (eOp2 opIx (eSlot 0) (eC (.int 0))) (eC (.str "close")))) (sSeq (sUnp [1, 2, 3] (eSlot 0)) (sRet (eOp1 (opJoin " ") (eDisp mkLst (aKeep (eSlot 1) (aKeep (eSlot 2) (aStar (eSlot 3) (aNil)))))))) (sNx)) (sRet (eOp1 (opJoin " ") (eSlot 0))))
def T_format_step : Def := ⟨[.v], 4, b_format_step⟩

def b__step_of (phi : String → List D → RC) : SV :=
 sSeq (sSet 1 (eOp1 (opSpl " ") (eSlot 0))) (sSeq (sIf (tVal (eOp2 opEq (eOp2 opIx (eSlot 1) (eC (.int 0))) (eC (.str "close")))) (sSeq (sSet 2 (eOp3 opCut (eSlot 1) (eI (eC (.int 1))) (eI (eC (.int 2))))) (sSet 3 (eDisp mkTup (aKeep (eC (.str "close")) (aStar (eSlot 2) (aKeep (eOp1 opTuple (eOp2 opCutLo (eSlot 1) (eI (eC (.int 2))))) (aNil))))))) (sSet 3 (eOp1 opTuple (eSlot 1)))) (sSeq (sIf (tTru (eCall (phi "valid_step") [.r] (aCons (eSlot 3) (aNil)))) (sRet (eSlot 3)) (sNx)) (sRet (eC .non))))
def T__step_of : Def := ⟨[.r], 4, b__step_of⟩

def b_format_history (phi : String → List D → RC) : SV :=
 sRet (eOp1 (opJoin "\n") (eLcX [1] (.one 1) (wAny (eSlot 0)) (tYesS) (eCall (phi "format_step") [.v] (aKeep (eSlot 1) (aNil)))))
def T_format_history : Def := ⟨[.r], 2, b_format_history⟩

def b_parse_history (phi : String → List D → RC) : SV :=
 sSeq (sSet 1 (eDisp mkLst (aNil))) (sSeq (sIf (tVal (eOp2 opEq (eSlot 0) (eC (.str "")))) (sRet (eSlot 1)) (sNx)) (sSeq (sFor [2, 3, 4] (.tup [2, 3]) (wEnum1 (eOp1 (opSpl "\n") (eSlot 0))) (sSeq (sSet 4 (eCall (phi "_step_of") [.r] (aCons (eSlot 3) (aNil)))) (sSeq (sIf (tVal (eOp2 opIs (eSlot 4) (eC .non))) (sRaise "InvalidLine" ["number", "line"] (aKeep (eSlot 2) (aKeep (eSlot 3) (aNil)))) (sNx)) (sExpr (eMut 1 isLst mAppend (aKeep (eSlot 4) (aNil))))))) (sRet (eSlot 1))))
def T_parse_history : Def := ⟨[.r], 5, b_parse_history⟩

def b__law_draws_of (phi : String → List D → RC) : SV :=
 sSeq (sSet 1 (eDisp mkLst (aNil))) (sSeq (sFor [2, 3, 4] (.one 2) (wAny (eSlot 0)) (sIf (tVal (eOp2 opLt (eOp1 opLen (eSlot 1)) (eC (.int 72)))) (sSeq (sSet 3 (eOp1 opAbs (eOp1 opInt (eSlot 2)))) (sIf (tVal (eOp2 opLt (eSlot 3) (eOp2 opPow (eC (.int 10)) (eC (.int 18))))) (sFor [4] (.one 4) (wR1 (eC (.int 3))) (sSeq (sSet 3 (eOp2 opMod (eOp1 opInt (eOp2 opAdd (eOp2 opAdd (eOp2 opMul (eSlot 3) (eC (.int 30011))) (eOp2 opMul (eC (.int 7919)) (eSlot 4))) (eC (.int 977)))) (eC (.int 65521)))) (sExpr (eMut 1 isLst mAppend (aKeep (eSlot 3) (aNil)))))) (sFor [4] (.one 4) (wR1 (eC (.int 60))) (sIf (tVal (eOp2 opGt (eSlot 3) (eC (.int 0)))) (sSeq (sExpr (eMut 1 isLst mAppend (aKeep (eOp2 opMod (eOp1 opInt (eSlot 3)) (eC (.int 65536))) (aNil)))) (sSet 3 (eOp2 opDiv (eSlot 3) (eC (.int 65536))))) (sNx))))) (sNx))) (sSeq (sIf (tVal (eOp2 opEq (eSlot 1) (eDisp mkLst (aNil)))) (sSet 1 (eDisp mkLst (aKeep (eC (.int 2)) (aKeep (eC (.int 10)) (aKeep (eC (.int 1)) (aKeep (eC (.int 0)) (aKeep (eC (.int 4)) (aKeep (eC (.int 0)) (aKeep (eC (.int 1052)) (aKeep (eC (.int 0)) (aKeep (eC (.int 148)) (aKeep (eC (.int 26)) (aKeep (eC (.int 132)) (aKeep (eC (.int 0)) (aKeep (eC (.int 20)) (aNil)))))))))))))))) (sNx)) (sRet (eSlot 1))))
def T__law_draws_of : Def := ⟨[.r], 5, b__law_draws_of⟩

def b__law_nth (phi : String → List D → RC) : SV :=
 sSeq (sIf (tVal (eOp2 opLt (eSlot 1) (eOp1 opLen (eSlot 0)))) (sRet (eOp2 opIx (eSlot 0) (eSlot 1))) (sNx)) (sRet (eOp2 opMod (eOp1 opInt (eOp2 opAdd (eOp2 opMul (eOp2 opIx (eSlot 0) (eOp2 opMod (eSlot 1) (eOp1 opLen (eSlot 0)))) (eC (.int 31))) (eOp2 opMul (eSlot 1) (eC (.int 7919))))) (eC (.int 65521))))
def T__law_nth : Def := ⟨[.r, .r], 2, b__law_nth⟩

def b__law_named (phi : String → List D → RC) : SV :=
 sSeq (sSet 2 (eOp2 opIx (eC (.str "abcdefghijklmnopqrstuvwxyz")) (eOp2 opMod (eOp1 opInt (eOp2 opAdd (eOp2 opMul (eSlot 0) (eC (.int 7))) (eOp2 opDiv (eSlot 1) (eC (.int 4))))) (eC (.int 26))))) (sSeq (sSet 3 (eOp2 opMod (eOp1 opInt (eSlot 1)) (eC (.int 4)))) (sSeq (sIf (tAndS (tVal (eOp2 opEq (eSlot 3) (eC (.int 1)))) (tVal (eOp2 opEq (eOp2 opMod (eOp2 opDiv (eOp1 opInt (eSlot 1)) (eC (.int 4))) (eC (.int 2))) (eC (.int 1))))) (sSeq (sSet 4 (eDisp mkLst (aKeep (eC (.str "write")) (aKeep (eC (.str "none")) (aKeep (eC (.str "read")) (aKeep (eC (.str "own")) (aKeep (eC (.str "close")) (aKeep (eC (.str "leads")) (aKeep (eC (.str "program")) (aKeep (eC (.str "to")) (aKeep (eC (.str "begin")) (aKeep (eC (.str "quit")) (aNil))))))))))))) (sRet (eOp2 opAdd (eOp2 opIx (eSlot 4) (eOp2 opMod (eOp1 opInt (eSlot 0)) (eC (.int 10)))) (eOp2 opMul (eC (.str "2")) (eOp2 opDiv (eOp1 opInt (eSlot 0)) (eC (.int 10))))))) (sNx)) (sSeq (sIf (tAndS (tVal (eOp2 opEq (eSlot 3) (eC (.int 3)))) (tVal (eOp2 opEq (eOp2 opMod (eOp2 opDiv (eOp1 opInt (eSlot 1)) (eC (.int 4))) (eC (.int 2))) (eC (.int 1))))) (sRet (eOp2 opAdd (eOp2 opMul (eC (.str "b")) (eOp2 opDiv (eOp1 opInt (eSlot 0)) (eC (.int 7)))) (eOp2 opMul (eC (.str "a")) (eOp2 opAdd (eOp2 opMod (eOp1 opInt (eSlot 0)) (eC (.int 7))) (eC (.int 1)))))) (sNx)) (sSeq (sIf (tVal (eOp2 opEq (eSlot 3) (eC (.int 1)))) (sRet (eOp2 opAdd (eOp2 opMul (eC (.str "q")) (eOp2 opMod (eOp1 opInt (eSlot 0)) (eC (.int 3)))) (eSlot 2))) (sNx)) (sSeq (sIf (tVal (eOp2 opEq (eSlot 3) (eC (.int 2)))) (sSeq (sSet 5 (eOp2 opAdd (eSlot 2) (eOp1 opStr (eOp2 opMod (eOp1 opInt (eOp2 opDiv (eSlot 1) (eC (.int 4)))) (eC (.int 10000)))))) (sSeq (sIf (tVal (eOp2 opEq (eOp2 opMod (eOp1 opInt (eSlot 0)) (eC (.int 4))) (eC (.int 3)))) (sRet (eOp2 opAdd (eSlot 5) (eOp2 opMul (eC (.str "x")) (eOp2 opSub (eC (.int 8)) (eOp1 opLen (eSlot 5)))))) (sNx)) (sRet (eOp2 opAdd (eSlot 5) (eOp2 opMul (eC (.str "x")) (eOp2 opMod (eOp1 opInt (eSlot 0)) (eC (.int 4)))))))) (sNx)) (sSeq (sIf (tVal (eOp2 opEq (eSlot 3) (eC (.int 3)))) (sRet (eOp2 opAdd (eC (.str "m")) (eOp1 opStr (eOp2 opSub (eC (.int 100)) (eOp2 opMul (eC (.int 7)) (eSlot 0)))))) (sNx)) (sRet (eSlot 2))))))))
def T__law_named : Def := ⟨[.r, .r], 6, b__law_named⟩

def b__law_is_name (phi : String → List D → RC) : SV :=
 sSeq (sIf (tOrS (tNotS (tTru (eOp1 (opIsTy "str") (eSlot 0)))) (tOrS (tVal (eOp2 opLt (eOp1 opLen (eSlot 0)) (eC (.int 1)))) (tVal (eOp2 opGt (eOp1 opLen (eSlot 0)) (eC (.int 8)))))) (sRet (eC (.bl false))) (sNx)) (sSeq (sFor [1] (.one 1) (wR1 (eOp1 opLen (eSlot 0))) (sIf (tVal (eOp2 opNotIn (eOp2 opIx (eSlot 0) (eSlot 1)) (eC (.str "abcdefghijklmnopqrstuvwxyz")))) (sIf (tOrS (tVal (eOp2 opEq (eSlot 1) (eC (.int 0)))) (tVal (eOp2 opNotIn (eOp2 opIx (eSlot 0) (eSlot 1)) (eC (.str "0123456789"))))) (sRet (eC (.bl false))) (sNx)) (sNx))) (sRet (eC (.bl true))))
def T__law_is_name : Def := ⟨[.r], 2, b__law_is_name⟩

def b__law_is_step (phi : String → List D → RC) : SV :=
 sSeq (sIf (tOrS (tVal (eOp2 opLt (eOp1 opLen (eSlot 0)) (eC (.int 2)))) (tNotS (tTru (eCallH (phi "_law_is_name") [.r] (aCons (eOp2 opIx (eSlot 0) (eC (.int 1))) (aNil)))))) (sRet (eC (.bl false))) (sNx)) (sSeq (sIf (tOrS (tVal (eOp2 opEq (eOp2 opIx (eSlot 0) (eC (.int 0))) (eC (.str "begin")))) (tVal (eOp2 opEq (eOp2 opIx (eSlot 0) (eC (.int 0))) (eC (.str "quit"))))) (sRet (eOp2 opEq (eOp1 opLen (eSlot 0)) (eC (.int 2)))) (sNx)) (sSeq (sIf (tVal (eOp2 opEq (eOp2 opIx (eSlot 0) (eC (.int 0))) (eC (.str "read")))) (sRet (eAnd (eOp2 opEq (eOp1 opLen (eSlot 0)) (eC (.int 3))) (eCallH (phi "_law_is_name") [.r] (aCons (eOp2 opIx (eSlot 0) (eC (.int 2))) (aNil))))) (sNx)) (sSeq (sIf (tOrS (tVal (eOp2 opNe (eOp2 opIx (eSlot 0) (eC (.int 0))) (eC (.str "close")))) (tOrS (tVal (eOp2 opNe (eOp1 opLen (eSlot 0)) (eC (.int 3)))) (tNotS (tTru (eOp1 (opIsTy "tuple") (eOp2 opIx (eSlot 0) (eC (.int 2)))))))) (sRet (eC (.bl false))) (sNx)) (sSeq (sFor [1] (.one 1) (wR1 (eOp1 opLen (eOp2 opIx (eSlot 0) (eC (.int 2))))) (sIf (tOrS (tNotS (tTru (eCallH (phi "_law_is_name") [.r] (aCons (eOp2 opIx (eOp2 opIx (eSlot 0) (eC (.int 2))) (eSlot 1)) (aNil))))) (tVal (eOp2 opIn (eOp2 opIx (eOp2 opIx (eSlot 0) (eC (.int 2))) (eSlot 1)) (eOp2 opCutHi (eOp2 opIx (eSlot 0) (eC (.int 2))) (eI (eSlot 1)))))) (sRet (eC (.bl false))) (sNx))) (sRet (eC (.bl true)))))))
def T__law_is_step : Def := ⟨[.r], 2, b__law_is_step⟩

def b__law_good_step (phi : String → List D → RC) : SV :=
 sSeq (sSet 2 (eCall (phi "_law_named") [.r, .r] (aCons (eOp2 opMod (eOp2 opDiv (eOp1 opInt (eSlot 0)) (eC (.int 4))) (eC (.int 12))) (aCons (eSlot 1) (aNil))))) (sSeq (sIf (tVal (eOp2 opEq (eOp2 opMod (eOp1 opInt (eSlot 0)) (eC (.int 4))) (eC (.int 0)))) (sRet (eDisp mkTup (aKeep (eC (.str "begin")) (aKeep (eSlot 2) (aNil))))) (sNx)) (sSeq (sIf (tVal (eOp2 opEq (eOp2 opMod (eOp1 opInt (eSlot 0)) (eC (.int 4))) (eC (.int 1)))) (sRet (eDisp mkTup (aKeep (eC (.str "read")) (aKeep (eSlot 2) (aKeep (eCall (phi "_law_named") [.r, .r] (aCons (eOp2 opMod (eOp2 opDiv (eOp1 opInt (eSlot 0)) (eC (.int 64))) (eC (.int 12))) (aCons (eSlot 1) (aNil)))) (aNil)))))) (sNx)) (sSeq (sIf (tAndS (tVal (eOp2 opEq (eOp2 opMod (eOp1 opInt (eSlot 0)) (eC (.int 4))) (eC (.int 3)))) (tVal (eOp2 opEq (eOp2 opMod (eOp2 opDiv (eOp1 opInt (eSlot 0)) (eC (.int 64))) (eC (.int 8))) (eC (.int 0))))) (sRet (eDisp mkTup (aKeep (eC (.str "quit")) (aKeep (eSlot 2) (aNil))))) (sNx)) (sSeq (sSet 3 (eOp2 opAdd (eC (.int 1)) (eOp2 opMod (eOp2 opDiv (eOp1 opInt (eSlot 0)) (eC (.int 64))) (eC (.int 2))))) (sSeq (sSet 4 (eDisp mkTup (aNil))) (sSeq (sFor [5] (.one 5) (wR1 (eOp2 opMod (eOp2 opDiv (eOp1 opInt (eSlot 0)) (eC (.int 512))) (eC (.int 7)))) (sSet 4 (eOp2 opAdd (eSlot 4) (eDisp mkTup (aKeep (eCall (phi "_law_named") [.r, .r] (aCons (eOp2 opAdd (eOp2 opMod (eOp2 opDiv (eOp1 opInt (eSlot 0)) (eC (.int 128))) (eC (.int 3))) (eOp2 opMul (eSlot 5) (eSlot 3))) (aCons (eSlot 1) (aNil)))) (aNil)))))) (sRet (eDisp mkTup (aKeep (eC (.str "close")) (aKeep (eSlot 2) (aKeep (eSlot 4) (aNil))))))))))))
def T__law_good_step : Def := ⟨[.r, .r], 6, b__law_good_step⟩

def b__law_text_of (phi : String → List D → RC) : SV :=
 sSeq (sSet 1 (eOp2 opAdd (eOp2 opAdd (eOp2 opIx (eSlot 0) (eC (.int 0))) (eC (.str " "))) (eOp2 opIx (eSlot 0) (eC (.int 1))))) (sSeq (sIf (tVal (eOp2 opEq (eOp2 opIx (eSlot 0) (eC (.int 0))) (eC (.str "read")))) (sSet 1 (eOp2 opAdd (eOp2 opAdd (eSlot 1) (eC (.str " "))) (eOp2 opIx (eSlot 0) (eC (.int 2))))) (sNx)) (sSeq (sIf (tVal (eOp2 opEq (eOp2 opIx (eSlot 0) (eC (.int 0))) (eC (.str "close")))) (sFor [2] (.one 2) (wAny (eOp2 opIx (eSlot 0) (eC (.int 2)))) (sSet 1 (eOp2 opAdd (eOp2 opAdd (eSlot 1) (eC (.str " "))) (eSlot 2)))) (sNx)) (sRet (eSlot 1))))
def T__law_text_of : Def := ⟨[.r], 3, b__law_text_of⟩

def b__law_words_of (phi : String → List D → RC) : SV :=
 sSeq (sSet 1 (eDisp mkLst (aKeep (eC (.str "")) (aNil)))) (sSeq (sFor [2] (.one 2) (wAny (eSlot 0)) (sIf (tVal (eOp2 opEq (eSlot 2) (eC (.str " ")))) (sExpr (eMut 1 isLst mAppend (aKeep (eC (.str "")) (aNil)))) (sPutL 1 (eOp2 opAdd (eOp2 opIx (eSlot 1) (eOp1 opNeg (eC (.int 1)))) (eSlot 2)) (eOp1 opNeg (eC (.int 1)))))) (sRet (eSlot 1)))
def T__law_words_of : Def := ⟨[.r], 3, b__law_words_of⟩

def b__law_parsed (phi : String → List D → RC) : SV :=
 sSeq (sSet 1 (eCall (phi "_law_words_of") [.r] (aCons (eSlot 0) (aNil)))) (sSeq (sSet 2 (eOp1 opTuple (eSlot 1))) (sSeq (sIf (tVal (eOp2 opEq (eOp2 opIx (eSlot 1) (eC (.int 0))) (eC (.str "close")))) (sSet 2 (eOp2 opAdd (eOp2 opAdd (eDisp mkTup (aKeep (eC (.str "close")) (aNil))) (eOp1 opTuple (eOp3 opCut (eSlot 1) (eI (eC (.int 1))) (eI (eC (.int 2)))))) (eDisp mkTup (aKeep (eOp1 opTuple (eOp2 opCutLo (eSlot 1) (eI (eC (.int 2))))) (aNil))))) (sNx)) (sSeq (sIf (tTru (eCall (phi "_law_is_step") [.r] (aCons (eSlot 2) (aNil)))) (sRet (eSlot 2)) (sNx)) (sRet (eC .non)))))
def T__law_parsed : Def := ⟨[.r], 3, b__law_parsed⟩

def b__law_lines (phi : String → List D → RC) : SV :=
 sSeq (sSet 1 (eDisp mkLst (aKeep (eC (.str "")) (aNil)))) (sSeq (sFor [2] (.one 2) (wAny (eSlot 0)) (sIf (tVal (eOp2 opEq (eSlot 2) (eC (.str "\n")))) (sExpr (eMut 1 isLst mAppend (aKeep (eC (.str "")) (aNil)))) (sPutL 1 (eOp2 opAdd (eOp2 opIx (eSlot 1) (eOp1 opNeg (eC (.int 1)))) (eSlot 2)) (eOp1 opNeg (eC (.int 1)))))) (sSeq (sIf (tVal (eOp2 opEq (eSlot 0) (eC (.str "")))) (sRet (eDisp mkLst (aNil))) (sNx)) (sRet (eSlot 1))))
def T__law_lines : Def := ⟨[.r], 3, b__law_lines⟩

def b__law_right (phi : String → List D → RC) : SV :=
 sSeq (sSet 1 (eLc [2] (.one 2) (wAny (eCall (phi "_law_lines") [.r] (aCons (eSlot 0) (aNil)))) (tYesS) (eCall (phi "_law_parsed") [.r] (aCons (eSlot 2) (aNil))))) (sSeq (sTry (subs ["InvalidLine"]) 3 (sSet 4 (eCall (phi "parse_history") [.r] (aCons (eSlot 0) (aNil)))) (sSeq (sIf (tOrS (tTru (eOp1 (opXis (subs ["InvalidStep"])) (eSlot 3))) (tOrS (tNotS (tTru (eOp1 (opXis (subs ["InvalidStep", "InvalidLine"])) (eSlot 3)))) (tTru (eOp1 (opIsTy "bool") (eOp1 (opXf "number") (eSlot 3)))))) (sRet (eC (.bl false))) (sNx)) (sSeq (sFor [5] (.one 5) (wR1 (eOp1 opLen (eSlot 1))) (sIf (tVal (eOp2 opIs (eOp2 opIx (eSlot 1) (eSlot 5)) (eC .non))) (sSeq (sIf (tOrS (tNotS (tTru (eOp1 (opIsTy "int") (eOp1 (opXf "number") (eSlot 3))))) (tVal (eOp2 opNe (eOp1 (opXf "number") (eSlot 3)) (eOp2 opAdd (eSlot 5) (eC (.int 1)))))) (sRet (eC (.bl false))) (sNx)) (sRet (eOp2 opEq (eOp1 (opXf "line") (eSlot 3)) (eOp2 opIx (eCallH (phi "_law_lines") [.r] (aCons (eSlot 0) (aNil))) (eSlot 5))))) (sNx))) (sRet (eC (.bl false)))))) (sRet (eAnd (eOp1 (opIsTy "list") (eSlot 4)) (eAnd (eOp2 opNotIn (eC .non) (eSlot 1)) (eOp2 opEq (eSlot 4) (eSlot 1))))))
def T__law_right : Def := ⟨[.r], 6, b__law_right⟩

def b__law_written (phi : String → List D → RC) : SV :=
 sSeq (sSet 1 (eOp1 opList (eSlot 0))) (sSeq (sTry (subs ["InvalidStep"]) 2 (sSet 3 (eCall (phi "format_history") [.r] (aCons (eSlot 1) (aNil)))) (sSeq (sFor [4] (.one 4) (wAny (eSlot 0)) (sIf (tNotS (tTru (eCallH (phi "_law_is_step") [.r] (aCons (eSlot 4) (aNil))))) (sRet (eAnd (eOp2 opEq (eSlot 1) (eSlot 0)) (eAnd (eOp1 (opXis (subs ["InvalidStep", "InvalidLine"])) (eSlot 2)) (eOp2 opEq (eOp1 (opXf "step") (eSlot 2)) (eSlot 4))))) (sNx))) (sRet (eC (.bl false))))) (sSeq (sFor [4] (.one 4) (wAny (eSlot 0)) (sIf (tNotS (tTru (eCall (phi "_law_is_step") [.r] (aCons (eSlot 4) (aNil))))) (sRet (eC (.bl false))) (sNx))) (sSeq (sIf (tOrS (tVal (eOp2 opNe (eSlot 1) (eSlot 0))) (tNotS (tTru (eOp1 (opIsTy "str") (eSlot 3))))) (sRet (eC (.bl false))) (sNx)) (sRet (eOp2 opEq (eSlot 3) (eOp1 (opJoin "\n") (eLc [4] (.one 4) (wAny (eSlot 0)) (tYesS) (eCall (phi "_law_text_of") [.r] (aCons (eSlot 4) (aNil))))))))))
def T__law_written : Def := ⟨[.r], 5, b__law_written⟩

def b_law (phi : String → List D → RC) : SV :=
 sSeq (sSet 1 (eCall (phi "_law_draws_of") [.r] (aCons (eSlot 0) (aNil)))) (sSeq (sSet 2 (eOp2 opDiv (eOp1 opInt (eOp2 opIx (eSlot 1) (eC (.int 0)))) (eC (.int 8)))) (sSeq (sSet 3 (eDisp mkLst (aNil))) (sSeq (sFor [4] (.one 4) (wR1 (eOp2 opMod (eOp1 opInt (eOp2 opIx (eSlot 1) (eC (.int 1)))) (eC (.int 21)))) (sExpr (eMut 3 isLst mAppend (aKeep (eCall (phi "_law_good_step") [.r, .r] (aCons (eCall (phi "_law_nth") [.r, .r] (aCons (eSlot 1) (aCons (eOp2 opAdd (eC (.int 3)) (eSlot 4)) (aNil)))) (aCons (eSlot 2) (aNil)))) (aNil))))) (sSeq (sSet 5 (eLc [6] (.one 6) (wAny (eSlot 3)) (tYesS) (eCall (phi "_law_text_of") [.r] (aCons (eSlot 6) (aNil))))) (sSeq (sSet 7 (eOp1 (opJoin "\n") (eSlot 5))) (sSeq (sSet 8 (eDisp mkLst (aKeep (eC (.str "")) (aKeep (eC (.str " ")) (aKeep (eC (.str "begin")) (aKeep (eC (.str "begin A")) (aKeep (eC (.str "read a")) (aKeep (eC (.str "close")) (aKeep (eC (.str "quit a b")) (aKeep (eC (.str "close a x x")) (aNil))))))))))) (sSeq (sSet 8 (eOp2 opAdd (eSlot 8) (eDisp mkLst (aKeep (eC (.str "begin  a")) (aKeep (eC (.str "open a")) (aKeep (eC (.str "begin a ")) (aNil))))))) (sSeq (sSet 9 (eOp2 opIx (eSlot 8) (eOp2 opMod (eOp1 opInt (eOp2 opIx (eSlot 1) (eC (.int 2)))) (eC (.int 11))))) (sSeq (sSet 10 (eOp2 opIx (eSlot 8) (eOp2 opMod (eOp2 opDiv (eOp1 opInt (eOp2 opIx (eSlot 1) (eC (.int 2)))) (eC (.int 11))) (eC (.int 11))))) (sSeq (sSet 11 (eOp2 opMod (eOp2 opDiv (eOp1 opInt (eOp2 opIx (eSlot 1) (eC (.int 2)))) (eC (.int 121))) (eOp2 opAdd (eOp1 opLen (eSlot 5)) (eC (.int 1))))) (sSeq (sSet 12 (eOp2 opAdd (eOp2 opAdd (eOp2 opCutHi (eSlot 5) (eI (eSlot 11))) (eDisp mkLst (aKeep (eSlot 9) (aNil)))) (eOp2 opCutLo (eSlot 5) (eI (eSlot 11))))) (sSeq (sSet 13 (eDisp mkLst (aKeep (eSlot 7) (aKeep (eOp2 opAdd (eSlot 7) (eC (.str "\n"))) (aKeep (eOp2 opAdd (eC (.str "\n")) (eSlot 7)) (aKeep (eOp1 (opJoin "\n") (eSlot 12)) (aNil))))))) (sSeq (sSet 13 (eOp2 opAdd (eSlot 13) (eDisp mkLst (aKeep (eOp1 (opJoin "\n") (eOp2 opAdd (eSlot 12) (eDisp mkLst (aKeep (eSlot 10) (aNil))))) (aKeep (eOp1 (opJoin "\n") (eOp2 opAdd (eDisp mkLst (aKeep (eSlot 10) (aNil))) (eSlot 12))) (aNil)))))) (sSeq (sSet 14 (eOp2 opAdd (eSlot 3) (eLc [4] (.one 4) (wR1 (eOp2 opSub (eC (.int 79)) (eOp1 opLen (eSlot 3)))) (tYesS) (eDisp mkTup (aKeep (eC (.str "quit")) (aKeep (eC (.str "a")) (aNil))))))) (sSeq (sSet 15 (eLc [6] (.one 6) (wAny (eSlot 14)) (tYesS) (eCall (phi "_law_text_of") [.r] (aCons (eSlot 6) (aNil))))) (sSeq (sSet 13 (eOp2 opAdd (eSlot 13) (eDisp mkLst (aKeep (eOp1 (opJoin "\n") (eSlot 15)) (aKeep (eOp1 (opJoin "\n") (eOp2 opAdd (eSlot 15) (eDisp mkLst (aKeep (eSlot 10) (aNil))))) (aNil)))))) (sSeq (sFor [16] (.one 16) (wAny (eSlot 13)) (sIf (tNotS (tTru (eCall (phi "_law_right") [.r] (aCons (eSlot 16) (aNil))))) (sRet (eC (.bl false))) (sNx))) (sSeq (sSet 17 (eDisp mkLst (aKeep (eDisp mkTup (aNil)) (aKeep (eDisp mkTup (aKeep (eC (.str "begin")) (aNil))) (aKeep (eDisp mkTup (aKeep (eC (.str "close")) (aKeep (eC (.str "a")) (aKeep (eDisp mkTup (aKeep (eC (.str "x")) (aKeep (eC (.str "x")) (aNil)))) (aNil))))) (aKeep (eDisp mkTup (aKeep (eC (.str "read")) (aKeep (eC (.str "a")) (aKeep (eC (.str "")) (aNil))))) (aNil))))))) (sSeq (sSet 17 (eOp2 opAdd (eSlot 17) (eDisp mkLst (aKeep (eDisp mkTup (aKeep (eC (.str "begin")) (aKeep (eC (.str "a")) (aKeep (eC (.str "b")) (aNil))))) (aKeep (eDisp mkTup (aKeep (eC (.str "quit")) (aKeep (eC (.str "9")) (aNil)))) (aNil)))))) (sSeq (sSet 9 (eOp2 opIx (eSlot 17) (eOp2 opMod (eOp1 opInt (eOp2 opIx (eSlot 1) (eC (.int 2)))) (eC (.int 6))))) (sSeq (sSet 10 (eOp2 opIx (eSlot 17) (eOp2 opMod (eOp2 opDiv (eOp1 opInt (eOp2 opIx (eSlot 1) (eC (.int 2)))) (eC (.int 6))) (eC (.int 6))))) (sSeq (sSet 12 (eOp2 opAdd (eOp2 opAdd (eOp2 opCutHi (eSlot 3) (eI (eSlot 11))) (eDisp mkLst (aKeep (eSlot 9) (aNil)))) (eOp2 opCutLo (eSlot 3) (eI (eSlot 11))))) (sSeq (sSet 18 (eDisp mkLst (aKeep (eSlot 3) (aKeep (eSlot 12) (aKeep (eOp2 opAdd (eSlot 12) (eDisp mkLst (aKeep (eSlot 10) (aNil)))) (aKeep (eOp2 opAdd (eDisp mkLst (aKeep (eSlot 10) (aNil))) (eSlot 12)) (aNil))))))) (sSeq (sFor [16] (.one 16) (wAny (eOp2 opAdd (eSlot 18) (eDisp mkLst (aKeep (eSlot 14) (aKeep (eOp2 opAdd (eSlot 14) (eDisp mkLst (aKeep (eSlot 10) (aNil)))) (aNil)))))) (sIf (tNotS (tTru (eCall (phi "_law_written") [.r] (aCons (eSlot 16) (aNil))))) (sRet (eC (.bl false))) (sNx))) (sRet (eC (.bl true)))))))))))))))))))))))))))
def T_law : Def := ⟨[.v], 19, b_law⟩

def tab : String → Option Def
  | "valid_name" => some T_valid_name
  | "_is_name" => some T__is_name
  | "_are_things" => some T__are_things
  | "valid_step" => some T_valid_step
  | "format_step" => some T_format_step
  | "_step_of" => some T__step_of
  | "format_history" => some T_format_history
  | "parse_history" => some T_parse_history
  | "_law_draws_of" => some T__law_draws_of
  | "_law_nth" => some T__law_nth
  | "_law_named" => some T__law_named
  | "_law_is_name" => some T__law_is_name
  | "_law_is_step" => some T__law_is_step
  | "_law_good_step" => some T__law_good_step
  | "_law_text_of" => some T__law_text_of
  | "_law_words_of" => some T__law_words_of
  | "_law_parsed" => some T__law_parsed
  | "_law_lines" => some T__law_lines
  | "_law_right" => some T__law_right
  | "_law_written" => some T__law_written
  | "law" => some T_law
  | _ => none
/-! ### the text says these terms -/
def top (i : Nat) : Stmt := PySem.Challenge.pw_letforget_k04_whole_written_history.main.body.getD i (.Pass ⟨0, 0, 0, 0⟩)
def clsB (s : Stmt) (j : Nat) : Stmt := match s with | .ClassDef _ _ _ body _ _ _ _ _ _ _ => body.getD j (.Pass ⟨0, 0, 0, 0⟩) | s => s
abbrev st_InvalidStep : Stmt := clsB (top 2) 0
theorem it_InvalidStep : PySem.S3X.InitTxt (defArgs st_InvalidStep) (defScope st_InvalidStep) (defBody st_InvalidStep) ["step"] := { head := ⟨_, rfl, rfl⟩, body := ⟨_, _, _, _, _, _, _, _, _, rfl, rfl, ⟨⟨_, _, _, _, rfl⟩, trivial⟩⟩, su := rfl, cl := rfl, se := rfl, fl := by decide +kernel, nd := by decide, db := by decide, nc := by decide +kernel, co := rfl, gn := rfl, kd := rfl }
abbrev st_InvalidLine : Stmt := clsB (top 3) 0
theorem it_InvalidLine : PySem.S3X.InitTxt (defArgs st_InvalidLine) (defScope st_InvalidLine) (defBody st_InvalidLine) ["number", "line"] := { head := ⟨_, rfl, rfl⟩, body := ⟨_, _, _, _, _, _, _, _, _, rfl, rfl, ⟨⟨_, _, _, _, rfl⟩, ⟨⟨_, _, _, _, rfl⟩, trivial⟩⟩⟩, su := rfl, cl := rfl, se := rfl, fl := by decide +kernel, nd := by decide, db := by decide, nc := by decide +kernel, co := rfl, gn := rfl, kd := rfl }
structure Tab (ca : Str → Option Addr) (P : Program) (w : World) (K : PySem.W.Frag) (mg : Str → Option Value) (base : Heap) (k : Nat) (phi : String → List D → RC) : Prop where
  b_len : mg "len" = none
  b_all : mg "all" = none
  b_isinstance : mg "isinstance" = none
  b_str : mg "str" = none
  b_tuple : mg "tuple" = none
  b_set : mg "set" = none
  b_super : mg "super" = none
  b_enumerate : mg "enumerate" = none
  b_int : mg "int" = none
  b_abs : mg "abs" = none
  b_range : mg "range" = none
  b_bool : mg "bool" = none
  b_list : mg "list" = none
  e_LONGEST : ∃ t, mg "LONGEST" = some (.int 8 t)
  e_LETTERS : ∃ t, mg "LETTERS" = some (.str "abcdefghijklmnopqrstuvwxyz" t)
  e_DIGITS : ∃ t, mg "DIGITS" = some (.str "0123456789" t)
  xs : XsOk ca K ["number", "line", "step"]
  c_InvalidStep : ClsT ca P K mg "InvalidStep" ["step"]
  c_InvalidLine : ClsT ca P K mg "InvalidLine" ["number", "line"]
  is_InvalidStep : IsOwn ca K mg "InvalidStep" (subs ["InvalidStep"])
  is_KeeperError : IsOwn ca K mg "KeeperError" (subs ["InvalidStep", "InvalidLine"])
  x_InvalidLine : ExcOf ca K mg "InvalidLine" (subs ["InvalidLine"])
  x_InvalidStep : ExcOf ca K mg "InvalidStep" (subs ["InvalidStep"])
  f_valid_name : FnT ca P w K mg base k "valid_name" [.r] (phi "valid_name")
  f__is_name : FnT ca P w K mg base k "_is_name" [.r] (phi "_is_name")
  f__are_things : FnT ca P w K mg base k "_are_things" [.r] (phi "_are_things")
  f_valid_step : FnT ca P w K mg base k "valid_step" [.r] (phi "valid_step")
  f_format_step : FnT ca P w K mg base k "format_step" [.v] (phi "format_step")
  f__step_of : FnT ca P w K mg base k "_step_of" [.r] (phi "_step_of")
  f_format_history : FnT ca P w K mg base k "format_history" [.r] (phi "format_history")
  f_parse_history : FnT ca P w K mg base k "parse_history" [.r] (phi "parse_history")
  f__law_draws_of : FnT ca P w K mg base k "_law_draws_of" [.r] (phi "_law_draws_of")
  f__law_nth : FnT ca P w K mg base k "_law_nth" [.r, .r] (phi "_law_nth")
  f__law_named : FnT ca P w K mg base k "_law_named" [.r, .r] (phi "_law_named")
  f__law_is_name : FnT ca P w K mg base k "_law_is_name" [.r] (phi "_law_is_name")
  f__law_is_step : FnT ca P w K mg base k "_law_is_step" [.r] (phi "_law_is_step")
  f__law_good_step : FnT ca P w K mg base k "_law_good_step" [.r, .r] (phi "_law_good_step")
  f__law_text_of : FnT ca P w K mg base k "_law_text_of" [.r] (phi "_law_text_of")
  f__law_words_of : FnT ca P w K mg base k "_law_words_of" [.r] (phi "_law_words_of")
  f__law_parsed : FnT ca P w K mg base k "_law_parsed" [.r] (phi "_law_parsed")
  f__law_lines : FnT ca P w K mg base k "_law_lines" [.r] (phi "_law_lines")
  f__law_right : FnT ca P w K mg base k "_law_right" [.r] (phi "_law_right")
  f__law_written : FnT ca P w K mg base k "_law_written" [.r] (phi "_law_written")
  f_law : FnT ca P w K mg base k "law" [.v] (phi "law")
  h__law_is_name : FnTH ca P w K mg base k "_law_is_name" [.r] (phi "_law_is_name")
  h__law_is_step : FnTH ca P w K mg base k "_law_is_step" [.r] (phi "_law_is_step")
  h__law_lines : FnTH ca P w K mg base k "_law_lines" [.r] (phi "_law_lines")
section
variable {ca : Str → Option Addr} {P : Program} {w : World} {K : PySem.W.Frag} {mg : Str → Option Value} {base : Heap} {k : Nat} {phi : String → List D → RC}
noncomputable def Tab.t_LONGEST (G : Tab ca P w K mg base k phi) : Tok := Classical.choose G.e_LONGEST
theorem Tab.v_LONGEST (G : Tab ca P w K mg base k phi) : mg "LONGEST" = some (.int 8 G.t_LONGEST) := Classical.choose_spec G.e_LONGEST
noncomputable def Tab.t_LETTERS (G : Tab ca P w K mg base k phi) : Tok := Classical.choose G.e_LETTERS
theorem Tab.v_LETTERS (G : Tab ca P w K mg base k phi) : mg "LETTERS" = some (.str "abcdefghijklmnopqrstuvwxyz" G.t_LETTERS) := Classical.choose_spec G.e_LETTERS
noncomputable def Tab.t_DIGITS (G : Tab ca P w K mg base k phi) : Tok := Classical.choose G.e_DIGITS
theorem Tab.v_DIGITS (G : Tab ca P w K mg base k phi) : mg "DIGITS" = some (.str "0123456789" G.t_DIGITS) := Classical.choose_spec G.e_DIGITS
abbrev st_valid_name : Stmt := top 8
abbrev N_valid_name : List Str := ["text", "char"]
theorem sc_valid_name : FnScope N_valid_name ["text"] (defScope st_valid_name) := ⟨rfl, rfl, rfl, by decide +kernel, rfl, by decide +kernel, by decide +kernel⟩
theorem ok_valid_name {f : Addr} {fd : FuncData} (Fn : L2.Fun K "valid_name" "valid_name" st_valid_name f fd) (G : Tab ca P w K mg base k phi) : FnOk P w K mg base (L2N.CX P w) (2 * (k + 1)) f fd ["text"] (spOf ⟨P, w, K, ca⟩ T_valid_name.ms (T_valid_name.run phi)) := by
  refine fn_ok (k := 2 * k + 1) (T := T_valid_name) (Nm := N_valid_name) Fn sc_valid_name rfl rfl (by decide) fun cdv A outer s H E hr tk po hcd => ?_
  have nd : N_valid_name.Nodup := sc_valid_name.nd
  show Bv ca _ _ _ (b_valid_name phi)
  unfold b_valid_name
  exact bv_cons (sv_if (tv_w (wv_or (tv_not (tv_chain op_leA s_le op_leA s_le (ev_int) (ev_call1 call_lenA s_len G.b_len (ev_slot 0)) ((ev_glob (v := .int 8) (by rfl) G.v_LONGEST ⟨_, rfl⟩ (fun _ => .int _))))) (wv_or1 (tv_cmp (op_ninA (u65 hr)) s_nin (ev_ix (ev_slot 0) (ev_int) (hu_of hr)) ((ev_glob (v := .str "abcdefghijklmnopqrstuvwxyz") (by rfl) G.v_LETTERS ⟨_, rfl⟩ (fun _ => .str _ (by decide +kernel)))) (by rfl))))) (bv_one (sv_ret (ev_bl))) (bv_nil))
     (bv_one (sv_ret (ev_call1 (cr_all rfl) s_all G.b_all (ev_lc (own := [("char", 1)]) rfl nd (wv_any (ev_slot 0)) (blkOk_by (own := [("char", 1)]) (N := N_valid_name) (sc := defScope st_valid_name) (by decide +kernel)) (tg_one) (by decide) (fun _ _ _ _ _ => pg_name (i := 1) nd rfl (by first | exact Or.inl rfl | exact Or.inr rfl)) (fun _ _ _ _ _ => ptv_nil) (fun _ _ _ _ _ => ev_or (ev_cmp (op_inA (u65 hr)) s_in (ev_slot 1) ((ev_glob (v := .str "abcdefghijklmnopqrstuvwxyz") (by rfl) G.v_LETTERS ⟨_, rfl⟩ (fun _ => .str _ (by decide +kernel)))) (by rfl)) (ev_one (ev_cmp (op_inA (u65 hr)) s_in (ev_slot 1) ((ev_glob (v := .str "0123456789") (by rfl) G.v_DIGITS ⟨_, rfl⟩ (fun _ => .str _ (by decide +kernel)))) (by rfl))))))))

abbrev st__is_name : Stmt := top 9
abbrev N__is_name : List Str := ["part"]
theorem sc__is_name : FnScope N__is_name ["part"] (defScope st__is_name) := ⟨rfl, rfl, rfl, by decide +kernel, rfl, by decide +kernel, by decide +kernel⟩
theorem ok__is_name {f : Addr} {fd : FuncData} (Fn : L2.Fun K "_is_name" "_is_name" st__is_name f fd) (G : Tab ca P w K mg base k phi) : FnOk P w K mg base (L2N.CX P w) (2 * (k + 1)) f fd ["part"] (spOf ⟨P, w, K, ca⟩ T__is_name.ms (T__is_name.run phi)) := by
  refine fn_ok (k := 2 * k + 1) (T := T__is_name) (Nm := N__is_name) Fn sc__is_name rfl rfl (by decide) fun cdv A outer s H E hr tk po hcd => ?_
  have nd : N__is_name.Nodup := sc__is_name.nd
  show Bv ca _ _ _ (b__is_name phi)
  unfold b__is_name
  exact bv_one (sv_ret (ev_and (ev_isty (T := "str") (s_isty rfl rfl rfl rfl rfl rfl rfl) G.b_isinstance G.b_str (ev_slot 0)) (ev_one (ev_call G.f_valid_name hr tk (av_cons (ev_slot 0) (av_nil))))))

abbrev st__are_things : Stmt := top 10
abbrev N__are_things : List Str := ["part", "thing"]
theorem sc__are_things : FnScope N__are_things ["part"] (defScope st__are_things) := ⟨rfl, rfl, rfl, by decide +kernel, rfl, by decide +kernel, by decide +kernel⟩
theorem ok__are_things {f : Addr} {fd : FuncData} (Fn : L2.Fun K "_are_things" "_are_things" st__are_things f fd) (G : Tab ca P w K mg base k phi) : FnOk P w K mg base (L2N.CX P w) (2 * (k + 1)) f fd ["part"] (spOf ⟨P, w, K, ca⟩ T__are_things.ms (T__are_things.run phi)) := by
  refine fn_ok (k := 2 * k + 1) (T := T__are_things) (Nm := N__are_things) Fn sc__are_things rfl rfl (by decide) fun cdv A outer s H E hr tk po hcd => ?_
  have nd : N__are_things.Nodup := sc__are_things.nd
  show Bv ca _ _ _ (b__are_things phi)
  unfold b__are_things
  exact bv_cons (sv_if (tv_w (wv_or (tv_not (tv_tru (ev_isty (T := "tuple") (s_isty rfl rfl rfl rfl rfl rfl rfl) G.b_isinstance G.b_tuple (ev_slot 0)))) (wv_or1 (tv_not (tv_tru (ev_call1 (cr_all rfl) s_all G.b_all (ev_lc (own := [("thing", 1)]) rfl nd (wv_any (ev_slot 0)) (blkOk_by (own := [("thing", 1)]) (N := N__are_things) (sc := defScope st__are_things) (by decide +kernel)) (tg_one) (by decide) (fun _ _ _ _ _ => pg_name (i := 1) nd rfl (by first | exact Or.inl rfl | exact Or.inr rfl)) (fun _ _ _ _ _ => ptv_nil) (fun _ _ _ _ _ => ev_call G.f__is_name hr takes0 (av_cons (ev_slot 1) (av_nil)))))))))) (bv_one (sv_ret (ev_bl))) (bv_nil))
     (bv_one (sv_ret (ev_cmp (op_eqD hr.units) s_eq (ev_call1 call_lenA s_len G.b_len (ev_type1 (cr_setG rfl) s_set G.b_set (ev_slot 0))) (ev_call1 call_lenA s_len G.b_len (ev_slot 0)) (nomark _))))

abbrev st_valid_step : Stmt := top 11
abbrev N_valid_step : List Str := ["step", "program", "thing", "things"]
theorem sc_valid_step : FnScope N_valid_step ["step"] (defScope st_valid_step) := ⟨rfl, rfl, rfl, by decide +kernel, rfl, by decide +kernel, by decide +kernel⟩
theorem ok_valid_step {f : Addr} {fd : FuncData} (Fn : L2.Fun K "valid_step" "valid_step" st_valid_step f fd) (G : Tab ca P w K mg base k phi) : FnOk P w K mg base (L2N.CX P w) (2 * (k + 1)) f fd ["step"] (spOf ⟨P, w, K, ca⟩ T_valid_step.ms (T_valid_step.run phi)) := by
  refine fn_ok (k := 2 * k + 1) (T := T_valid_step) (Nm := N_valid_step) Fn sc_valid_step rfl rfl (by decide) fun cdv A outer s H E hr tk po hcd => ?_
  have nd : N_valid_step.Nodup := sc_valid_step.nd
  show Bv ca _ _ _ (b_valid_step phi)
  unfold b_valid_step
  exact bv_cons (sv_match (u65 hr) nd (.cons (.or (.cons (.nil))) (.cons rfl rfl (.nil)) (bv_one (sv_ret (ev_call G.f__is_name hr tk (av_cons (ev_slot 1) (av_nil)))))
     (.cons (.one) (.cons rfl rfl (.cons rfl rfl (.nil))) (bv_one (sv_ret (ev_and (ev_call G.f__is_name hr tk (av_cons (ev_slot 1) (av_nil))) (ev_one (ev_call G.f__is_name hr tk (av_cons (ev_slot 2) (av_nil)))))))
     (.cons (.one) (.cons rfl rfl (.cons rfl rfl (.nil))) (bv_one (sv_ret (ev_and (ev_call G.f__is_name hr tk (av_cons (ev_slot 1) (av_nil))) (ev_one (ev_call G.f__are_things hr tk (av_cons (ev_slot 3) (av_nil)))))))
     (.nil)))) (ev_slot 0))
     (bv_one (sv_ret (ev_bl)))

abbrev st_format_step : Stmt := top 12
abbrev N_format_step : List Str := ["step", "kind", "program", "things"]
theorem sc_format_step : FnScope N_format_step ["step"] (defScope st_format_step) := ⟨rfl, rfl, rfl, by decide +kernel, rfl, by decide +kernel, by decide +kernel⟩
theorem ok_format_step {f : Addr} {fd : FuncData} (Fn : L2.Fun K "format_step" "format_step" st_format_step f fd) (G : Tab ca P w K mg base k phi) : FnOk P w K mg base (L2N.CX P w) (2 * (k + 1)) f fd ["step"] (spOf ⟨P, w, K, ca⟩ T_format_step.ms (T_format_step.run phi)) := by
  refine fn_ok (k := 2 * k + 1) (T := T_format_step) (Nm := N_format_step) Fn sc_format_step rfl rfl (by decide) fun cdv A outer s H E hr tk po hcd => ?_
  have nd : N_format_step.Nodup := sc_format_step.nd
  show Bv ca _ _ _ (b_format_step phi)
  unfold b_format_step
  exact bv_cons (sv_if (tv_not (tv_tru (ev_call G.f_valid_step hr tk (av_cons (ev_slot 0) (av_nil))))) (bv_one (sv_raise G.c_InvalidStep G.b_super hr tk (av_keep (ev_slot 0) (av_nil)))) (bv_nil))
     (bv_cons (sv_if (tv_cmp (op_eqD hr.units) s_eq (ev_ix (ev_slot 0) (ev_int) (hu_of hr)) (ev_str) (nomark _)) (bv_cons (sv_unp rfl (ev_slot 0) (pgs_cons (pg_name (i := 1) nd rfl (by first | exact Or.inl rfl | exact Or.inr rfl)) (pgs_cons (pg_name (i := 2) nd rfl (by first | exact Or.inl rfl | exact Or.inr rfl)) (pgs_cons (pg_name (i := 3) nd rfl (by first | exact Or.inl rfl | exact Or.inr rfl)) (pgs_nil)))) (tgs_cons (tgs_cons (tgs_cons (tgs_nil)))))
     (bv_one (sv_ret (ev_join (ev_lst (av_keep (ev_slot 1) (av_keep (ev_slot 2) (av_star (ev_slot 3) (av_nil))))))))) (bv_nil))
     (bv_one (sv_ret (ev_join (ev_slot 0)))))

abbrev st__step_of : Stmt := top 13
abbrev N__step_of : List Str := ["line", "words", "program", "step"]
theorem sc__step_of : FnScope N__step_of ["line"] (defScope st__step_of) := ⟨rfl, rfl, rfl, by decide +kernel, rfl, by decide +kernel, by decide +kernel⟩
theorem ok__step_of {f : Addr} {fd : FuncData} (Fn : L2.Fun K "_step_of" "_step_of" st__step_of f fd) (G : Tab ca P w K mg base k phi) : FnOk P w K mg base (L2N.CX P w) (2 * (k + 1)) f fd ["line"] (spOf ⟨P, w, K, ca⟩ T__step_of.ms (T__step_of.run phi)) := by
  refine fn_ok (k := 2 * k + 1) (T := T__step_of) (Nm := N__step_of) Fn sc__step_of rfl rfl (by decide) fun cdv A outer s H E hr tk po hcd => ?_
  have nd : N__step_of.Nodup := sc__step_of.nd
  show Bv ca _ _ _ (b__step_of phi)
  unfold b__step_of
  exact bv_cons (sv_set 1 nd (ev_spl (ev_slot 0)))
     (bv_cons (sv_if (tv_cmp (op_eqD hr.units) s_eq (ev_ix (ev_slot 1) (ev_int) (hu_of hr)) (ev_str) (nomark _)) (bv_cons (sv_set 2 nd (ev_cut (ev_slot 1) (ev_int) (ev_int)))
     (bv_one (sv_set 3 nd (ev_tup (av_keep (ev_str) (av_star (ev_slot 2) (av_keep (ev_type1 call_tuple_of s_tuple G.b_tuple (ev_cutLo (ev_slot 1) (ev_int))) (av_nil)))))))) (bv_one (sv_set 3 nd (ev_type1 call_tuple_of s_tuple G.b_tuple (ev_slot 1)))))
     (bv_cons (sv_if (tv_tru (ev_call G.f_valid_step hr tk (av_cons (ev_slot 3) (av_nil)))) (bv_one (sv_ret (ev_slot 3))) (bv_nil))
     (bv_one (sv_ret (ev_non)))))

abbrev st_format_history : Stmt := top 14
abbrev N_format_history : List Str := ["steps", "step"]
theorem sc_format_history : FnScope N_format_history ["steps"] (defScope st_format_history) := ⟨rfl, rfl, rfl, by decide +kernel, rfl, by decide +kernel, by decide +kernel⟩
theorem ok_format_history {f : Addr} {fd : FuncData} (Fn : L2.Fun K "format_history" "format_history" st_format_history f fd) (G : Tab ca P w K mg base k phi) : FnOk P w K mg base (L2N.CX P w) (2 * (k + 1)) f fd ["steps"] (spOf ⟨P, w, K, ca⟩ T_format_history.ms (T_format_history.run phi)) := by
  refine fn_ok (k := 2 * k + 1) (T := T_format_history) (Nm := N_format_history) Fn sc_format_history rfl rfl (by decide) fun cdv A outer s H E hr tk po hcd => ?_
  have nd : N_format_history.Nodup := sc_format_history.nd
  show Bv ca _ _ _ (b_format_history phi)
  unfold b_format_history
  exact bv_one (sv_ret (ev_join (ev_lcX (own := [("step", 1)]) rfl rfl tk rfl nd (wv_any (ev_slot 0)) (blkOk_by (own := [("step", 1)]) (N := N_format_history) (sc := defScope st_format_history) (by decide +kernel)) (tg_one) (by decide) (fun _ _ _ _ _ => pg_name (i := 1) nd rfl (by first | exact Or.inl rfl | exact Or.inr rfl)) (fun _ _ _ _ _ => ptv_nil) (fun _ _ _ _ _ _ _ tk => ev_call G.f_format_step hr tk (av_keep (ev_slot 1) (av_nil))))))

abbrev st_parse_history : Stmt := top 15
abbrev N_parse_history : List Str := ["text", "steps", "number", "line", "step"]
theorem sc_parse_history : FnScope N_parse_history ["text"] (defScope st_parse_history) := ⟨rfl, rfl, rfl, by decide +kernel, rfl, by decide +kernel, by decide +kernel⟩
theorem ok_parse_history {f : Addr} {fd : FuncData} (Fn : L2.Fun K "parse_history" "parse_history" st_parse_history f fd) (G : Tab ca P w K mg base k phi) : FnOk P w K mg base (L2N.CX P w) (2 * (k + 1)) f fd ["text"] (spOf ⟨P, w, K, ca⟩ T_parse_history.ms (T_parse_history.run phi)) := by
  refine fn_ok (k := 2 * k + 1) (T := T_parse_history) (Nm := N_parse_history) Fn sc_parse_history rfl rfl (by decide) fun cdv A outer s H E hr tk po hcd => ?_
  have nd : N_parse_history.Nodup := sc_parse_history.nd
  show Bv ca _ _ _ (b_parse_history phi)
  unfold b_parse_history
  exact bv_cons (sv_set 1 nd (ev_lst (av_nil)))
     (bv_cons (sv_if (tv_cmp (op_eqD hr.units) s_eq (ev_slot 0) (ev_str) (nomark _)) (bv_one (sv_ret (ev_slot 1))) (bv_nil))
     (bv_cons (sv_for (tmp := [2, 3, 4]) (tt := .tup [2, 3]) po rfl (pg_tup rfl (pgs_cons (pg_name (i := 2) nd rfl (by first | exact Or.inl rfl | exact Or.inr rfl)) (pgs_cons (pg_name (i := 3) nd rfl (by first | exact Or.inl rfl | exact Or.inr rfl)) (pgs_nil)))) (tg_tup (tgs_cons (tgs_cons (tgs_nil))) rfl rfl) (wv_enum1 G.b_enumerate (ev_spl (ev_slot 0)))
     (bv_cons (sv_set 4 nd (ev_call G.f__step_of hr tk (av_cons (ev_slot 3) (av_nil))))
     (bv_cons (sv_if (tv_cmp op_isA s_is (ev_slot 4) (ev_non) (nomark _)) (bv_one (sv_raise G.c_InvalidLine G.b_super hr tk (av_keep (ev_slot 2) (av_keep (ev_slot 3) (av_nil))))) (bv_nil))
     (bv_one (sv_expr (ev_append (pv 1) (av_keep (ev_slot 4) (av_nil))))))))
     (bv_one (sv_ret (ev_slot 1)))))

abbrev st__law_draws_of : Stmt := top 17
abbrev N__law_draws_of : List Str := ["_law_script", "_law_pool", "_law_cell", "_law_left", "_law_k"]
theorem sc__law_draws_of : FnScope N__law_draws_of ["_law_script"] (defScope st__law_draws_of) := ⟨rfl, rfl, rfl, by decide +kernel, rfl, by decide +kernel, by decide +kernel⟩
theorem ok__law_draws_of {f : Addr} {fd : FuncData} (Fn : L2.Fun K "_law_draws_of" "_law_draws_of" st__law_draws_of f fd) (G : Tab ca P w K mg base k phi) : FnOk P w K mg base (L2N.CX P w) (2 * (k + 1)) f fd ["_law_script"] (spOf ⟨P, w, K, ca⟩ T__law_draws_of.ms (T__law_draws_of.run phi)) := by
  refine fn_ok (k := 2 * k + 1) (T := T__law_draws_of) (Nm := N__law_draws_of) Fn sc__law_draws_of rfl rfl (by decide) fun cdv A outer s H E hr tk po hcd => ?_
  have nd : N__law_draws_of.Nodup := sc__law_draws_of.nd
  show Bv ca _ _ _ (b__law_draws_of phi)
  unfold b__law_draws_of
  exact bv_cons (sv_set 1 nd (ev_lst (av_nil)))
     (bv_cons (sv_for (tmp := [2, 3, 4]) (tt := .one 2) po rfl (pg_name (i := 2) nd rfl (by first | exact Or.inl rfl | exact Or.inr rfl)) (tg_one) (wv_any (ev_slot 0))
     (bv_one (sv_if (tv_cmp op_ltA s_lt (ev_call1 call_lenA s_len G.b_len (ev_slot 1)) (ev_int) (nomark _)) (bv_cons (sv_set 3 nd (ev_call1 call_abs s_abs G.b_abs (ev_type1 call_int1 s_int G.b_int (ev_slot 2))))
     (bv_one (sv_if (tv_cmp op_ltA s_lt (ev_slot 3) (ev_bin op_pow s_pow (ev_int) (ev_int)) (nomark _)) (bv_one (sv_for (tmp := [4]) (tt := .one 4) po rfl (pg_name (i := 4) nd rfl (by first | exact Or.inl rfl | exact Or.inr rfl)) (tg_one) (wv_r1 G.b_range (ev_int))
     (bv_cons (sv_set 3 nd (ev_bin op_mod s_mod (ev_type1 call_int1 s_int G.b_int (ev_bin op_addA s_add (ev_bin op_addA s_add (ev_bin op_mulA s_mul (ev_slot 3) (ev_int)) (ev_bin op_mulA s_mul (ev_int) (ev_slot 4))) (ev_int))) (ev_int)))
     (bv_one (sv_expr (ev_append (pv 1) (av_keep (ev_slot 3) (av_nil)))))))) (bv_one (sv_for (tmp := [4]) (tt := .one 4) po rfl (pg_name (i := 4) nd rfl (by first | exact Or.inl rfl | exact Or.inr rfl)) (tg_one) (wv_r1 G.b_range (ev_int))
     (bv_one (sv_if (tv_cmp op_gtA s_gt (ev_slot 3) (ev_int) (nomark _)) (bv_cons (sv_expr (ev_append (pv 1) (av_keep (ev_bin op_mod s_mod (ev_type1 call_int1 s_int G.b_int (ev_slot 3)) (ev_int)) (av_nil))))
     (bv_one (sv_set 3 nd (ev_bin op_fdiv s_div (ev_slot 3) (ev_int))))) (bv_nil)))))))) (bv_nil))))
     (bv_cons (sv_if (tv_cmp (op_eqD hr.units) s_eq (ev_slot 1) (ev_lst (av_nil)) (nomark _)) (bv_one (sv_set 1 nd (ev_lst (av_keep (ev_int) (av_keep (ev_int) (av_keep (ev_int) (av_keep (ev_int) (av_keep (ev_int) (av_keep (ev_int) (av_keep (ev_int) (av_keep (ev_int) (av_keep (ev_int) (av_keep (ev_int) (av_keep (ev_int) (av_keep (ev_int) (av_keep (ev_int) (av_nil))))))))))))))))) (bv_nil))
     (bv_one (sv_ret (ev_slot 1)))))

abbrev st__law_nth : Stmt := top 18
abbrev N__law_nth : List Str := ["_law_pool", "_law_k"]
theorem sc__law_nth : FnScope N__law_nth ["_law_pool", "_law_k"] (defScope st__law_nth) := ⟨rfl, rfl, rfl, by decide +kernel, rfl, by decide +kernel, by decide +kernel⟩
theorem ok__law_nth {f : Addr} {fd : FuncData} (Fn : L2.Fun K "_law_nth" "_law_nth" st__law_nth f fd) (G : Tab ca P w K mg base k phi) : FnOk P w K mg base (L2N.CX P w) (2 * (k + 1)) f fd ["_law_pool", "_law_k"] (spOf ⟨P, w, K, ca⟩ T__law_nth.ms (T__law_nth.run phi)) := by
  refine fn_ok (k := 2 * k + 1) (T := T__law_nth) (Nm := N__law_nth) Fn sc__law_nth rfl rfl (by decide) fun cdv A outer s H E hr tk po hcd => ?_
  have nd : N__law_nth.Nodup := sc__law_nth.nd
  show Bv ca _ _ _ (b__law_nth phi)
  unfold b__law_nth
  exact bv_cons (sv_if (tv_cmp op_ltA s_lt (ev_slot 1) (ev_call1 call_lenA s_len G.b_len (ev_slot 0)) (nomark _)) (bv_one (sv_ret (ev_ix (ev_slot 0) (ev_slot 1) (hu_of hr)))) (bv_nil))
     (bv_one (sv_ret (ev_bin op_mod s_mod (ev_type1 call_int1 s_int G.b_int (ev_bin op_addA s_add (ev_bin op_mulA s_mul (ev_ix (ev_slot 0) (ev_bin op_mod s_mod (ev_slot 1) (ev_call1 call_lenA s_len G.b_len (ev_slot 0))) (hu_of hr)) (ev_int)) (ev_bin op_mulA s_mul (ev_slot 1) (ev_int)))) (ev_int))))

abbrev st__law_named : Stmt := top 19
abbrev N__law_named : List Str := ["_law_k", "_law_style", "_law_one", "_law_kind", "_law_words", "_law_base"]
theorem sc__law_named : FnScope N__law_named ["_law_k", "_law_style"] (defScope st__law_named) := ⟨rfl, rfl, rfl, by decide +kernel, rfl, by decide +kernel, by decide +kernel⟩
theorem ok__law_named {f : Addr} {fd : FuncData} (Fn : L2.Fun K "_law_named" "_law_named" st__law_named f fd) (G : Tab ca P w K mg base k phi) : FnOk P w K mg base (L2N.CX P w) (2 * (k + 1)) f fd ["_law_k", "_law_style"] (spOf ⟨P, w, K, ca⟩ T__law_named.ms (T__law_named.run phi)) := by
  refine fn_ok (k := 2 * k + 1) (T := T__law_named) (Nm := N__law_named) Fn sc__law_named rfl rfl (by decide) fun cdv A outer s H E hr tk po hcd => ?_
  have nd : N__law_named.Nodup := sc__law_named.nd
  show Bv ca _ _ _ (b__law_named phi)
  unfold b__law_named
  exact bv_cons (sv_set 2 nd (ev_ix (ev_str) (ev_bin op_mod s_mod (ev_type1 call_int1 s_int G.b_int (ev_bin op_addA s_add (ev_bin op_mulA s_mul (ev_slot 0) (ev_int)) (ev_bin op_fdiv s_div (ev_slot 1) (ev_int)))) (ev_int)) (hu_of hr)))
     (bv_cons (sv_set 3 nd (ev_bin op_mod s_mod (ev_type1 call_int1 s_int G.b_int (ev_slot 1)) (ev_int)))
     (bv_cons (sv_if (tv_w (wv_and (tv_cmp (op_eqD hr.units) s_eq (ev_slot 3) (ev_int) (nomark _)) (wv_and1 (tv_cmp (op_eqD hr.units) s_eq (ev_bin op_mod s_mod (ev_bin op_fdiv s_div (ev_type1 call_int1 s_int G.b_int (ev_slot 1)) (ev_int)) (ev_int)) (ev_int) (nomark _))))) (bv_cons (sv_set 4 nd (ev_lst (av_keep (ev_str) (av_keep (ev_str) (av_keep (ev_str) (av_keep (ev_str) (av_keep (ev_str) (av_keep (ev_str) (av_keep (ev_str) (av_keep (ev_str) (av_keep (ev_str) (av_keep (ev_str) (av_nil)))))))))))))
     (bv_one (sv_ret (ev_bin op_addA s_add (ev_ix (ev_slot 4) (ev_bin op_mod s_mod (ev_type1 call_int1 s_int G.b_int (ev_slot 0)) (ev_int)) (hu_of hr)) (ev_bin op_mulA s_mul (ev_str) (ev_bin op_fdiv s_div (ev_type1 call_int1 s_int G.b_int (ev_slot 0)) (ev_int))))))) (bv_nil))
     (bv_cons (sv_if (tv_w (wv_and (tv_cmp (op_eqD hr.units) s_eq (ev_slot 3) (ev_int) (nomark _)) (wv_and1 (tv_cmp (op_eqD hr.units) s_eq (ev_bin op_mod s_mod (ev_bin op_fdiv s_div (ev_type1 call_int1 s_int G.b_int (ev_slot 1)) (ev_int)) (ev_int)) (ev_int) (nomark _))))) (bv_one (sv_ret (ev_bin op_addA s_add (ev_bin op_mulA s_mul (ev_str) (ev_bin op_fdiv s_div (ev_type1 call_int1 s_int G.b_int (ev_slot 0)) (ev_int))) (ev_bin op_mulA s_mul (ev_str) (ev_bin op_addA s_add (ev_bin op_mod s_mod (ev_type1 call_int1 s_int G.b_int (ev_slot 0)) (ev_int)) (ev_int)))))) (bv_nil))
     (bv_cons (sv_if (tv_cmp (op_eqD hr.units) s_eq (ev_slot 3) (ev_int) (nomark _)) (bv_one (sv_ret (ev_bin op_addA s_add (ev_bin op_mulA s_mul (ev_str) (ev_bin op_mod s_mod (ev_type1 call_int1 s_int G.b_int (ev_slot 0)) (ev_int))) (ev_slot 2)))) (bv_nil))
     (bv_cons (sv_if (tv_cmp (op_eqD hr.units) s_eq (ev_slot 3) (ev_int) (nomark _)) (bv_cons (sv_set 5 nd (ev_bin op_addA s_add (ev_slot 2) (ev_type1 call_strA s_str G.b_str (ev_bin op_mod s_mod (ev_type1 call_int1 s_int G.b_int (ev_bin op_fdiv s_div (ev_slot 1) (ev_int))) (ev_int)))))
     (bv_cons (sv_if (tv_cmp (op_eqD hr.units) s_eq (ev_bin op_mod s_mod (ev_type1 call_int1 s_int G.b_int (ev_slot 0)) (ev_int)) (ev_int) (nomark _)) (bv_one (sv_ret (ev_bin op_addA s_add (ev_slot 5) (ev_bin op_mulA s_mul (ev_str) (ev_bin op_sub s_sub (ev_int) (ev_call1 call_lenA s_len G.b_len (ev_slot 5))))))) (bv_nil))
     (bv_one (sv_ret (ev_bin op_addA s_add (ev_slot 5) (ev_bin op_mulA s_mul (ev_str) (ev_bin op_mod s_mod (ev_type1 call_int1 s_int G.b_int (ev_slot 0)) (ev_int)))))))) (bv_nil))
     (bv_cons (sv_if (tv_cmp (op_eqD hr.units) s_eq (ev_slot 3) (ev_int) (nomark _)) (bv_one (sv_ret (ev_bin op_addA s_add (ev_str) (ev_type1 call_strA s_str G.b_str (ev_bin op_sub s_sub (ev_int) (ev_bin op_mulA s_mul (ev_int) (ev_slot 0))))))) (bv_nil))
     (bv_one (sv_ret (ev_slot 2)))))))))

abbrev st__law_is_name : Stmt := top 20
abbrev N__law_is_name : List Str := ["_law_part", "_law_k"]
theorem sc__law_is_name : FnScope N__law_is_name ["_law_part"] (defScope st__law_is_name) := ⟨rfl, rfl, rfl, by decide +kernel, rfl, by decide +kernel, by decide +kernel⟩
theorem ok__law_is_name {f : Addr} {fd : FuncData} (Fn : L2.Fun K "_law_is_name" "_law_is_name" st__law_is_name f fd) (G : Tab ca P w K mg base k phi) : FnOk P w K mg base (L2N.CX P w) (2 * (k + 1)) f fd ["_law_part"] (spOf ⟨P, w, K, ca⟩ T__law_is_name.ms (T__law_is_name.run phi)) := by
  refine fn_ok (k := 2 * k + 1) (T := T__law_is_name) (Nm := N__law_is_name) Fn sc__law_is_name rfl rfl (by decide) fun cdv A outer s H E hr tk po hcd => ?_
  have nd : N__law_is_name.Nodup := sc__law_is_name.nd
  show Bv ca _ _ _ (b__law_is_name phi)
  unfold b__law_is_name
  exact bv_cons (sv_if (tv_w (wv_or (tv_not (tv_tru (ev_isty (T := "str") (s_isty rfl rfl rfl rfl rfl rfl rfl) G.b_isinstance G.b_str (ev_slot 0)))) (wv_or (tv_cmp op_ltA s_lt (ev_call1 call_lenA s_len G.b_len (ev_slot 0)) (ev_int) (nomark _)) (wv_or1 (tv_cmp op_gtA s_gt (ev_call1 call_lenA s_len G.b_len (ev_slot 0)) (ev_int) (nomark _)))))) (bv_one (sv_ret (ev_bl))) (bv_nil))
     (bv_cons (sv_for (tmp := [1]) (tt := .one 1) po rfl (pg_name (i := 1) nd rfl (by first | exact Or.inl rfl | exact Or.inr rfl)) (tg_one) (wv_r1 G.b_range (ev_call1 call_lenA s_len G.b_len (ev_slot 0)))
     (bv_one (sv_if (tv_cmp (op_ninA (u65 hr)) s_nin (ev_ix (ev_slot 0) (ev_slot 1) (hu_of hr)) (ev_str) (by rfl)) (bv_one (sv_if (tv_w (wv_or (tv_cmp (op_eqD hr.units) s_eq (ev_slot 1) (ev_int) (nomark _)) (wv_or1 (tv_cmp (op_ninA (u65 hr)) s_nin (ev_ix (ev_slot 0) (ev_slot 1) (hu_of hr)) (ev_str) (by rfl))))) (bv_one (sv_ret (ev_bl))) (bv_nil))) (bv_nil))))
     (bv_one (sv_ret (ev_bl))))

theorem okH__law_is_name {a : Addr} {cls : Value} {d : Option Addr} {f : Addr} {fd : FuncData} (Fn : L2.Fun K "_law_is_name" "_law_is_name" st__law_is_name f fd) (G : Tab ca P w K mg base k phi) : L2H.FnHX P w K mg base (2 * (k + 1)) f fd ["_law_part"] (spOf ⟨P, w, K, caX ca a cls d⟩ T__law_is_name.ms (T__law_is_name.run phi)) a cls d := by
  refine fn_okH (k := 2 * k + 1) (T := T__law_is_name) (Nm := N__law_is_name) Fn sc__law_is_name rfl rfl (by decide) fun cdv A outer s H oe hr hz hf hcd => ?_
  have nd : N__law_is_name.Nodup := sc__law_is_name.nd
  show Bv (caX ca a cls d) _ _ _ (b__law_is_name phi)
  unfold b__law_is_name
  exact bv_cons (sv_if (tv_w (wv_or (tv_not (tv_tru (ev_isty (T := "str") (s_isty rfl rfl rfl rfl rfl rfl rfl) G.b_isinstance G.b_str (ev_slot 0)))) (wv_or (tv_cmp op_ltA s_lt (ev_call1 call_lenA s_len G.b_len (ev_slot 0)) (ev_int) (nomark _)) (wv_or1 (tv_cmp op_gtA s_gt (ev_call1 call_lenA s_len G.b_len (ev_slot 0)) (ev_int) (nomark _)))))) (bv_one (sv_ret (ev_bl))) (bv_nil))
     (bv_cons (sv_forH (tmp := [1]) (tt := .one 1) hz hf (pg_name (i := 1) nd rfl (by first | exact Or.inl rfl | exact Or.inr rfl)) (tg_one) (wvH_r1 G.b_range (ev_call1 call_lenA s_len G.b_len (ev_slot 0)))
     (bv_one (sv_if (tv_cmp (op_ninA (by have h := u65H hr; exact h)) s_nin (ev_ix (ev_slot 0) (ev_slot 1) (by have h := hu_ofH hr; exact h)) (ev_str) (by rfl)) (bv_one (sv_if (tv_w (wv_or (tv_cmp (op_eqD hr.units) s_eq (ev_slot 1) (ev_int) (nomark _)) (wv_or1 (tv_cmp (op_ninA (by have h := u65H hr; exact h)) s_nin (ev_ix (ev_slot 0) (ev_slot 1) (by have h := hu_ofH hr; exact h)) (ev_str) (by rfl))))) (bv_one (sv_ret (ev_bl))) (bv_nil))) (bv_nil))))
     (bv_one (sv_ret (ev_bl))))

abbrev st__law_is_step : Stmt := top 21
abbrev N__law_is_step : List Str := ["_law_step", "_law_k"]
theorem sc__law_is_step : FnScope N__law_is_step ["_law_step"] (defScope st__law_is_step) := ⟨rfl, rfl, rfl, by decide +kernel, rfl, by decide +kernel, by decide +kernel⟩
theorem ok__law_is_step {f : Addr} {fd : FuncData} (Fn : L2.Fun K "_law_is_step" "_law_is_step" st__law_is_step f fd) (G : Tab ca P w K mg base k phi) : FnOk P w K mg base (L2N.CX P w) (2 * (k + 1)) f fd ["_law_step"] (spOf ⟨P, w, K, ca⟩ T__law_is_step.ms (T__law_is_step.run phi)) := by
  refine fn_ok (k := 2 * k + 1) (T := T__law_is_step) (Nm := N__law_is_step) Fn sc__law_is_step rfl rfl (by decide) fun cdv A outer s H E hr tk po hcd => ?_
  have nd : N__law_is_step.Nodup := sc__law_is_step.nd
  show Bv ca _ _ _ (b__law_is_step phi)
  unfold b__law_is_step
  exact bv_cons (sv_if (tv_w (wv_or (tv_cmp op_ltA s_lt (ev_call1 call_lenA s_len G.b_len (ev_slot 0)) (ev_int) (nomark _)) (wv_or1 (tv_not (tv_tru (ev_call G.f__law_is_name.noEx hr tk (av_cons (ev_ix (ev_slot 0) (ev_int) (hu_of hr)) (av_nil)))))))) (bv_one (sv_ret (ev_bl))) (bv_nil))
     (bv_cons (sv_if (tv_w (wv_or (tv_cmp (op_eqD hr.units) s_eq (ev_ix (ev_slot 0) (ev_int) (hu_of hr)) (ev_str) (nomark _)) (wv_or1 (tv_cmp (op_eqD hr.units) s_eq (ev_ix (ev_slot 0) (ev_int) (hu_of hr)) (ev_str) (nomark _))))) (bv_one (sv_ret (ev_cmp (op_eqD hr.units) s_eq (ev_call1 call_lenA s_len G.b_len (ev_slot 0)) (ev_int) (nomark _)))) (bv_nil))
     (bv_cons (sv_if (tv_cmp (op_eqD hr.units) s_eq (ev_ix (ev_slot 0) (ev_int) (hu_of hr)) (ev_str) (nomark _)) (bv_one (sv_ret (ev_and (ev_cmp (op_eqD hr.units) s_eq (ev_call1 call_lenA s_len G.b_len (ev_slot 0)) (ev_int) (nomark _)) (ev_one (ev_call G.f__law_is_name.noEx hr tk (av_cons (ev_ix (ev_slot 0) (ev_int) (hu_of hr)) (av_nil))))))) (bv_nil))
     (bv_cons (sv_if (tv_w (wv_or (tv_cmp (op_neD hr.units) s_ne (ev_ix (ev_slot 0) (ev_int) (hu_of hr)) (ev_str) (nomark _)) (wv_or (tv_cmp (op_neD hr.units) s_ne (ev_call1 call_lenA s_len G.b_len (ev_slot 0)) (ev_int) (nomark _)) (wv_or1 (tv_not (tv_tru (ev_isty (T := "tuple") (s_isty rfl rfl rfl rfl rfl rfl rfl) G.b_isinstance G.b_tuple (ev_ix (ev_slot 0) (ev_int) (hu_of hr))))))))) (bv_one (sv_ret (ev_bl))) (bv_nil))
     (bv_cons (sv_for (tmp := [1]) (tt := .one 1) po rfl (pg_name (i := 1) nd rfl (by first | exact Or.inl rfl | exact Or.inr rfl)) (tg_one) (wv_r1 G.b_range (ev_call1 call_lenA s_len G.b_len (ev_ix (ev_slot 0) (ev_int) (hu_of hr))))
     (bv_one (sv_if (tv_w (wv_or (tv_not (tv_tru (ev_call G.f__law_is_name.noEx hr tk (av_cons (ev_ix (ev_ix (ev_slot 0) (ev_int) (hu_of hr)) (ev_slot 1) (hu_of hr)) (av_nil))))) (wv_or1 (tv_cmp (op_inA (u65 hr)) s_in (ev_ix (ev_ix (ev_slot 0) (ev_int) (hu_of hr)) (ev_slot 1) (hu_of hr)) (ev_cutHi (ev_ix (ev_slot 0) (ev_int) (hu_of hr)) (ev_slot 1)) (by rfl))))) (bv_one (sv_ret (ev_bl))) (bv_nil))))
     (bv_one (sv_ret (ev_bl)))))))

theorem okH__law_is_step {a : Addr} {cls : Value} {d : Option Addr} {f : Addr} {fd : FuncData} (Fn : L2.Fun K "_law_is_step" "_law_is_step" st__law_is_step f fd) (G : Tab ca P w K mg base k phi) : L2H.FnHX P w K mg base (2 * (k + 1)) f fd ["_law_step"] (spOf ⟨P, w, K, caX ca a cls d⟩ T__law_is_step.ms (T__law_is_step.run phi)) a cls d := by
  refine fn_okH (k := 2 * k + 1) (T := T__law_is_step) (Nm := N__law_is_step) Fn sc__law_is_step rfl rfl (by decide) fun cdv A outer s H oe hr hz hf hcd => ?_
  have nd : N__law_is_step.Nodup := sc__law_is_step.nd
  show Bv (caX ca a cls d) _ _ _ (b__law_is_step phi)
  unfold b__law_is_step
  exact bv_cons (sv_if (tv_w (wv_or (tv_cmp op_ltA s_lt (ev_call1 call_lenA s_len G.b_len (ev_slot 0)) (ev_int) (nomark _)) (wv_or1 (tv_not (tv_tru (ev_callH G.h__law_is_name hr hz hf (av_cons (ev_ix (ev_slot 0) (ev_int) (by have h := hu_ofH hr; exact h)) (av_nil)))))))) (bv_one (sv_ret (ev_bl))) (bv_nil))
     (bv_cons (sv_if (tv_w (wv_or (tv_cmp (op_eqD hr.units) s_eq (ev_ix (ev_slot 0) (ev_int) (by have h := hu_ofH hr; exact h)) (ev_str) (nomark _)) (wv_or1 (tv_cmp (op_eqD hr.units) s_eq (ev_ix (ev_slot 0) (ev_int) (by have h := hu_ofH hr; exact h)) (ev_str) (nomark _))))) (bv_one (sv_ret (ev_cmp (op_eqD hr.units) s_eq (ev_call1 call_lenA s_len G.b_len (ev_slot 0)) (ev_int) (nomark _)))) (bv_nil))
     (bv_cons (sv_if (tv_cmp (op_eqD hr.units) s_eq (ev_ix (ev_slot 0) (ev_int) (by have h := hu_ofH hr; exact h)) (ev_str) (nomark _)) (bv_one (sv_ret (ev_and (ev_cmp (op_eqD hr.units) s_eq (ev_call1 call_lenA s_len G.b_len (ev_slot 0)) (ev_int) (nomark _)) (ev_one (ev_callH G.h__law_is_name hr hz hf (av_cons (ev_ix (ev_slot 0) (ev_int) (by have h := hu_ofH hr; exact h)) (av_nil))))))) (bv_nil))
     (bv_cons (sv_if (tv_w (wv_or (tv_cmp (op_neD hr.units) s_ne (ev_ix (ev_slot 0) (ev_int) (by have h := hu_ofH hr; exact h)) (ev_str) (nomark _)) (wv_or (tv_cmp (op_neD hr.units) s_ne (ev_call1 call_lenA s_len G.b_len (ev_slot 0)) (ev_int) (nomark _)) (wv_or1 (tv_not (tv_tru (ev_isty (T := "tuple") (s_isty rfl rfl rfl rfl rfl rfl rfl) G.b_isinstance G.b_tuple (ev_ix (ev_slot 0) (ev_int) (by have h := hu_ofH hr; exact h))))))))) (bv_one (sv_ret (ev_bl))) (bv_nil))
     (bv_cons (sv_forH (tmp := [1]) (tt := .one 1) hz hf (pg_name (i := 1) nd rfl (by first | exact Or.inl rfl | exact Or.inr rfl)) (tg_one) (wvH_r1 G.b_range (ev_call1 call_lenA s_len G.b_len (ev_ix (ev_slot 0) (ev_int) (by have h := hu_ofH hr; exact h))))
     (bv_one (sv_if (tv_w (wv_or (tv_not (tv_tru (ev_callH G.h__law_is_name hr hz hf (av_cons (ev_ix (ev_ix (ev_slot 0) (ev_int) (by have h := hu_ofH hr; exact h)) (ev_slot 1) (by have h := hu_ofH hr; exact h)) (av_nil))))) (wv_or1 (tv_cmp (op_inA (by have h := u65H hr; exact h)) s_in (ev_ix (ev_ix (ev_slot 0) (ev_int) (by have h := hu_ofH hr; exact h)) (ev_slot 1) (by have h := hu_ofH hr; exact h)) (ev_cutHi (ev_ix (ev_slot 0) (ev_int) (by have h := hu_ofH hr; exact h)) (ev_slot 1)) (by rfl))))) (bv_one (sv_ret (ev_bl))) (bv_nil))))
     (bv_one (sv_ret (ev_bl)))))))

abbrev st__law_good_step : Stmt := top 22
abbrev N__law_good_step : List Str := ["_law_draw", "_law_style", "_law_name", "_law_stride", "_law_things", "_law_k"]
theorem sc__law_good_step : FnScope N__law_good_step ["_law_draw", "_law_style"] (defScope st__law_good_step) := ⟨rfl, rfl, rfl, by decide +kernel, rfl, by decide +kernel, by decide +kernel⟩
theorem ok__law_good_step {f : Addr} {fd : FuncData} (Fn : L2.Fun K "_law_good_step" "_law_good_step" st__law_good_step f fd) (G : Tab ca P w K mg base k phi) : FnOk P w K mg base (L2N.CX P w) (2 * (k + 1)) f fd ["_law_draw", "_law_style"] (spOf ⟨P, w, K, ca⟩ T__law_good_step.ms (T__law_good_step.run phi)) := by
  refine fn_ok (k := 2 * k + 1) (T := T__law_good_step) (Nm := N__law_good_step) Fn sc__law_good_step rfl rfl (by decide) fun cdv A outer s H E hr tk po hcd => ?_
  have nd : N__law_good_step.Nodup := sc__law_good_step.nd
  show Bv ca _ _ _ (b__law_good_step phi)
  unfold b__law_good_step
  exact bv_cons (sv_set 2 nd (ev_call G.f__law_named hr tk (av_cons (ev_bin op_mod s_mod (ev_bin op_fdiv s_div (ev_type1 call_int1 s_int G.b_int (ev_slot 0)) (ev_int)) (ev_int)) (av_cons (ev_slot 1) (av_nil)))))
     (bv_cons (sv_if (tv_cmp (op_eqD hr.units) s_eq (ev_bin op_mod s_mod (ev_type1 call_int1 s_int G.b_int (ev_slot 0)) (ev_int)) (ev_int) (nomark _)) (bv_one (sv_ret (ev_tup (av_keep (ev_str) (av_keep (ev_slot 2) (av_nil)))))) (bv_nil))
     (bv_cons (sv_if (tv_cmp (op_eqD hr.units) s_eq (ev_bin op_mod s_mod (ev_type1 call_int1 s_int G.b_int (ev_slot 0)) (ev_int)) (ev_int) (nomark _)) (bv_one (sv_ret (ev_tup (av_keep (ev_str) (av_keep (ev_slot 2) (av_keep (ev_call G.f__law_named hr tk (av_cons (ev_bin op_mod s_mod (ev_bin op_fdiv s_div (ev_type1 call_int1 s_int G.b_int (ev_slot 0)) (ev_int)) (ev_int)) (av_cons (ev_slot 1) (av_nil)))) (av_nil))))))) (bv_nil))
     (bv_cons (sv_if (tv_w (wv_and (tv_cmp (op_eqD hr.units) s_eq (ev_bin op_mod s_mod (ev_type1 call_int1 s_int G.b_int (ev_slot 0)) (ev_int)) (ev_int) (nomark _)) (wv_and1 (tv_cmp (op_eqD hr.units) s_eq (ev_bin op_mod s_mod (ev_bin op_fdiv s_div (ev_type1 call_int1 s_int G.b_int (ev_slot 0)) (ev_int)) (ev_int)) (ev_int) (nomark _))))) (bv_one (sv_ret (ev_tup (av_keep (ev_str) (av_keep (ev_slot 2) (av_nil)))))) (bv_nil))
     (bv_cons (sv_set 3 nd (ev_bin op_addA s_add (ev_int) (ev_bin op_mod s_mod (ev_bin op_fdiv s_div (ev_type1 call_int1 s_int G.b_int (ev_slot 0)) (ev_int)) (ev_int))))
     (bv_cons (sv_set 4 nd (ev_tup (av_nil)))
     (bv_cons (sv_for (tmp := [5]) (tt := .one 5) po rfl (pg_name (i := 5) nd rfl (by first | exact Or.inl rfl | exact Or.inr rfl)) (tg_one) (wv_r1 G.b_range (ev_bin op_mod s_mod (ev_bin op_fdiv s_div (ev_type1 call_int1 s_int G.b_int (ev_slot 0)) (ev_int)) (ev_int)))
     (bv_one (sv_set 4 nd (ev_bin op_addA s_add (ev_slot 4) (ev_tup (av_keep (ev_call G.f__law_named hr tk (av_cons (ev_bin op_addA s_add (ev_bin op_mod s_mod (ev_bin op_fdiv s_div (ev_type1 call_int1 s_int G.b_int (ev_slot 0)) (ev_int)) (ev_int)) (ev_bin op_mulA s_mul (ev_slot 5) (ev_slot 3))) (av_cons (ev_slot 1) (av_nil)))) (av_nil)))))))
     (bv_one (sv_ret (ev_tup (av_keep (ev_str) (av_keep (ev_slot 2) (av_keep (ev_slot 4) (av_nil)))))))))))))

abbrev st__law_text_of : Stmt := top 23
abbrev N__law_text_of : List Str := ["_law_step", "_law_text", "_law_thing"]
theorem sc__law_text_of : FnScope N__law_text_of ["_law_step"] (defScope st__law_text_of) := ⟨rfl, rfl, rfl, by decide +kernel, rfl, by decide +kernel, by decide +kernel⟩
theorem ok__law_text_of {f : Addr} {fd : FuncData} (Fn : L2.Fun K "_law_text_of" "_law_text_of" st__law_text_of f fd) (G : Tab ca P w K mg base k phi) : FnOk P w K mg base (L2N.CX P w) (2 * (k + 1)) f fd ["_law_step"] (spOf ⟨P, w, K, ca⟩ T__law_text_of.ms (T__law_text_of.run phi)) := by
  refine fn_ok (k := 2 * k + 1) (T := T__law_text_of) (Nm := N__law_text_of) Fn sc__law_text_of rfl rfl (by decide) fun cdv A outer s H E hr tk po hcd => ?_
  have nd : N__law_text_of.Nodup := sc__law_text_of.nd
  show Bv ca _ _ _ (b__law_text_of phi)
  unfold b__law_text_of
  exact bv_cons (sv_set 1 nd (ev_bin op_addA s_add (ev_bin op_addA s_add (ev_ix (ev_slot 0) (ev_int) (hu_of hr)) (ev_str)) (ev_ix (ev_slot 0) (ev_int) (hu_of hr))))
     (bv_cons (sv_if (tv_cmp (op_eqD hr.units) s_eq (ev_ix (ev_slot 0) (ev_int) (hu_of hr)) (ev_str) (nomark _)) (bv_one (sv_set 1 nd (ev_bin op_addA s_add (ev_bin op_addA s_add (ev_slot 1) (ev_str)) (ev_ix (ev_slot 0) (ev_int) (hu_of hr))))) (bv_nil))
     (bv_cons (sv_if (tv_cmp (op_eqD hr.units) s_eq (ev_ix (ev_slot 0) (ev_int) (hu_of hr)) (ev_str) (nomark _)) (bv_one (sv_for (tmp := [2]) (tt := .one 2) po rfl (pg_name (i := 2) nd rfl (by first | exact Or.inl rfl | exact Or.inr rfl)) (tg_one) (wv_any (ev_ix (ev_slot 0) (ev_int) (hu_of hr)))
     (bv_one (sv_set 1 nd (ev_bin op_addA s_add (ev_bin op_addA s_add (ev_slot 1) (ev_str)) (ev_slot 2)))))) (bv_nil))
     (bv_one (sv_ret (ev_slot 1)))))

abbrev st__law_words_of : Stmt := top 24
abbrev N__law_words_of : List Str := ["_law_line", "_law_words", "_law_char"]
theorem sc__law_words_of : FnScope N__law_words_of ["_law_line"] (defScope st__law_words_of) := ⟨rfl, rfl, rfl, by decide +kernel, rfl, by decide +kernel, by decide +kernel⟩
theorem ok__law_words_of {f : Addr} {fd : FuncData} (Fn : L2.Fun K "_law_words_of" "_law_words_of" st__law_words_of f fd) (G : Tab ca P w K mg base k phi) : FnOk P w K mg base (L2N.CX P w) (2 * (k + 1)) f fd ["_law_line"] (spOf ⟨P, w, K, ca⟩ T__law_words_of.ms (T__law_words_of.run phi)) := by
  refine fn_ok (k := 2 * k + 1) (T := T__law_words_of) (Nm := N__law_words_of) Fn sc__law_words_of rfl rfl (by decide) fun cdv A outer s H E hr tk po hcd => ?_
  have nd : N__law_words_of.Nodup := sc__law_words_of.nd
  show Bv ca _ _ _ (b__law_words_of phi)
  unfold b__law_words_of
  exact bv_cons (sv_set 1 nd (ev_lst (av_keep (ev_str) (av_nil))))
     (bv_cons (sv_for (tmp := [2]) (tt := .one 2) po rfl (pg_name (i := 2) nd rfl (by first | exact Or.inl rfl | exact Or.inr rfl)) (tg_one) (wv_any (ev_slot 0))
     (bv_one (sv_if (tv_cmp (op_eqD hr.units) s_eq (ev_slot 2) (ev_str) (nomark _)) (bv_one (sv_expr (ev_append (pv 1) (av_keep (ev_str) (av_nil))))) (bv_one (sv_putL (pv 1) (ev_bin op_addA s_add (ev_ix (ev_slot 1) (ev_un un_neg s_neg (ev_int)) (hu_of hr)) (ev_slot 2)) (ev_un un_neg s_neg (ev_int)))))))
     (bv_one (sv_ret (ev_slot 1))))

abbrev st__law_parsed : Stmt := top 25
abbrev N__law_parsed : List Str := ["_law_line", "_law_words", "_law_step"]
theorem sc__law_parsed : FnScope N__law_parsed ["_law_line"] (defScope st__law_parsed) := ⟨rfl, rfl, rfl, by decide +kernel, rfl, by decide +kernel, by decide +kernel⟩
theorem ok__law_parsed {f : Addr} {fd : FuncData} (Fn : L2.Fun K "_law_parsed" "_law_parsed" st__law_parsed f fd) (G : Tab ca P w K mg base k phi) : FnOk P w K mg base (L2N.CX P w) (2 * (k + 1)) f fd ["_law_line"] (spOf ⟨P, w, K, ca⟩ T__law_parsed.ms (T__law_parsed.run phi)) := by
  refine fn_ok (k := 2 * k + 1) (T := T__law_parsed) (Nm := N__law_parsed) Fn sc__law_parsed rfl rfl (by decide) fun cdv A outer s H E hr tk po hcd => ?_
  have nd : N__law_parsed.Nodup := sc__law_parsed.nd
  show Bv ca _ _ _ (b__law_parsed phi)
  unfold b__law_parsed
  exact bv_cons (sv_set 1 nd (ev_call G.f__law_words_of hr tk (av_cons (ev_slot 0) (av_nil))))
     (bv_cons (sv_set 2 nd (ev_type1 call_tuple_of s_tuple G.b_tuple (ev_slot 1)))
     (bv_cons (sv_if (tv_cmp (op_eqD hr.units) s_eq (ev_ix (ev_slot 1) (ev_int) (hu_of hr)) (ev_str) (nomark _)) (bv_one (sv_set 2 nd (ev_bin op_addA s_add (ev_bin op_addA s_add (ev_tup (av_keep (ev_str) (av_nil))) (ev_type1 call_tuple_of s_tuple G.b_tuple (ev_cut (ev_slot 1) (ev_int) (ev_int)))) (ev_tup (av_keep (ev_type1 call_tuple_of s_tuple G.b_tuple (ev_cutLo (ev_slot 1) (ev_int))) (av_nil)))))) (bv_nil))
     (bv_cons (sv_if (tv_tru (ev_call G.f__law_is_step hr tk (av_cons (ev_slot 2) (av_nil)))) (bv_one (sv_ret (ev_slot 2))) (bv_nil))
     (bv_one (sv_ret (ev_non))))))

abbrev st__law_lines : Stmt := top 26
abbrev N__law_lines : List Str := ["_law_text", "_law_lines_here", "_law_char"]
theorem sc__law_lines : FnScope N__law_lines ["_law_text"] (defScope st__law_lines) := ⟨rfl, rfl, rfl, by decide +kernel, rfl, by decide +kernel, by decide +kernel⟩
theorem ok__law_lines {f : Addr} {fd : FuncData} (Fn : L2.Fun K "_law_lines" "_law_lines" st__law_lines f fd) (G : Tab ca P w K mg base k phi) : FnOk P w K mg base (L2N.CX P w) (2 * (k + 1)) f fd ["_law_text"] (spOf ⟨P, w, K, ca⟩ T__law_lines.ms (T__law_lines.run phi)) := by
  refine fn_ok (k := 2 * k + 1) (T := T__law_lines) (Nm := N__law_lines) Fn sc__law_lines rfl rfl (by decide) fun cdv A outer s H E hr tk po hcd => ?_
  have nd : N__law_lines.Nodup := sc__law_lines.nd
  show Bv ca _ _ _ (b__law_lines phi)
  unfold b__law_lines
  exact bv_cons (sv_set 1 nd (ev_lst (av_keep (ev_str) (av_nil))))
     (bv_cons (sv_for (tmp := [2]) (tt := .one 2) po rfl (pg_name (i := 2) nd rfl (by first | exact Or.inl rfl | exact Or.inr rfl)) (tg_one) (wv_any (ev_slot 0))
     (bv_one (sv_if (tv_cmp (op_eqD hr.units) s_eq (ev_slot 2) (ev_str) (nomark _)) (bv_one (sv_expr (ev_append (pv 1) (av_keep (ev_str) (av_nil))))) (bv_one (sv_putL (pv 1) (ev_bin op_addA s_add (ev_ix (ev_slot 1) (ev_un un_neg s_neg (ev_int)) (hu_of hr)) (ev_slot 2)) (ev_un un_neg s_neg (ev_int)))))))
     (bv_cons (sv_if (tv_cmp (op_eqD hr.units) s_eq (ev_slot 0) (ev_str) (nomark _)) (bv_one (sv_ret (ev_lst (av_nil)))) (bv_nil))
     (bv_one (sv_ret (ev_slot 1)))))

theorem okH__law_lines {a : Addr} {cls : Value} {d : Option Addr} {f : Addr} {fd : FuncData} (Fn : L2.Fun K "_law_lines" "_law_lines" st__law_lines f fd) (G : Tab ca P w K mg base k phi) : L2H.FnHX P w K mg base (2 * (k + 1)) f fd ["_law_text"] (spOf ⟨P, w, K, caX ca a cls d⟩ T__law_lines.ms (T__law_lines.run phi)) a cls d := by
  refine fn_okH (k := 2 * k + 1) (T := T__law_lines) (Nm := N__law_lines) Fn sc__law_lines rfl rfl (by decide) fun cdv A outer s H oe hr hz hf hcd => ?_
  have nd : N__law_lines.Nodup := sc__law_lines.nd
  show Bv (caX ca a cls d) _ _ _ (b__law_lines phi)
  unfold b__law_lines
  exact bv_cons (sv_set 1 nd (ev_lst (av_keep (ev_str) (av_nil))))
     (bv_cons (sv_forH (tmp := [2]) (tt := .one 2) hz hf (pg_name (i := 2) nd rfl (by first | exact Or.inl rfl | exact Or.inr rfl)) (tg_one) (wvH_any (ev_slot 0))
     (bv_one (sv_if (tv_cmp (op_eqD hr.units) s_eq (ev_slot 2) (ev_str) (nomark _)) (bv_one (sv_expr (ev_append (pv 1) (av_keep (ev_str) (av_nil))))) (bv_one (sv_putL (pv 1) (ev_bin op_addA s_add (ev_ix (ev_slot 1) (ev_un un_neg s_neg (ev_int)) (by have h := hu_ofH hr; exact h)) (ev_slot 2)) (ev_un un_neg s_neg (ev_int)))))))
     (bv_cons (sv_if (tv_cmp (op_eqD hr.units) s_eq (ev_slot 0) (ev_str) (nomark _)) (bv_one (sv_ret (ev_lst (av_nil)))) (bv_nil))
     (bv_one (sv_ret (ev_slot 1)))))

abbrev st__law_right : Stmt := top 27
abbrev N__law_right : List Str := ["_law_text", "_law_due", "_law_line", "e", "_law_told", "_law_k"]
theorem sc__law_right : FnScope N__law_right ["_law_text"] (defScope st__law_right) := ⟨rfl, rfl, rfl, by decide +kernel, rfl, by decide +kernel, by decide +kernel⟩
theorem ok__law_right {f : Addr} {fd : FuncData} (Fn : L2.Fun K "_law_right" "_law_right" st__law_right f fd) (G : Tab ca P w K mg base k phi) : FnOk P w K mg base (L2N.CX P w) (2 * (k + 1)) f fd ["_law_text"] (spOf ⟨P, w, K, ca⟩ T__law_right.ms (T__law_right.run phi)) := by
  refine fn_ok (k := 2 * k + 1) (T := T__law_right) (Nm := N__law_right) Fn sc__law_right rfl rfl (by decide) fun cdv A outer s H E hr tk po hcd => ?_
  have nd : N__law_right.Nodup := sc__law_right.nd
  show Bv ca _ _ _ (b__law_right phi)
  unfold b__law_right
  exact bv_cons (sv_setLc (own := [("_law_line", 2)]) 1 rfl nd rfl (sw_true rfl rfl rfl (by decide +kernel)) (wv_any (ev_call G.f__law_lines hr tk (av_cons (ev_slot 0) (av_nil)))) (blkOk_by (own := [("_law_line", 2)]) (N := N__law_right) (sc := defScope st__law_right) (by decide +kernel)) (tg_one) (by decide) (fun _ _ _ _ _ => pg_name (i := 2) nd rfl (by first | exact Or.inl rfl | exact Or.inr rfl)) (fun _ _ _ _ _ => ptv_nil) (fun _ _ _ _ _ => ev_call G.f__law_parsed hr takes0 (av_cons (ev_slot 2) (av_nil))))
     (bv_cons (sv_tryN 3 rfl rfl nd G.xs G.x_InvalidLine tk (fun W pn xe tk po => bv_one (sv_set 4 nd (ev_call G.f_parse_history hr tk (av_cons (ev_slot 0) (av_nil)))))
     (fun a oe cls d pn hz hf => bv_cons (sv_if (tv_w (wv_or (tv_tru (ev_xisO hz hf G.xs G.is_InvalidStep G.b_isinstance (ev_slot 3))) (wv_or (tv_not (tv_tru (ev_xisO hz hf G.xs G.is_KeeperError G.b_isinstance (ev_slot 3)))) (wv_or1 (tv_tru (ev_isty (T := "bool") (s_isty rfl rfl rfl rfl rfl rfl rfl) G.b_isinstance G.b_bool (ev_xfF hz hf G.xs (ev_slot 3)))))))) (bv_one (sv_ret (ev_bl))) (bv_nil))
     (bv_cons (sv_forH (tmp := [5]) (tt := .one 5) hz hf (pg_name (i := 5) nd rfl (by first | exact Or.inl rfl | exact Or.inr rfl)) (tg_one) (wvH_r1 G.b_range (ev_call1 call_lenA s_len G.b_len (ev_slot 1)))
     (bv_one (sv_if (tv_cmp op_isA s_is (ev_ix (ev_slot 1) (ev_slot 5) (by have h := hu_of hr; exact h)) (ev_non) (nomark _)) (bv_cons (sv_if (tv_w (wv_or (tv_not (tv_tru (ev_isty (T := "int") (s_isty rfl rfl rfl rfl rfl rfl rfl) G.b_isinstance G.b_int (ev_xfF hz hf G.xs (ev_slot 3))))) (wv_or1 (tv_cmp (op_neD hr.units) s_ne (ev_xfF hz hf G.xs (ev_slot 3)) (ev_bin op_addA s_add (ev_slot 5) (ev_int)) (nomark _))))) (bv_one (sv_ret (ev_bl))) (bv_nil))
     (bv_one (sv_ret (ev_cmp (op_eqD hr.units) s_eq (ev_xfF hz hf G.xs (ev_slot 3)) (ev_ix (ev_callH G.h__law_lines (L2H.roomH_of hr) hz hf (av_cons (ev_slot 0) (av_nil))) (ev_slot 5) (by have h := hu_of hr; exact h)) (nomark _))))) (bv_nil))))
     (bv_one (sv_ret (ev_bl))))))
     (bv_one (sv_ret (ev_and (ev_isty (T := "list") (s_isty rfl rfl rfl rfl rfl rfl rfl) G.b_isinstance G.b_list (ev_slot 4)) (ev_and (ev_cmp (op_ninA (u65 hr)) s_nin (ev_non) (ev_slot 1) (by rfl)) (ev_one (ev_cmp (op_eqD hr.units) s_eq (ev_slot 4) (ev_slot 1) (nomark _))))))))

abbrev st__law_written : Stmt := top 28
abbrev N__law_written : List Str := ["_law_steps", "_law_handed", "e", "_law_told", "_law_step"]
theorem sc__law_written : FnScope N__law_written ["_law_steps"] (defScope st__law_written) := ⟨rfl, rfl, rfl, by decide +kernel, rfl, by decide +kernel, by decide +kernel⟩
theorem ok__law_written {f : Addr} {fd : FuncData} (Fn : L2.Fun K "_law_written" "_law_written" st__law_written f fd) (G : Tab ca P w K mg base k phi) : FnOk P w K mg base (L2N.CX P w) (2 * (k + 1)) f fd ["_law_steps"] (spOf ⟨P, w, K, ca⟩ T__law_written.ms (T__law_written.run phi)) := by
  refine fn_ok (k := 2 * k + 1) (T := T__law_written) (Nm := N__law_written) Fn sc__law_written rfl rfl (by decide) fun cdv A outer s H E hr tk po hcd => ?_
  have nd : N__law_written.Nodup := sc__law_written.nd
  show Bv ca _ _ _ (b__law_written phi)
  unfold b__law_written
  exact bv_cons (sv_set 1 nd (ev_type1 call_list_of s_list G.b_list (ev_slot 0)))
     (bv_cons (sv_tryN 2 rfl rfl nd G.xs G.x_InvalidStep tk (fun W pn xe tk po => bv_one (sv_set 3 nd (ev_call G.f_format_history hr tk (av_cons (ev_slot 1) (av_nil)))))
     (fun a oe cls d pn hz hf => bv_cons (sv_forH (tmp := [4]) (tt := .one 4) hz hf (pg_name (i := 4) nd rfl (by first | exact Or.inl rfl | exact Or.inr rfl)) (tg_one) (wvH_any (ev_slot 0))
     (bv_one (sv_if (tv_not (tv_tru (ev_callH G.h__law_is_step (L2H.roomH_of hr) hz hf (av_cons (ev_slot 4) (av_nil))))) (bv_one (sv_ret (ev_and (ev_cmp (op_eqD hr.units) s_eq (ev_slot 1) (ev_slot 0) (nomark _)) (ev_and (ev_xisO hz hf G.xs G.is_KeeperError G.b_isinstance (ev_slot 2)) (ev_one (ev_cmp (op_eqD hr.units) s_eq (ev_xfF hz hf G.xs (ev_slot 2)) (ev_slot 4) (nomark _))))))) (bv_nil))))
     (bv_one (sv_ret (ev_bl)))))
     (bv_cons (sv_for (tmp := [4]) (tt := .one 4) po rfl (pg_name (i := 4) nd rfl (by first | exact Or.inl rfl | exact Or.inr rfl)) (tg_one) (wv_any (ev_slot 0))
     (bv_one (sv_if (tv_not (tv_tru (ev_call G.f__law_is_step hr tk (av_cons (ev_slot 4) (av_nil))))) (bv_one (sv_ret (ev_bl))) (bv_nil))))
     (bv_cons (sv_if (tv_w (wv_or (tv_cmp (op_neD hr.units) s_ne (ev_slot 1) (ev_slot 0) (nomark _)) (wv_or1 (tv_not (tv_tru (ev_isty (T := "str") (s_isty rfl rfl rfl rfl rfl rfl rfl) G.b_isinstance G.b_str (ev_slot 3))))))) (bv_one (sv_ret (ev_bl))) (bv_nil))
     (bv_one (sv_ret (ev_cmp (op_eqD hr.units) s_eq (ev_slot 3) (ev_join (ev_lc (own := [("_law_step", 4)]) rfl nd (wv_any (ev_slot 0)) (blkOk_by (own := [("_law_step", 4)]) (N := N__law_written) (sc := defScope st__law_written) (by decide +kernel)) (tg_one) (by decide) (fun _ _ _ _ _ => pg_name (i := 4) nd rfl (by first | exact Or.inl rfl | exact Or.inr rfl)) (fun _ _ _ _ _ => ptv_nil) (fun _ _ _ _ _ => ev_call G.f__law_text_of hr takes0 (av_cons (ev_slot 4) (av_nil))))) (nomark _)))))))

abbrev st_law : Stmt := top 29
abbrev N_law : List Str := ["_law_script", "_law_pool", "_law_style", "_law_steps", "_law_k", "_law_lines_here", "_law_step", "_law_text", "_law_odd", "_law_one", "_law_two", "_law_at", "_law_spoilt", "_law_texts", "_law_long", "_law_all_lines", "_law_each", "_law_wrong", "_law_lists"]
theorem sc_law : FnScope N_law ["_law_script"] (defScope st_law) := ⟨rfl, rfl, rfl, by decide +kernel, rfl, by decide +kernel, by decide +kernel⟩
theorem ok_law {f : Addr} {fd : FuncData} (Fn : L2.Fun K "law" "law" st_law f fd) (G : Tab ca P w K mg base k phi) : FnOk P w K mg base (L2N.CX P w) (2 * (k + 1)) f fd ["_law_script"] (spOf ⟨P, w, K, ca⟩ T_law.ms (T_law.run phi)) := by
  refine fn_ok (k := 2 * k + 1) (T := T_law) (Nm := N_law) Fn sc_law rfl rfl (by decide) fun cdv A outer s H E hr tk po hcd => ?_
  have nd : N_law.Nodup := sc_law.nd
  show Bv ca _ _ _ (b_law phi)
  unfold b_law
  exact bv_cons (sv_set 1 nd (ev_call G.f__law_draws_of hr tk (av_cons (ev_slot 0) (av_nil))))
     (bv_cons (sv_set 2 nd (ev_bin op_fdiv s_div (ev_type1 call_int1 s_int G.b_int (ev_ix (ev_slot 1) (ev_int) (hu_of hr))) (ev_int)))
     (bv_cons (sv_set 3 nd (ev_lst (av_nil)))
     (bv_cons (sv_for (tmp := [4]) (tt := .one 4) po rfl (pg_name (i := 4) nd rfl (by first | exact Or.inl rfl | exact Or.inr rfl)) (tg_one) (wv_r1 G.b_range (ev_bin op_mod s_mod (ev_type1 call_int1 s_int G.b_int (ev_ix (ev_slot 1) (ev_int) (hu_of hr))) (ev_int)))
     (bv_one (sv_expr (ev_append (pv 3) (av_keep (ev_call G.f__law_good_step hr tk (av_cons (ev_call G.f__law_nth hr tk (av_cons (ev_slot 1) (av_cons (ev_bin op_addA s_add (ev_int) (ev_slot 4)) (av_nil)))) (av_cons (ev_slot 2) (av_nil)))) (av_nil))))))
     (bv_cons (sv_setLc (own := [("_law_step", 6)]) 5 rfl nd rfl (sw_true rfl rfl rfl (by decide +kernel)) (wv_any (ev_slot 3)) (blkOk_by (own := [("_law_step", 6)]) (N := N_law) (sc := defScope st_law) (by decide +kernel)) (tg_one) (by decide) (fun _ _ _ _ _ => pg_name (i := 6) nd rfl (by first | exact Or.inl rfl | exact Or.inr rfl)) (fun _ _ _ _ _ => ptv_nil) (fun _ _ _ _ _ => ev_call G.f__law_text_of hr takes0 (av_cons (ev_slot 6) (av_nil))))
     (bv_cons (sv_set 7 nd (ev_join (ev_slot 5)))
     (bv_cons (sv_set 8 nd (ev_lst (av_keep (ev_str) (av_keep (ev_str) (av_keep (ev_str) (av_keep (ev_str) (av_keep (ev_str) (av_keep (ev_str) (av_keep (ev_str) (av_keep (ev_str) (av_nil)))))))))))
     (bv_cons (sv_set 8 nd (ev_bin op_addA s_add (ev_slot 8) (ev_lst (av_keep (ev_str) (av_keep (ev_str) (av_keep (ev_str) (av_nil)))))))
     (bv_cons (sv_set 9 nd (ev_ix (ev_slot 8) (ev_bin op_mod s_mod (ev_type1 call_int1 s_int G.b_int (ev_ix (ev_slot 1) (ev_int) (hu_of hr))) (ev_int)) (hu_of hr)))
     (bv_cons (sv_set 10 nd (ev_ix (ev_slot 8) (ev_bin op_mod s_mod (ev_bin op_fdiv s_div (ev_type1 call_int1 s_int G.b_int (ev_ix (ev_slot 1) (ev_int) (hu_of hr))) (ev_int)) (ev_int)) (hu_of hr)))
     (bv_cons (sv_set 11 nd (ev_bin op_mod s_mod (ev_bin op_fdiv s_div (ev_type1 call_int1 s_int G.b_int (ev_ix (ev_slot 1) (ev_int) (hu_of hr))) (ev_int)) (ev_bin op_addA s_add (ev_call1 call_lenA s_len G.b_len (ev_slot 5)) (ev_int))))
     (bv_cons (sv_set 12 nd (ev_bin op_addA s_add (ev_bin op_addA s_add (ev_cutHi (ev_slot 5) (ev_slot 11)) (ev_lst (av_keep (ev_slot 9) (av_nil)))) (ev_cutLo (ev_slot 5) (ev_slot 11))))
     (bv_cons (sv_set 13 nd (ev_lst (av_keep (ev_slot 7) (av_keep (ev_bin op_addA s_add (ev_slot 7) (ev_str)) (av_keep (ev_bin op_addA s_add (ev_str) (ev_slot 7)) (av_keep (ev_join (ev_slot 12)) (av_nil)))))))
     (bv_cons (sv_set 13 nd (ev_bin op_addA s_add (ev_slot 13) (ev_lst (av_keep (ev_join (ev_bin op_addA s_add (ev_slot 12) (ev_lst (av_keep (ev_slot 10) (av_nil))))) (av_keep (ev_join (ev_bin op_addA s_add (ev_lst (av_keep (ev_slot 10) (av_nil))) (ev_slot 12))) (av_nil))))))
     (bv_cons (sv_set 14 nd (ev_bin op_addA s_add (ev_slot 3) (ev_lc (own := [("_law_k", 4)]) rfl nd (wv_r1 G.b_range (ev_bin op_sub s_sub (ev_int) (ev_call1 call_lenA s_len G.b_len (ev_slot 3)))) (blkOk_by (own := [("_law_k", 4)]) (N := N_law) (sc := defScope st_law) (by decide +kernel)) (tg_one) (by decide) (fun _ _ _ _ _ => pg_name (i := 4) nd rfl (by first | exact Or.inl rfl | exact Or.inr rfl)) (fun _ _ _ _ _ => ptv_nil) (fun _ _ _ _ _ => ev_tup (av_keep (ev_str) (av_keep (ev_str) (av_nil)))))))
     (bv_cons (sv_setLc (own := [("_law_step", 6)]) 15 rfl nd rfl (sw_true rfl rfl rfl (by decide +kernel)) (wv_any (ev_slot 14)) (blkOk_by (own := [("_law_step", 6)]) (N := N_law) (sc := defScope st_law) (by decide +kernel)) (tg_one) (by decide) (fun _ _ _ _ _ => pg_name (i := 6) nd rfl (by first | exact Or.inl rfl | exact Or.inr rfl)) (fun _ _ _ _ _ => ptv_nil) (fun _ _ _ _ _ => ev_call G.f__law_text_of hr takes0 (av_cons (ev_slot 6) (av_nil))))
     (bv_cons (sv_set 13 nd (ev_bin op_addA s_add (ev_slot 13) (ev_lst (av_keep (ev_join (ev_slot 15)) (av_keep (ev_join (ev_bin op_addA s_add (ev_slot 15) (ev_lst (av_keep (ev_slot 10) (av_nil))))) (av_nil))))))
     (bv_cons (sv_for (tmp := [16]) (tt := .one 16) po rfl (pg_name (i := 16) nd rfl (by first | exact Or.inl rfl | exact Or.inr rfl)) (tg_one) (wv_any (ev_slot 13))
     (bv_one (sv_if (tv_not (tv_tru (ev_call G.f__law_right hr tk (av_cons (ev_slot 16) (av_nil))))) (bv_one (sv_ret (ev_bl))) (bv_nil))))
     (bv_cons (sv_set 17 nd (ev_lst (av_keep (ev_tup (av_nil)) (av_keep (ev_tup (av_keep (ev_str) (av_nil))) (av_keep (ev_tup (av_keep (ev_str) (av_keep (ev_str) (av_keep (ev_tup (av_keep (ev_str) (av_keep (ev_str) (av_nil)))) (av_nil))))) (av_keep (ev_tup (av_keep (ev_str) (av_keep (ev_str) (av_keep (ev_str) (av_nil))))) (av_nil)))))))
     (bv_cons (sv_set 17 nd (ev_bin op_addA s_add (ev_slot 17) (ev_lst (av_keep (ev_tup (av_keep (ev_str) (av_keep (ev_str) (av_keep (ev_str) (av_nil))))) (av_keep (ev_tup (av_keep (ev_str) (av_keep (ev_str) (av_nil)))) (av_nil))))))
     (bv_cons (sv_set 9 nd (ev_ix (ev_slot 17) (ev_bin op_mod s_mod (ev_type1 call_int1 s_int G.b_int (ev_ix (ev_slot 1) (ev_int) (hu_of hr))) (ev_int)) (hu_of hr)))
     (bv_cons (sv_set 10 nd (ev_ix (ev_slot 17) (ev_bin op_mod s_mod (ev_bin op_fdiv s_div (ev_type1 call_int1 s_int G.b_int (ev_ix (ev_slot 1) (ev_int) (hu_of hr))) (ev_int)) (ev_int)) (hu_of hr)))
     (bv_cons (sv_set 12 nd (ev_bin op_addA s_add (ev_bin op_addA s_add (ev_cutHi (ev_slot 3) (ev_slot 11)) (ev_lst (av_keep (ev_slot 9) (av_nil)))) (ev_cutLo (ev_slot 3) (ev_slot 11))))
     (bv_cons (sv_set 18 nd (ev_lst (av_keep (ev_slot 3) (av_keep (ev_slot 12) (av_keep (ev_bin op_addA s_add (ev_slot 12) (ev_lst (av_keep (ev_slot 10) (av_nil)))) (av_keep (ev_bin op_addA s_add (ev_lst (av_keep (ev_slot 10) (av_nil))) (ev_slot 12)) (av_nil)))))))
     (bv_cons (sv_for (tmp := [16]) (tt := .one 16) po rfl (pg_name (i := 16) nd rfl (by first | exact Or.inl rfl | exact Or.inr rfl)) (tg_one) (wv_any (ev_bin op_addA s_add (ev_slot 18) (ev_lst (av_keep (ev_slot 14) (av_keep (ev_bin op_addA s_add (ev_slot 14) (ev_lst (av_keep (ev_slot 10) (av_nil)))) (av_nil))))))
     (bv_one (sv_if (tv_not (tv_tru (ev_call G.f__law_written hr tk (av_cons (ev_slot 16) (av_nil))))) (bv_one (sv_ret (ev_bl))) (bv_nil))))
     (bv_one (sv_ret (ev_bl)))))))))))))))))))))))))))

end
/-! ### the top, the law's end -/
set_option maxHeartbeats 0 in
theorem all_mk {l : PySem.W.OpenLaw} {w : World} {K : PySem.W.Frag} {h : Heap} {mg : Str → Option Value} {fa : Addr} (X : K.In h) (G : h.Ns mainGlobals mg) (hfa : mg "law" = some (.ref fa)) (sol : ∀ ns : List Int, ns.length ≤ 63 → sem tab 40 "law" [.scr (ns.map .int)] = .ok false (.bl true) []) 
    {od0 an0 : Option Addr} {sl0 : Array (Option Value)} {oc0 kV0 dc0 pm0 cd0 ct0 : Value} {f0 : Addr}
    {od1 an1 : Option Addr} {sl1 : Array (Option Value)} {oc1 kV1 dc1 pm1 cd1 ct1 : Value} {f1 : Addr}
    {od2 an2 : Option Addr} {sl2 : Array (Option Value)} {oc2 kV2 dc2 pm2 cd2 ct2 : Value} {f2 : Addr}
    {od3 an3 : Option Addr} {sl3 : Array (Option Value)} {oc3 kV3 dc3 pm3 cd3 ct3 : Value} {f3 : Addr}
    {od4 an4 : Option Addr} {sl4 : Array (Option Value)} {oc4 kV4 dc4 pm4 cd4 ct4 : Value} {f4 : Addr}
    {od5 an5 : Option Addr} {sl5 : Array (Option Value)} {oc5 kV5 dc5 pm5 cd5 ct5 : Value} {f5 : Addr}
    {od6 an6 : Option Addr} {sl6 : Array (Option Value)} {oc6 kV6 dc6 pm6 cd6 ct6 : Value} {f6 : Addr}
    {od7 an7 : Option Addr} {sl7 : Array (Option Value)} {oc7 kV7 dc7 pm7 cd7 ct7 : Value} {f7 : Addr}
    {od8 an8 : Option Addr} {sl8 : Array (Option Value)} {oc8 kV8 dc8 pm8 cd8 ct8 : Value} {f8 : Addr}
    {od9 an9 : Option Addr} {sl9 : Array (Option Value)} {oc9 kV9 dc9 pm9 cd9 ct9 : Value} {f9 : Addr}
    {od10 an10 : Option Addr} {sl10 : Array (Option Value)} {oc10 kV10 dc10 pm10 cd10 ct10 : Value} {f10 : Addr}
    {od11 an11 : Option Addr} {sl11 : Array (Option Value)} {oc11 kV11 dc11 pm11 cd11 ct11 : Value} {f11 : Addr}
    {od12 an12 : Option Addr} {sl12 : Array (Option Value)} {oc12 kV12 dc12 pm12 cd12 ct12 : Value} {f12 : Addr}
    {od13 an13 : Option Addr} {sl13 : Array (Option Value)} {oc13 kV13 dc13 pm13 cd13 ct13 : Value} {f13 : Addr}
    {od14 an14 : Option Addr} {sl14 : Array (Option Value)} {oc14 kV14 dc14 pm14 cd14 ct14 : Value} {f14 : Addr}
    {od15 an15 : Option Addr} {sl15 : Array (Option Value)} {oc15 kV15 dc15 pm15 cd15 ct15 : Value} {f15 : Addr}
    {od16 an16 : Option Addr} {sl16 : Array (Option Value)} {oc16 kV16 dc16 pm16 cd16 ct16 : Value} {f16 : Addr}
    {od17 an17 : Option Addr} {sl17 : Array (Option Value)} {oc17 kV17 dc17 pm17 cd17 ct17 : Value} {f17 : Addr}
    {od18 an18 : Option Addr} {sl18 : Array (Option Value)} {oc18 kV18 dc18 pm18 cd18 ct18 : Value} {f18 : Addr}
    {od19 an19 : Option Addr} {sl19 : Array (Option Value)} {oc19 kV19 dc19 pm19 cd19 ct19 : Value} {f19 : Addr}
    {od20 an20 : Option Addr} {sl20 : Array (Option Value)} {oc20 kV20 dc20 pm20 cd20 ct20 : Value} {f20 : Addr}
    {t_LONGEST : Tok}
    {t_LETTERS : Tok}
    {t_DIGITS : Tok}
    {C_InvalidStep : Addr}
    {C_InvalidLine : Addr}
    {C_KeeperError : Addr}
    {nm_InvalidStep qn_InvalidStep : Str} {N_InvalidStep fI_InvalidStep cc_InvalidStep cda_InvalidStep : Addr} {bs_InvalidStep bm_InvalidStep : List Value} {sn_InvalidStep : List Str} {sb_InvalidStep : List Value} {ab_InvalidStep : Bool} {col_InvalidStep : Option Bool} {dd_InvalidStep : Option Addr} {k0_InvalidStep k1_InvalidStep k2_InvalidStep k3_InvalidStep k5_InvalidStep : Option Value}
    {ioc_InvalidStep ikV_InvalidStep idc_InvalidStep ipm_InvalidStep ict_InvalidStep gcl_InvalidStep hcl_InvalidStep : Value} {iod_InvalidStep ian_InvalidStep gcd_InvalidStep hcd_InvalidStep : Option Addr} {isl_InvalidStep gsl_InvalidStep hsl_InvalidStep : Array (Option Value)} {vs_InvalidStep : Array Value} {file_InvalidStep : Str} {tf_InvalidStep : Tok}
    {nm_InvalidLine qn_InvalidLine : Str} {N_InvalidLine fI_InvalidLine cc_InvalidLine cda_InvalidLine : Addr} {bs_InvalidLine bm_InvalidLine : List Value} {sn_InvalidLine : List Str} {sb_InvalidLine : List Value} {ab_InvalidLine : Bool} {col_InvalidLine : Option Bool} {dd_InvalidLine : Option Addr} {k0_InvalidLine k1_InvalidLine k2_InvalidLine k3_InvalidLine k5_InvalidLine : Option Value}
    {ioc_InvalidLine ikV_InvalidLine idc_InvalidLine ipm_InvalidLine ict_InvalidLine gcl_InvalidLine hcl_InvalidLine : Value} {iod_InvalidLine ian_InvalidLine gcd_InvalidLine hcd_InvalidLine : Option Addr} {isl_InvalidLine gsl_InvalidLine hsl_InvalidLine : Array (Option Value)} {vs_InvalidLine : Array Value} {file_InvalidLine : Str} {tf_InvalidLine : Tok}
    (z_len : PySem.W.nsIn K mainGlobals "len" = some none)
    (z_all : PySem.W.nsIn K mainGlobals "all" = some none)
    (z_isinstance : PySem.W.nsIn K mainGlobals "isinstance" = some none)
    (z_str : PySem.W.nsIn K mainGlobals "str" = some none)
    (z_tuple : PySem.W.nsIn K mainGlobals "tuple" = some none)
    (z_set : PySem.W.nsIn K mainGlobals "set" = some none)
    (z_super : PySem.W.nsIn K mainGlobals "super" = some none)
    (z_enumerate : PySem.W.nsIn K mainGlobals "enumerate" = some none)
    (z_int : PySem.W.nsIn K mainGlobals "int" = some none)
    (z_abs : PySem.W.nsIn K mainGlobals "abs" = some none)
    (z_range : PySem.W.nsIn K mainGlobals "range" = some none)
    (z_bool : PySem.W.nsIn K mainGlobals "bool" = some none)
    (z_list : PySem.W.nsIn K mainGlobals "list" = some none)
    (c_LONGEST : PySem.W.nsIn K mainGlobals "LONGEST" = some (some (.int 8 t_LONGEST)))
    (c_LETTERS : PySem.W.nsIn K mainGlobals "LETTERS" = some (some (.str "abcdefghijklmnopqrstuvwxyz" t_LETTERS)))
    (c_DIGITS : PySem.W.nsIn K mainGlobals "DIGITS" = some (some (.str "0123456789" t_DIGITS)))
    (a0 : PySem.W.nsIn K mainGlobals "valid_name" = some (some (.ref f0)))
    (l0 : K.lookup f0 = some ⟨oc0, od0, .func (PySem.W.fnOf "valid_name" "valid_name" (defArgs st_valid_name) (defBody st_valid_name) (defScope st_valid_name) .none kV0 dc0 pm0 an0 cd0 ct0), sl0⟩)
    (d0 : PySem.W.codeIn K cd0 "valid_name" = true)
    (k0 : PySem.W.keepIn K (.ref f0) = true)
    (a1 : PySem.W.nsIn K mainGlobals "_is_name" = some (some (.ref f1)))
    (l1 : K.lookup f1 = some ⟨oc1, od1, .func (PySem.W.fnOf "_is_name" "_is_name" (defArgs st__is_name) (defBody st__is_name) (defScope st__is_name) .none kV1 dc1 pm1 an1 cd1 ct1), sl1⟩)
    (d1 : PySem.W.codeIn K cd1 "_is_name" = true)
    (k1 : PySem.W.keepIn K (.ref f1) = true)
    (a2 : PySem.W.nsIn K mainGlobals "_are_things" = some (some (.ref f2)))
    (l2 : K.lookup f2 = some ⟨oc2, od2, .func (PySem.W.fnOf "_are_things" "_are_things" (defArgs st__are_things) (defBody st__are_things) (defScope st__are_things) .none kV2 dc2 pm2 an2 cd2 ct2), sl2⟩)
    (d2 : PySem.W.codeIn K cd2 "_are_things" = true)
    (k2 : PySem.W.keepIn K (.ref f2) = true)
    (a3 : PySem.W.nsIn K mainGlobals "valid_step" = some (some (.ref f3)))
    (l3 : K.lookup f3 = some ⟨oc3, od3, .func (PySem.W.fnOf "valid_step" "valid_step" (defArgs st_valid_step) (defBody st_valid_step) (defScope st_valid_step) .none kV3 dc3 pm3 an3 cd3 ct3), sl3⟩)
    (d3 : PySem.W.codeIn K cd3 "valid_step" = true)
    (k3 : PySem.W.keepIn K (.ref f3) = true)
    (a4 : PySem.W.nsIn K mainGlobals "format_step" = some (some (.ref f4)))
    (l4 : K.lookup f4 = some ⟨oc4, od4, .func (PySem.W.fnOf "format_step" "format_step" (defArgs st_format_step) (defBody st_format_step) (defScope st_format_step) .none kV4 dc4 pm4 an4 cd4 ct4), sl4⟩)
    (d4 : PySem.W.codeIn K cd4 "format_step" = true)
    (k4 : PySem.W.keepIn K (.ref f4) = true)
    (a5 : PySem.W.nsIn K mainGlobals "_step_of" = some (some (.ref f5)))
    (l5 : K.lookup f5 = some ⟨oc5, od5, .func (PySem.W.fnOf "_step_of" "_step_of" (defArgs st__step_of) (defBody st__step_of) (defScope st__step_of) .none kV5 dc5 pm5 an5 cd5 ct5), sl5⟩)
    (d5 : PySem.W.codeIn K cd5 "_step_of" = true)
    (k5 : PySem.W.keepIn K (.ref f5) = true)
    (a6 : PySem.W.nsIn K mainGlobals "format_history" = some (some (.ref f6)))
    (l6 : K.lookup f6 = some ⟨oc6, od6, .func (PySem.W.fnOf "format_history" "format_history" (defArgs st_format_history) (defBody st_format_history) (defScope st_format_history) .none kV6 dc6 pm6 an6 cd6 ct6), sl6⟩)
    (d6 : PySem.W.codeIn K cd6 "format_history" = true)
    (k6 : PySem.W.keepIn K (.ref f6) = true)
    (a7 : PySem.W.nsIn K mainGlobals "parse_history" = some (some (.ref f7)))
    (l7 : K.lookup f7 = some ⟨oc7, od7, .func (PySem.W.fnOf "parse_history" "parse_history" (defArgs st_parse_history) (defBody st_parse_history) (defScope st_parse_history) .none kV7 dc7 pm7 an7 cd7 ct7), sl7⟩)
    (d7 : PySem.W.codeIn K cd7 "parse_history" = true)
    (k7 : PySem.W.keepIn K (.ref f7) = true)
    (a8 : PySem.W.nsIn K mainGlobals "_law_draws_of" = some (some (.ref f8)))
    (l8 : K.lookup f8 = some ⟨oc8, od8, .func (PySem.W.fnOf "_law_draws_of" "_law_draws_of" (defArgs st__law_draws_of) (defBody st__law_draws_of) (defScope st__law_draws_of) .none kV8 dc8 pm8 an8 cd8 ct8), sl8⟩)
    (d8 : PySem.W.codeIn K cd8 "_law_draws_of" = true)
    (k8 : PySem.W.keepIn K (.ref f8) = true)
    (a9 : PySem.W.nsIn K mainGlobals "_law_nth" = some (some (.ref f9)))
    (l9 : K.lookup f9 = some ⟨oc9, od9, .func (PySem.W.fnOf "_law_nth" "_law_nth" (defArgs st__law_nth) (defBody st__law_nth) (defScope st__law_nth) .none kV9 dc9 pm9 an9 cd9 ct9), sl9⟩)
    (d9 : PySem.W.codeIn K cd9 "_law_nth" = true)
    (k9 : PySem.W.keepIn K (.ref f9) = true)
    (a10 : PySem.W.nsIn K mainGlobals "_law_named" = some (some (.ref f10)))
    (l10 : K.lookup f10 = some ⟨oc10, od10, .func (PySem.W.fnOf "_law_named" "_law_named" (defArgs st__law_named) (defBody st__law_named) (defScope st__law_named) .none kV10 dc10 pm10 an10 cd10 ct10), sl10⟩)
    (d10 : PySem.W.codeIn K cd10 "_law_named" = true)
    (k10 : PySem.W.keepIn K (.ref f10) = true)
    (a11 : PySem.W.nsIn K mainGlobals "_law_is_name" = some (some (.ref f11)))
    (l11 : K.lookup f11 = some ⟨oc11, od11, .func (PySem.W.fnOf "_law_is_name" "_law_is_name" (defArgs st__law_is_name) (defBody st__law_is_name) (defScope st__law_is_name) .none kV11 dc11 pm11 an11 cd11 ct11), sl11⟩)
    (d11 : PySem.W.codeIn K cd11 "_law_is_name" = true)
    (k11 : PySem.W.keepIn K (.ref f11) = true)
    (a12 : PySem.W.nsIn K mainGlobals "_law_is_step" = some (some (.ref f12)))
    (l12 : K.lookup f12 = some ⟨oc12, od12, .func (PySem.W.fnOf "_law_is_step" "_law_is_step" (defArgs st__law_is_step) (defBody st__law_is_step) (defScope st__law_is_step) .none kV12 dc12 pm12 an12 cd12 ct12), sl12⟩)
    (d12 : PySem.W.codeIn K cd12 "_law_is_step" = true)
    (k12 : PySem.W.keepIn K (.ref f12) = true)
    (a13 : PySem.W.nsIn K mainGlobals "_law_good_step" = some (some (.ref f13)))
    (l13 : K.lookup f13 = some ⟨oc13, od13, .func (PySem.W.fnOf "_law_good_step" "_law_good_step" (defArgs st__law_good_step) (defBody st__law_good_step) (defScope st__law_good_step) .none kV13 dc13 pm13 an13 cd13 ct13), sl13⟩)
    (d13 : PySem.W.codeIn K cd13 "_law_good_step" = true)
    (k13 : PySem.W.keepIn K (.ref f13) = true)
    (a14 : PySem.W.nsIn K mainGlobals "_law_text_of" = some (some (.ref f14)))
    (l14 : K.lookup f14 = some ⟨oc14, od14, .func (PySem.W.fnOf "_law_text_of" "_law_text_of" (defArgs st__law_text_of) (defBody st__law_text_of) (defScope st__law_text_of) .none kV14 dc14 pm14 an14 cd14 ct14), sl14⟩)
    (d14 : PySem.W.codeIn K cd14 "_law_text_of" = true)
    (k14 : PySem.W.keepIn K (.ref f14) = true)
    (a15 : PySem.W.nsIn K mainGlobals "_law_words_of" = some (some (.ref f15)))
    (l15 : K.lookup f15 = some ⟨oc15, od15, .func (PySem.W.fnOf "_law_words_of" "_law_words_of" (defArgs st__law_words_of) (defBody st__law_words_of) (defScope st__law_words_of) .none kV15 dc15 pm15 an15 cd15 ct15), sl15⟩)
    (d15 : PySem.W.codeIn K cd15 "_law_words_of" = true)
    (k15 : PySem.W.keepIn K (.ref f15) = true)
    (a16 : PySem.W.nsIn K mainGlobals "_law_parsed" = some (some (.ref f16)))
    (l16 : K.lookup f16 = some ⟨oc16, od16, .func (PySem.W.fnOf "_law_parsed" "_law_parsed" (defArgs st__law_parsed) (defBody st__law_parsed) (defScope st__law_parsed) .none kV16 dc16 pm16 an16 cd16 ct16), sl16⟩)
    (d16 : PySem.W.codeIn K cd16 "_law_parsed" = true)
    (k16 : PySem.W.keepIn K (.ref f16) = true)
    (a17 : PySem.W.nsIn K mainGlobals "_law_lines" = some (some (.ref f17)))
    (l17 : K.lookup f17 = some ⟨oc17, od17, .func (PySem.W.fnOf "_law_lines" "_law_lines" (defArgs st__law_lines) (defBody st__law_lines) (defScope st__law_lines) .none kV17 dc17 pm17 an17 cd17 ct17), sl17⟩)
    (d17 : PySem.W.codeIn K cd17 "_law_lines" = true)
    (k17 : PySem.W.keepIn K (.ref f17) = true)
    (a18 : PySem.W.nsIn K mainGlobals "_law_right" = some (some (.ref f18)))
    (l18 : K.lookup f18 = some ⟨oc18, od18, .func (PySem.W.fnOf "_law_right" "_law_right" (defArgs st__law_right) (defBody st__law_right) (defScope st__law_right) .none kV18 dc18 pm18 an18 cd18 ct18), sl18⟩)
    (d18 : PySem.W.codeIn K cd18 "_law_right" = true)
    (k18 : PySem.W.keepIn K (.ref f18) = true)
    (a19 : PySem.W.nsIn K mainGlobals "_law_written" = some (some (.ref f19)))
    (l19 : K.lookup f19 = some ⟨oc19, od19, .func (PySem.W.fnOf "_law_written" "_law_written" (defArgs st__law_written) (defBody st__law_written) (defScope st__law_written) .none kV19 dc19 pm19 an19 cd19 ct19), sl19⟩)
    (d19 : PySem.W.codeIn K cd19 "_law_written" = true)
    (k19 : PySem.W.keepIn K (.ref f19) = true)
    (a20 : PySem.W.nsIn K mainGlobals "law" = some (some (.ref f20)))
    (l20 : K.lookup f20 = some ⟨oc20, od20, .func (PySem.W.fnOf "law" "law" (defArgs st_law) (defBody st_law) (defScope st_law) .none kV20 dc20 pm20 an20 cd20 ct20), sl20⟩)
    (d20 : PySem.W.codeIn K cd20 "law" = true)
    (k20 : PySem.W.keepIn K (.ref f20) = true)
    (na_InvalidStep : PySem.W.nsIn K mainGlobals "InvalidStep" = some (some (.ref C_InvalidStep)))
    (na_InvalidLine : PySem.W.nsIn K mainGlobals "InvalidLine" = some (some (.ref C_InvalidLine)))
    (na_KeeperError : PySem.W.nsIn K mainGlobals "KeeperError" = some (some (.ref C_KeeperError)))
    (xo : PySem.W.nsIn K cStatics "thirdparty.any" = some none)
    (xtop : (l.prog.main.scope.names.lookup ("super" : Str)).isSome = false)
    (xhn : PySem.W.specialIn K (.builtin "object.__class__") "__get__" = some (some (.builtin "getset_descriptor.__get__")))
    (xht : PySem.W.takesIn K (.builtin "object.__class__") = some true)
    (xL_InvalidStep : K.lookup C_InvalidStep = some (excClassObj nm_InvalidStep qn_InvalidStep C_InvalidStep N_InvalidStep bs_InvalidStep bm_InvalidStep true sn_InvalidStep sb_InvalidStep ab_InvalidStep col_InvalidStep dd_InvalidStep k0_InvalidStep k1_InvalidStep k2_InvalidStep k3_InvalidStep k5_InvalidStep "ValueError.__new__"))
    (xbm_InvalidStep : PySem.HandSPX.refsVE bm_InvalidStep = true)
    (xsa_InvalidStep : PySem.W.findIn K (.ref C_InvalidStep) "__setattr__" = some (some (.builtin "object.__setattr__")))
    (xbe_InvalidStep : PySem.W.subIn K (.ref C_InvalidStep) (.type "BaseException") = some true)
    (xty_InvalidStep : PySem.W.typeIn K (.ref C_InvalidStep) = some (.type "type"))
    (xke_InvalidStep : PySem.W.keepIn K (.ref C_InvalidStep) = true)
    (xno_InvalidStep_step : PySem.W.findIn K (.ref C_InvalidStep) "step" = some none)
    (xno_InvalidStep_number : PySem.W.findIn K (.ref C_InvalidStep) "number" = some none)
    (xno_InvalidStep_line : PySem.W.findIn K (.ref C_InvalidStep) "line" = some none)
    (xin_InvalidStep : PySem.W.findIn K (.ref C_InvalidStep) "__init__" = some (some (.ref fI_InvalidStep)))
    (xfn_InvalidStep : K.lookup fI_InvalidStep = some ⟨ioc_InvalidStep, iod_InvalidStep, .func (PySem.W.ksFn "__init__" "InvalidStep.__init__" (defArgs st_InvalidStep) (defBody st_InvalidStep) (defScope st_InvalidStep) .none ikV_InvalidStep idc_InvalidStep ipm_InvalidStep ian_InvalidStep (.ref cda_InvalidStep) ict_InvalidStep cc_InvalidStep), isl_InvalidStep⟩)
    (xti_InvalidStep : PySem.W.typeIn K (.ref fI_InvalidStep) = some (.type "function"))
    (xsu_InvalidStep : PySem.W.ks_superIn K C_InvalidStep C_InvalidStep "__init__" = some (some (.builtin "ValueError.__init__")))
    (xve_InvalidStep : PySem.W.subIn K (.ref C_InvalidStep) (.type "ValueError") = some true)
    (xmc_InvalidStep : PySem.W.mroIn K C_InvalidStep (.ref C_InvalidStep) = some true)
    (xcd_InvalidStep : PySem.W.codeIn K (.ref cda_InvalidStep) "InvalidStep.__init__" = true)
    (xco_InvalidStep : K.lookup cda_InvalidStep = some ⟨gcl_InvalidStep, gcd_InvalidStep, .fields vs_InvalidStep, gsl_InvalidStep⟩)
    (xvs_InvalidStep : vs_InvalidStep[2]? = some (.str file_InvalidStep tf_InvalidStep))
    (xfi_InvalidStep : ((l.prog.main.file : Str) == file_InvalidStep) = true)
    (xce_InvalidStep : K.lookup cc_InvalidStep = some ⟨hcl_InvalidStep, hcd_InvalidStep, .cell (some (.ref C_InvalidStep)), hsl_InvalidStep⟩)
    (xga_InvalidStep : PySem.W.findIn K (.ref C_InvalidStep) "__getattribute__" = some (some (.builtin "BaseException.__getattribute__")))
    (xgt_InvalidStep : PySem.W.findIn K (.ref C_InvalidStep) "__getattr__" = some none)
    (xha_InvalidStep : PySem.W.findIn K (.ref C_InvalidStep) "__class__" = some (some (.builtin "object.__class__")))
    (xhm_InvalidStep : PySem.W.mroIn K C_InvalidStep (.type "object") = some true)
    (xhd_InvalidStep : PySem.W.hasDictIn K C_InvalidStep = true)
    (xL_InvalidLine : K.lookup C_InvalidLine = some (excClassObj nm_InvalidLine qn_InvalidLine C_InvalidLine N_InvalidLine bs_InvalidLine bm_InvalidLine true sn_InvalidLine sb_InvalidLine ab_InvalidLine col_InvalidLine dd_InvalidLine k0_InvalidLine k1_InvalidLine k2_InvalidLine k3_InvalidLine k5_InvalidLine "ValueError.__new__"))
    (xbm_InvalidLine : PySem.HandSPX.refsVE bm_InvalidLine = true)
    (xsa_InvalidLine : PySem.W.findIn K (.ref C_InvalidLine) "__setattr__" = some (some (.builtin "object.__setattr__")))
    (xbe_InvalidLine : PySem.W.subIn K (.ref C_InvalidLine) (.type "BaseException") = some true)
    (xty_InvalidLine : PySem.W.typeIn K (.ref C_InvalidLine) = some (.type "type"))
    (xke_InvalidLine : PySem.W.keepIn K (.ref C_InvalidLine) = true)
    (xno_InvalidLine_number : PySem.W.findIn K (.ref C_InvalidLine) "number" = some none)
    (xno_InvalidLine_line : PySem.W.findIn K (.ref C_InvalidLine) "line" = some none)
    (xno_InvalidLine_step : PySem.W.findIn K (.ref C_InvalidLine) "step" = some none)
    (xin_InvalidLine : PySem.W.findIn K (.ref C_InvalidLine) "__init__" = some (some (.ref fI_InvalidLine)))
    (xfn_InvalidLine : K.lookup fI_InvalidLine = some ⟨ioc_InvalidLine, iod_InvalidLine, .func (PySem.W.ksFn "__init__" "InvalidLine.__init__" (defArgs st_InvalidLine) (defBody st_InvalidLine) (defScope st_InvalidLine) .none ikV_InvalidLine idc_InvalidLine ipm_InvalidLine ian_InvalidLine (.ref cda_InvalidLine) ict_InvalidLine cc_InvalidLine), isl_InvalidLine⟩)
    (xti_InvalidLine : PySem.W.typeIn K (.ref fI_InvalidLine) = some (.type "function"))
    (xsu_InvalidLine : PySem.W.ks_superIn K C_InvalidLine C_InvalidLine "__init__" = some (some (.builtin "ValueError.__init__")))
    (xve_InvalidLine : PySem.W.subIn K (.ref C_InvalidLine) (.type "ValueError") = some true)
    (xmc_InvalidLine : PySem.W.mroIn K C_InvalidLine (.ref C_InvalidLine) = some true)
    (xcd_InvalidLine : PySem.W.codeIn K (.ref cda_InvalidLine) "InvalidLine.__init__" = true)
    (xco_InvalidLine : K.lookup cda_InvalidLine = some ⟨gcl_InvalidLine, gcd_InvalidLine, .fields vs_InvalidLine, gsl_InvalidLine⟩)
    (xvs_InvalidLine : vs_InvalidLine[2]? = some (.str file_InvalidLine tf_InvalidLine))
    (xfi_InvalidLine : ((l.prog.main.file : Str) == file_InvalidLine) = true)
    (xce_InvalidLine : K.lookup cc_InvalidLine = some ⟨hcl_InvalidLine, hcd_InvalidLine, .cell (some (.ref C_InvalidLine)), hsl_InvalidLine⟩)
    (xga_InvalidLine : PySem.W.findIn K (.ref C_InvalidLine) "__getattribute__" = some (some (.builtin "BaseException.__getattribute__")))
    (xgt_InvalidLine : PySem.W.findIn K (.ref C_InvalidLine) "__getattr__" = some none)
    (xha_InvalidLine : PySem.W.findIn K (.ref C_InvalidLine) "__class__" = some (some (.builtin "object.__class__")))
    (xhm_InvalidLine : PySem.W.mroIn K C_InvalidLine (.type "object") = some true)
    (xhd_InvalidLine : PySem.W.hasDictIn K C_InvalidLine = true)
    (ki_InvalidStep_InvalidStep : PySem.W.kitOne K (.ref C_InvalidStep) (.ref C_InvalidStep) = some true)
    (ki_InvalidLine_InvalidStep : PySem.W.kitOne K (.ref C_InvalidLine) (.ref C_InvalidStep) = some false)
    (ki_InvalidStep_KeeperError : PySem.W.kitOne K (.ref C_InvalidStep) (.ref C_KeeperError) = some true)
    (ki_InvalidLine_KeeperError : PySem.W.kitOne K (.ref C_InvalidLine) (.ref C_KeeperError) = some true)
    (eb_InvalidLine : PySem.W.subIn K (.ref C_InvalidLine) (.type "BaseException") = some true)
    (eh_InvalidLine : PySem.W.hasDictIn K C_InvalidLine = true)
    (et_InvalidLine : PySem.W.typeIn K (.ref C_InvalidLine) = some (.type "type"))
    (es_InvalidStep_InvalidLine : PySem.W.subIn K (.ref C_InvalidStep) (.ref C_InvalidLine) = some false)
    (es_InvalidLine_InvalidLine : PySem.W.subIn K (.ref C_InvalidLine) (.ref C_InvalidLine) = some true)
    (eb_InvalidStep : PySem.W.subIn K (.ref C_InvalidStep) (.type "BaseException") = some true)
    (eh_InvalidStep : PySem.W.hasDictIn K C_InvalidStep = true)
    (et_InvalidStep : PySem.W.typeIn K (.ref C_InvalidStep) = some (.type "type"))
    (es_InvalidStep_InvalidStep : PySem.W.subIn K (.ref C_InvalidStep) (.ref C_InvalidStep) = some true)
    (es_InvalidLine_InvalidStep : PySem.W.subIn K (.ref C_InvalidLine) (.ref C_InvalidStep) = some false) :
    ∃ fd : FuncData, (∀ (s : Shared) (v : Value), BindsTo s fd ⟨[v], []⟩ [("_law_script", v)]) ∧ ∀ base : Heap, K.In base → base.Ns mainGlobals mg → FnOk l.prog w K mg base (L2N.CX l.prog w) (2 * 40) fa fd ["_law_script"] (spL K) := by
  have e := hfa.symm.trans (PySem.W.mg_of X G a20)
  cases e
  have T_InvalidStep : PySem.S3X.ExT l.prog K C_InvalidStep fI_InvalidStep cc_InvalidStep cda_InvalidStep (PySem.W.ksFn "__init__" "InvalidStep.__init__" (defArgs st_InvalidStep) (defBody st_InvalidStep) (defScope st_InvalidStep) .none ikV_InvalidStep idc_InvalidStep ipm_InvalidStep ian_InvalidStep (.ref cda_InvalidStep) ict_InvalidStep cc_InvalidStep) ["step"] := {
    cls := ⟨_, _, _, _, _, _, _, _, _, _, _, _, _, _, _, xL_InvalidStep, xbm_InvalidStep⟩, sa := xsa_InvalidStep, exC := xbe_InvalidStep, tyC := xty_InvalidStep, kC := xke_InvalidStep
    noN := fun f hf => by
      simp only [List.mem_cons, List.not_mem_nil, or_false] at hf
      subst hf
      exact xno_InvalidStep_step
    iC := xin_InvalidStep, tI := xti_InvalidStep, sup := xsu_InvalidStep, vB := xve_InvalidStep, mC := xmc_InvalidStep, opq := xo, fn := ⟨_, _, _, xfn_InvalidStep⟩, fe := ⟨_, _, _, _, _, _, _, _, _, _, _, rfl, it_InvalidStep⟩, cd := xcd_InvalidStep
    code := ⟨_, _, _, _, _, _, xco_InvalidStep, xvs_InvalidStep, xfi_InvalidStep⟩, cell := ⟨_, _, _, xce_InvalidStep⟩, bd := fun s e us hl => match us, hl with | [_], _ => .of_eq rfl, top := xtop }
  have X_InvalidStep : XcK K C_InvalidStep ["number", "line", "step"] := {
    cl := by obtain ⟨cd, h, _⟩ := PySem.S3X.clsIn_of T_InvalidStep; rw [h]; rfl
    ga := xga_InvalidStep, gt := xgt_InvalidStep, sb := xbe_InvalidStep, ha := xha_InvalidStep, hn := xhn, ht := xht, hm := xhm_InvalidStep, hd := xhd_InvalidStep
    no := fun f hf => by
      simp only [List.mem_cons, List.not_mem_nil, or_false] at hf
      rcases hf with rfl | rfl | rfl
      · exact xno_InvalidStep_number
      · exact xno_InvalidStep_line
      · exact xno_InvalidStep_step }
  have T_InvalidLine : PySem.S3X.ExT l.prog K C_InvalidLine fI_InvalidLine cc_InvalidLine cda_InvalidLine (PySem.W.ksFn "__init__" "InvalidLine.__init__" (defArgs st_InvalidLine) (defBody st_InvalidLine) (defScope st_InvalidLine) .none ikV_InvalidLine idc_InvalidLine ipm_InvalidLine ian_InvalidLine (.ref cda_InvalidLine) ict_InvalidLine cc_InvalidLine) ["number", "line"] := {
    cls := ⟨_, _, _, _, _, _, _, _, _, _, _, _, _, _, _, xL_InvalidLine, xbm_InvalidLine⟩, sa := xsa_InvalidLine, exC := xbe_InvalidLine, tyC := xty_InvalidLine, kC := xke_InvalidLine
    noN := fun f hf => by
      simp only [List.mem_cons, List.not_mem_nil, or_false] at hf
      rcases hf with rfl | rfl
      · exact xno_InvalidLine_number
      · exact xno_InvalidLine_line
    iC := xin_InvalidLine, tI := xti_InvalidLine, sup := xsu_InvalidLine, vB := xve_InvalidLine, mC := xmc_InvalidLine, opq := xo, fn := ⟨_, _, _, xfn_InvalidLine⟩, fe := ⟨_, _, _, _, _, _, _, _, _, _, _, rfl, it_InvalidLine⟩, cd := xcd_InvalidLine
    code := ⟨_, _, _, _, _, _, xco_InvalidLine, xvs_InvalidLine, xfi_InvalidLine⟩, cell := ⟨_, _, _, xce_InvalidLine⟩, bd := fun s e us hl => match us, hl with | [_, _], _ => .of_eq rfl, top := xtop }
  have X_InvalidLine : XcK K C_InvalidLine ["number", "line", "step"] := {
    cl := by obtain ⟨cd, h, _⟩ := PySem.S3X.clsIn_of T_InvalidLine; rw [h]; rfl
    ga := xga_InvalidLine, gt := xgt_InvalidLine, sb := xbe_InvalidLine, ha := xha_InvalidLine, hn := xhn, ht := xht, hm := xhm_InvalidLine, hd := xhd_InvalidLine
    no := fun f hf => by
      simp only [List.mem_cons, List.not_mem_nil, or_false] at hf
      rcases hf with rfl | rfl | rfl
      · exact xno_InvalidLine_number
      · exact xno_InvalidLine_line
      · exact xno_InvalidLine_step }
  have F0 := fun_mk (st := st_valid_name) l0 d0 k0
  have b0 := F0.binds (ps := ["text"]) fun _ _ _ _ _ _ us hl => match us, hl with | [_], _ => rfl
  have F1 := fun_mk (st := st__is_name) l1 d1 k1
  have b1 := F1.binds (ps := ["part"]) fun _ _ _ _ _ _ us hl => match us, hl with | [_], _ => rfl
  have F2 := fun_mk (st := st__are_things) l2 d2 k2
  have b2 := F2.binds (ps := ["part"]) fun _ _ _ _ _ _ us hl => match us, hl with | [_], _ => rfl
  have F3 := fun_mk (st := st_valid_step) l3 d3 k3
  have b3 := F3.binds (ps := ["step"]) fun _ _ _ _ _ _ us hl => match us, hl with | [_], _ => rfl
  have F4 := fun_mk (st := st_format_step) l4 d4 k4
  have b4 := F4.binds (ps := ["step"]) fun _ _ _ _ _ _ us hl => match us, hl with | [_], _ => rfl
  have F5 := fun_mk (st := st__step_of) l5 d5 k5
  have b5 := F5.binds (ps := ["line"]) fun _ _ _ _ _ _ us hl => match us, hl with | [_], _ => rfl
  have F6 := fun_mk (st := st_format_history) l6 d6 k6
  have b6 := F6.binds (ps := ["steps"]) fun _ _ _ _ _ _ us hl => match us, hl with | [_], _ => rfl
  have F7 := fun_mk (st := st_parse_history) l7 d7 k7
  have b7 := F7.binds (ps := ["text"]) fun _ _ _ _ _ _ us hl => match us, hl with | [_], _ => rfl
  have F8 := fun_mk (st := st__law_draws_of) l8 d8 k8
  have b8 := F8.binds (ps := ["_law_script"]) fun _ _ _ _ _ _ us hl => match us, hl with | [_], _ => rfl
  have F9 := fun_mk (st := st__law_nth) l9 d9 k9
  have b9 := F9.binds (ps := ["_law_pool", "_law_k"]) fun _ _ _ _ _ _ us hl => match us, hl with | [_, _], _ => rfl
  have F10 := fun_mk (st := st__law_named) l10 d10 k10
  have b10 := F10.binds (ps := ["_law_k", "_law_style"]) fun _ _ _ _ _ _ us hl => match us, hl with | [_, _], _ => rfl
  have F11 := fun_mk (st := st__law_is_name) l11 d11 k11
  have b11 := F11.binds (ps := ["_law_part"]) fun _ _ _ _ _ _ us hl => match us, hl with | [_], _ => rfl
  have F12 := fun_mk (st := st__law_is_step) l12 d12 k12
  have b12 := F12.binds (ps := ["_law_step"]) fun _ _ _ _ _ _ us hl => match us, hl with | [_], _ => rfl
  have F13 := fun_mk (st := st__law_good_step) l13 d13 k13
  have b13 := F13.binds (ps := ["_law_draw", "_law_style"]) fun _ _ _ _ _ _ us hl => match us, hl with | [_, _], _ => rfl
  have F14 := fun_mk (st := st__law_text_of) l14 d14 k14
  have b14 := F14.binds (ps := ["_law_step"]) fun _ _ _ _ _ _ us hl => match us, hl with | [_], _ => rfl
  have F15 := fun_mk (st := st__law_words_of) l15 d15 k15
  have b15 := F15.binds (ps := ["_law_line"]) fun _ _ _ _ _ _ us hl => match us, hl with | [_], _ => rfl
  have F16 := fun_mk (st := st__law_parsed) l16 d16 k16
  have b16 := F16.binds (ps := ["_law_line"]) fun _ _ _ _ _ _ us hl => match us, hl with | [_], _ => rfl
  have F17 := fun_mk (st := st__law_lines) l17 d17 k17
  have b17 := F17.binds (ps := ["_law_text"]) fun _ _ _ _ _ _ us hl => match us, hl with | [_], _ => rfl
  have F18 := fun_mk (st := st__law_right) l18 d18 k18
  have b18 := F18.binds (ps := ["_law_text"]) fun _ _ _ _ _ _ us hl => match us, hl with | [_], _ => rfl
  have F19 := fun_mk (st := st__law_written) l19 d19 k19
  have b19 := F19.binds (ps := ["_law_steps"]) fun _ _ _ _ _ _ us hl => match us, hl with | [_], _ => rfl
  have F20 := fun_mk (st := st_law) l20 d20 k20
  have b20 := F20.binds (ps := ["_law_script"]) fun _ _ _ _ _ _ us hl => match us, hl with | [_], _ => rfl
  refine ⟨PySem.W.fnOf "law" "law" (defArgs st_law) (defBody st_law) (defScope st_law) .none kV20 dc20 pm20 an20 cd20 ct20, fun s v => .of_eq rfl, fun base _ _ => ?_⟩
  have all : ∀ k, Tab (caL [("InvalidStep", C_InvalidStep), ("InvalidLine", C_InvalidLine)]) l.prog w K mg base k (sem tab k) := fun k => by
    induction k with
    | zero => exact ⟨PySem.W.mg_none_of X G z_len, PySem.W.mg_none_of X G z_all, PySem.W.mg_none_of X G z_isinstance, PySem.W.mg_none_of X G z_str, PySem.W.mg_none_of X G z_tuple, PySem.W.mg_none_of X G z_set, PySem.W.mg_none_of X G z_super, PySem.W.mg_none_of X G z_enumerate, PySem.W.mg_none_of X G z_int, PySem.W.mg_none_of X G z_abs, PySem.W.mg_none_of X G z_range, PySem.W.mg_none_of X G z_bool, PySem.W.mg_none_of X G z_list, ⟨_, PySem.W.mg_of X G c_LONGEST⟩, ⟨_, PySem.W.mg_of X G c_LETTERS⟩, ⟨_, PySem.W.mg_of X G c_DIGITS⟩, ⟨⟨rfl, rfl, rfl⟩, caL_all (P := fun m C => xnm m = true → XcK K C ["number", "line", "step"]) (List.forall_mem_cons.mpr ⟨fun _ => X_InvalidStep, List.forall_mem_cons.mpr ⟨fun _ => X_InvalidLine, fun p hp => by cases hp⟩⟩)⟩, ⟨C_InvalidStep, fI_InvalidStep, cc_InvalidStep, cda_InvalidStep, _, rfl, T_InvalidStep, PySem.W.mg_of X G na_InvalidStep⟩, ⟨C_InvalidLine, fI_InvalidLine, cc_InvalidLine, cda_InvalidLine, _, rfl, T_InvalidLine, PySem.W.mg_of X G na_InvalidLine⟩, ⟨C_InvalidStep, PySem.W.mg_of X G na_InvalidStep, caL_all (P := fun m C => xnm m = true → PySem.W.kitOne K (.ref C) (.ref C_InvalidStep) = some ((subs ["InvalidStep"]) m)) (List.forall_mem_cons.mpr ⟨fun _ => ki_InvalidStep_InvalidStep, List.forall_mem_cons.mpr ⟨fun _ => ki_InvalidLine_InvalidStep, fun p hp => by cases hp⟩⟩)⟩, ⟨C_KeeperError, PySem.W.mg_of X G na_KeeperError, caL_all (P := fun m C => xnm m = true → PySem.W.kitOne K (.ref C) (.ref C_KeeperError) = some ((subs ["InvalidStep", "InvalidLine"]) m)) (List.forall_mem_cons.mpr ⟨fun _ => ki_InvalidStep_KeeperError, List.forall_mem_cons.mpr ⟨fun _ => ki_InvalidLine_KeeperError, fun p hp => by cases hp⟩⟩)⟩, ⟨C_InvalidLine, PySem.W.mg_of X G na_InvalidLine, caL_all (P := fun m C => xnm m = true → PySem.W.exmOne K (.ref C) (.ref C_InvalidLine) = some ((subs ["InvalidLine"]) m)) (List.forall_mem_cons.mpr ⟨fun _ => PySem.W.exm_ref eb_InvalidLine eh_InvalidLine et_InvalidLine es_InvalidStep_InvalidLine, List.forall_mem_cons.mpr ⟨fun _ => PySem.W.exm_ref eb_InvalidLine eh_InvalidLine et_InvalidLine es_InvalidLine_InvalidLine, fun p hp => by cases hp⟩⟩)⟩, ⟨C_InvalidStep, PySem.W.mg_of X G na_InvalidStep, caL_all (P := fun m C => xnm m = true → PySem.W.exmOne K (.ref C) (.ref C_InvalidStep) = some ((subs ["InvalidStep"]) m)) (List.forall_mem_cons.mpr ⟨fun _ => PySem.W.exm_ref eb_InvalidStep eh_InvalidStep et_InvalidStep es_InvalidStep_InvalidStep, List.forall_mem_cons.mpr ⟨fun _ => PySem.W.exm_ref eb_InvalidStep eh_InvalidStep et_InvalidStep es_InvalidLine_InvalidStep, fun p hp => by cases hp⟩⟩)⟩, FnT.zero (PySem.W.mg_of X G a0) k0 b0, FnT.zero (PySem.W.mg_of X G a1) k1 b1, FnT.zero (PySem.W.mg_of X G a2) k2 b2, FnT.zero (PySem.W.mg_of X G a3) k3 b3, FnT.zero (PySem.W.mg_of X G a4) k4 b4, FnT.zero (PySem.W.mg_of X G a5) k5 b5, FnT.zero (PySem.W.mg_of X G a6) k6 b6, FnT.zero (PySem.W.mg_of X G a7) k7 b7, FnT.zero (PySem.W.mg_of X G a8) k8 b8, FnT.zero (PySem.W.mg_of X G a9) k9 b9, FnT.zero (PySem.W.mg_of X G a10) k10 b10, FnT.zero (PySem.W.mg_of X G a11) k11 b11, FnT.zero (PySem.W.mg_of X G a12) k12 b12, FnT.zero (PySem.W.mg_of X G a13) k13 b13, FnT.zero (PySem.W.mg_of X G a14) k14 b14, FnT.zero (PySem.W.mg_of X G a15) k15 b15, FnT.zero (PySem.W.mg_of X G a16) k16 b16, FnT.zero (PySem.W.mg_of X G a17) k17 b17, FnT.zero (PySem.W.mg_of X G a18) k18 b18, FnT.zero (PySem.W.mg_of X G a19) k19 b19, FnT.zero (PySem.W.mg_of X G a20) k20 b20, FnTH.zero (PySem.W.mg_of X G a11) k11 b11, FnTH.zero (PySem.W.mg_of X G a12) k12 b12, FnTH.zero (PySem.W.mg_of X G a17) k17 b17⟩
    | succ k ih => exact ⟨PySem.W.mg_none_of X G z_len, PySem.W.mg_none_of X G z_all, PySem.W.mg_none_of X G z_isinstance, PySem.W.mg_none_of X G z_str, PySem.W.mg_none_of X G z_tuple, PySem.W.mg_none_of X G z_set, PySem.W.mg_none_of X G z_super, PySem.W.mg_none_of X G z_enumerate, PySem.W.mg_none_of X G z_int, PySem.W.mg_none_of X G z_abs, PySem.W.mg_none_of X G z_range, PySem.W.mg_none_of X G z_bool, PySem.W.mg_none_of X G z_list, ⟨_, PySem.W.mg_of X G c_LONGEST⟩, ⟨_, PySem.W.mg_of X G c_LETTERS⟩, ⟨_, PySem.W.mg_of X G c_DIGITS⟩, ⟨⟨rfl, rfl, rfl⟩, caL_all (P := fun m C => xnm m = true → XcK K C ["number", "line", "step"]) (List.forall_mem_cons.mpr ⟨fun _ => X_InvalidStep, List.forall_mem_cons.mpr ⟨fun _ => X_InvalidLine, fun p hp => by cases hp⟩⟩)⟩, ⟨C_InvalidStep, fI_InvalidStep, cc_InvalidStep, cda_InvalidStep, _, rfl, T_InvalidStep, PySem.W.mg_of X G na_InvalidStep⟩, ⟨C_InvalidLine, fI_InvalidLine, cc_InvalidLine, cda_InvalidLine, _, rfl, T_InvalidLine, PySem.W.mg_of X G na_InvalidLine⟩, ⟨C_InvalidStep, PySem.W.mg_of X G na_InvalidStep, caL_all (P := fun m C => xnm m = true → PySem.W.kitOne K (.ref C) (.ref C_InvalidStep) = some ((subs ["InvalidStep"]) m)) (List.forall_mem_cons.mpr ⟨fun _ => ki_InvalidStep_InvalidStep, List.forall_mem_cons.mpr ⟨fun _ => ki_InvalidLine_InvalidStep, fun p hp => by cases hp⟩⟩)⟩, ⟨C_KeeperError, PySem.W.mg_of X G na_KeeperError, caL_all (P := fun m C => xnm m = true → PySem.W.kitOne K (.ref C) (.ref C_KeeperError) = some ((subs ["InvalidStep", "InvalidLine"]) m)) (List.forall_mem_cons.mpr ⟨fun _ => ki_InvalidStep_KeeperError, List.forall_mem_cons.mpr ⟨fun _ => ki_InvalidLine_KeeperError, fun p hp => by cases hp⟩⟩)⟩, ⟨C_InvalidLine, PySem.W.mg_of X G na_InvalidLine, caL_all (P := fun m C => xnm m = true → PySem.W.exmOne K (.ref C) (.ref C_InvalidLine) = some ((subs ["InvalidLine"]) m)) (List.forall_mem_cons.mpr ⟨fun _ => PySem.W.exm_ref eb_InvalidLine eh_InvalidLine et_InvalidLine es_InvalidStep_InvalidLine, List.forall_mem_cons.mpr ⟨fun _ => PySem.W.exm_ref eb_InvalidLine eh_InvalidLine et_InvalidLine es_InvalidLine_InvalidLine, fun p hp => by cases hp⟩⟩)⟩, ⟨C_InvalidStep, PySem.W.mg_of X G na_InvalidStep, caL_all (P := fun m C => xnm m = true → PySem.W.exmOne K (.ref C) (.ref C_InvalidStep) = some ((subs ["InvalidStep"]) m)) (List.forall_mem_cons.mpr ⟨fun _ => PySem.W.exm_ref eb_InvalidStep eh_InvalidStep et_InvalidStep es_InvalidStep_InvalidStep, List.forall_mem_cons.mpr ⟨fun _ => PySem.W.exm_ref eb_InvalidStep eh_InvalidStep et_InvalidStep es_InvalidLine_InvalidStep, fun p hp => by cases hp⟩⟩)⟩, FnT.succ (ok_valid_name F0 ih) (PySem.W.mg_of X G a0) k0 b0 rfl, FnT.succ (ok__is_name F1 ih) (PySem.W.mg_of X G a1) k1 b1 rfl, FnT.succ (ok__are_things F2 ih) (PySem.W.mg_of X G a2) k2 b2 rfl, FnT.succ (ok_valid_step F3 ih) (PySem.W.mg_of X G a3) k3 b3 rfl, FnT.succ (ok_format_step F4 ih) (PySem.W.mg_of X G a4) k4 b4 rfl, FnT.succ (ok__step_of F5 ih) (PySem.W.mg_of X G a5) k5 b5 rfl, FnT.succ (ok_format_history F6 ih) (PySem.W.mg_of X G a6) k6 b6 rfl, FnT.succ (ok_parse_history F7 ih) (PySem.W.mg_of X G a7) k7 b7 rfl, FnT.succ (ok__law_draws_of F8 ih) (PySem.W.mg_of X G a8) k8 b8 rfl, FnT.succ (ok__law_nth F9 ih) (PySem.W.mg_of X G a9) k9 b9 rfl, FnT.succ (ok__law_named F10 ih) (PySem.W.mg_of X G a10) k10 b10 rfl, FnT.succ (ok__law_is_name F11 ih) (PySem.W.mg_of X G a11) k11 b11 rfl, FnT.succ (ok__law_is_step F12 ih) (PySem.W.mg_of X G a12) k12 b12 rfl, FnT.succ (ok__law_good_step F13 ih) (PySem.W.mg_of X G a13) k13 b13 rfl, FnT.succ (ok__law_text_of F14 ih) (PySem.W.mg_of X G a14) k14 b14 rfl, FnT.succ (ok__law_words_of F15 ih) (PySem.W.mg_of X G a15) k15 b15 rfl, FnT.succ (ok__law_parsed F16 ih) (PySem.W.mg_of X G a16) k16 b16 rfl, FnT.succ (ok__law_lines F17 ih) (PySem.W.mg_of X G a17) k17 b17 rfl, FnT.succ (ok__law_right F18 ih) (PySem.W.mg_of X G a18) k18 b18 rfl, FnT.succ (ok__law_written F19 ih) (PySem.W.mg_of X G a19) k19 b19 rfl, FnT.succ (ok_law F20 ih) (PySem.W.mg_of X G a20) k20 b20 rfl, FnTH.succ (fun a cls d => okH__law_is_name F11 ih) (PySem.W.mg_of X G a11) k11 b11 rfl, FnTH.succ (fun a cls d => okH__law_is_step F12 ih) (PySem.W.mg_of X G a12) k12 b12 rfl, FnTH.succ (fun a cls d => okH__law_lines F17 ih) (PySem.W.mg_of X G a17) k17 b17 rfl⟩
  have e : sem tab 40 "law" = T_law.run (sem tab 39) := by funext ds; simp only [sem, tab]
  have okl := ok_law F20 (all 39)
  rw [← e] at okl
  exact spL_ok okl sol

theorem lawWalk (sol : ∀ ns : List Int, ns.length ≤ 63 → sem tab 40 "law" [.scr (ns.map .int)] = .ok false (.bl true) []) {l : PySem.W.OpenLaw} {q : Program} {loose : List Str} {XP : (Str → Option Value) → Heap → Prop} {YP : World → Heap → Prop} {d : DefRec} {K : Params → PySem.W.Frag} (hn : l.most = some 63) (hdf : d.params.defaults = [])
    (hY : ∀ (w : World) (h : Heap), YP w h → (K w.params).In h)
    (F : ∀ (w : World) (mg : Str → Option Value) (fa : Addr) (h : Heap), (K w.params).In h → h.Ns mainGlobals mg → mg d.name = some (.ref fa) →
      ∃ fd : FuncData, (∀ (s : Shared) (u : Value), BindsTo s fd ⟨[u], []⟩ [("_law_script", u)]) ∧ ∀ base : Heap, (K w.params).In base → base.Ns mainGlobals mg → FnOk l.prog w (K w.params) mg base (L2N.CX l.prog w) (2 * 40) fa fd ["_law_script"] (spL (K w.params))) :
    PySem.W.WalkO q loose XP YP l.row.toRowW d [] (fun f vs => PySem.call f vs) :=
  L2.walk_of (n := 63) (k := 2 * 40) (x := "_law_script") (CX := fun w => L2N.CX l.prog w) (sp := fun w => (spL (K w.params))) hn (by decide) hdf ⟨rfl, by decide, by decide⟩ hY F (fun _ _ a ns hl _ hS => ⟨a, ns, rfl, hl, hS, fun _ => rfl⟩) law_CX
end S3


namespace S3
open PySem
/-! the pool of draws -/
def InR (ps : List Int) : Prop := ∀ p ∈ ps, 0 ≤ p ∧ p < 65536
theorem InR.app {ps : List Int} {p : Int} (h : InR ps) (h0 : 0 ≤ p) (h1 : p < 65536) : InR (ps ++ [p]) := fun q hq => by
  rcases List.mem_append.mp hq with z | z
  · exact h q z
  · cases List.mem_singleton.mp z; exact ⟨h0, h1⟩
def lints (ps : List Int) : D := .lst (ps.map .int)
theorem lints_app (ps : List Int) (p : Int) (h : ps.length < BIG) : mAppend (lints ps) [.int p] = some (lints (ps ++ [p]), .fz .non) := by
  show (if (ps.map D.int).length < BIG then _ else _) = _
  rw [if_pos (by rw [List.length_map]; exact h)]
  simp [lints]
theorem lints_isLst (ps : List Int) : isLst (lints ps) = true := rfl
theorem lints_len (ps : List Int) : opLen (lints ps) = some (.fz (.int ps.length)) := by simp [lints]
def Long (ps : List Int) (i : Nat) : Prop := ps.length ≤ 131 ∧ ((i = 0 ∧ ps.length = 0) ∨ 3 ≤ ps.length)
theorem draws_run (phi : String → List D → RC) (ns : List Int) (hn : ns.length ≤ 63) : ∃ ps : List Int, 3 ≤ ps.length ∧ ps.length ≤ 131 ∧ InR ps ∧ T__law_draws_of.run phi [.scr (ns.map .int)] = .ok true (lints ps) [] := by
  rw [run_is rfl]
  show ∃ ps : List Int, _ ∧ _ ∧ _ ∧ finish [.r] (b__law_draws_of phi [.bo (.scr (ns.map .int)), .no, .no, .no, .no]) = _
  unfold b__law_draws_of
  rw [sSeq_e]
  simp [-sSeq_e]
  refine seq_for (ds := ns.map .int) (Q := fun r => ∃ ps : List Int, 3 ≤ ps.length ∧ ps.length ≤ 131 ∧ InR ps ∧ finish [Md.r] r = .ok true (lints ps) []) (e0 := [.bo (.scr (ns.map .int)), .ow (lints []), .no, .no, .no]) ?_
    (fun i e => ∃ ps, e = [.bo (.scr (ns.map .int)), .ow (lints ps), .no, .no, .no] ∧ InR ps ∧ Long ps i) ⟨[], rfl, fun _ h => absurd h (by simp), by decide, .inl ⟨rfl, rfl⟩⟩ ?_ ?_
  · simp [lints]
  · rintro R _ _ _ i d e hd ⟨ps, rfl, hr, hl⟩
    rw [List.getElem?_map, Option.map_eq_some_iff] at hd
    obtain ⟨z, _, rfl⟩ := hd
    refine ⟨_, rfl, ?_⟩
    by_cases h1 : (ps.length : Int) < 72
    · have hps : ps.length < 72 := by omega
      by_cases h2 : (if z < 0 then -z else z) < 1000000000000000000
      · simp [lints_len, h1, opPow_i, h2]
        have hw0 : 0 ≤ (if z < 0 then -z else z) := by split <;> omega
        generalize (if z < 0 then -z else z) = w at h2 hw0
        refine sole_for (Q := turnP _ _ _) (ds := rng 0 3) (e0 := [.bo (.scr (ns.map .int)), .ow (lints ps), .fz (.int z), .fz (.int w), .no]) (by simp)
          (fun j e => ∃ qs w, e = [.bo (.scr (ns.map .int)), .ow (lints qs), .fz (.int z), .fz (.int w), .no] ∧ InR qs ∧ qs.length = ps.length + j ∧ 0 ≤ w) ⟨ps, w, rfl, hr, rfl, hw0⟩ ?_ ?_
        · rintro j d e hd ⟨qs, w, rfl, hq, hl2, hw⟩
          obtain ⟨rfl, hj⟩ := rng0_get hd
          refine ⟨_, rfl, ?_⟩
          have hb : qs.length < BIG := by simp [BIG]; omega
          simp [lints_isLst]
          rw [lints_app _ _ hb]
          simp
          exact ⟨_, _, ⟨rfl, rfl⟩, hq.app (by omega) (by omega), by simp; omega, by omega⟩
        · rintro e ⟨qs, w, rfl, hq, hl2, hw⟩
          simp
          refine ⟨qs, rfl, hq, ?_, .inr ?_⟩
          · simp at hl2; omega
          · simp at hl2; omega
      · simp [lints_len, h1, opPow_i, h2]
        have hw0 : 1000000000000000000 ≤ (if z < 0 then -z else z) := by omega
        generalize (if z < 0 then -z else z) = w at h2 hw0
        refine sole_for (Q := turnP _ _ _) (ds := rng 0 60) (e0 := [.bo (.scr (ns.map .int)), .ow (lints ps), .fz (.int z), .fz (.int w), .no]) (by simp)
          (fun j e => ∃ qs w, e = [.bo (.scr (ns.map .int)), .ow (lints qs), .fz (.int z), .fz (.int w), .no] ∧ InR qs ∧ qs.length ≤ ps.length + j ∧ 0 ≤ w ∧
            ((j = 0 ∧ 1000000000000000000 ≤ w) ∨ (j = 1 ∧ 15258789062500 ≤ w ∧ 1 ≤ qs.length) ∨ (j = 2 ∧ 232830643 ≤ w ∧ 2 ≤ qs.length) ∨ 3 ≤ qs.length)) ⟨ps, w, rfl, hr, Nat.le_refl _, by omega, .inl ⟨rfl, hw0⟩⟩ ?_ ?_
        · rintro j d e hd ⟨qs, w, rfl, hq, hl2, hw, hc⟩
          obtain ⟨rfl, hj⟩ := rng0_get hd
          refine ⟨_, rfl, ?_⟩
          have hb : qs.length < BIG := by simp [BIG]; omega
          by_cases h3 : 0 < w
          · simp [lints_isLst, h3]
            rw [lints_app _ _ hb]
            simp
            exact ⟨_, _, ⟨rfl, rfl⟩, hq.app (by omega) (by omega), by simp; omega, by omega, by simp; omega⟩
          · simp [h3]
            exact ⟨_, _, ⟨rfl, rfl⟩, hq, by omega, by omega, by omega⟩
        · rintro e ⟨qs, w, rfl, hq, hl2, hw, hc⟩
          simp at hl2 hc
          simp
          refine ⟨qs, rfl, hq, ?_, .inr ?_⟩
          · omega
          · omega
    · have h3 : 3 ≤ ps.length := by omega
      simp [lints_len, h1]
      exact ⟨ps, rfl, hr, hl.1, .inr h3⟩
  · rintro e ⟨ps, rfl, hr, hl⟩
    cases ps with
    | nil =>
      have hq : opEq (lints []) (.lst []) = some (.fz (.bl true)) := opEq_nil []
      refine ⟨[2, 10, 1, 0, 4, 0, 1052, 0, 148, 26, 132, 0, 20], by decide, by decide, fun p hp => (by simp at hp; omega), ?_⟩
      simp [hq]
      rfl
    | cons p ps =>
      have hq : opEq (lints (p :: ps)) (.lst []) = some (.fz (.bl false)) := opEq_nil (p :: ps)
      refine ⟨p :: ps, ?_, hl.1, hr, ?_⟩
      · rcases hl.2 with ⟨_, z⟩ | z
        · cases z
        · exact z
      · simp [hq]
theorem lints_get {ps : List Int} (hr : InR ps) {i : Int} (h0 : 0 ≤ i) (h1 : i < ps.length) : ∃ p, 0 ≤ p ∧ p < 65536 ∧ opIx (lints ps) (.int i) = some (.fz (.int p)) := by
  obtain ⟨x, h2, h3⟩ := atI_lt (xs := ps.map D.int) h0 (by rw [List.length_map]; exact h1)
  rw [List.getElem?_map, Option.map_eq_some_iff] at h2
  obtain ⟨p, h4, rfl⟩ := h2
  have := hr p (List.mem_of_getElem? h4)
  refine ⟨p, this.1, this.2, ?_⟩
  show (L2.atI (ps.map D.int) i).map RV.fz = _
  rw [h3]
  rfl
theorem nth_run (phi : String → List D → RC) {ps : List Int} (hr : InR ps) (hl : 3 ≤ ps.length) {k : Int} (hk : 0 ≤ k) (hk2 : k < 2 ^ 40) : ∃ p, 0 ≤ p ∧ p < 65536 ∧ T__law_nth.run phi [lints ps, .int k] = .ok false (.int p) [] := by
  rw [run_is rfl]
  show ∃ p, _ ∧ _ ∧ finish [.r, .r] (b__law_nth phi [.bo (lints ps), .bo (.int k)]) = _
  unfold b__law_nth
  by_cases h : k < ps.length
  · obtain ⟨p, h1, h2, h3⟩ := lints_get hr hk h
    refine ⟨p, h1, h2, ?_⟩
    simp [lints_len, h, h3]
  · have hm : 0 ≤ k % (ps.length : Int) := Int.emod_nonneg _ (by omega)
    have hm2 : k % (ps.length : Int) < ps.length := Int.emod_lt_of_pos _ (by omega)
    have hp : 0 < ps.length := by omega
    obtain ⟨p, h1, h2, h3⟩ := lints_get hr hm hm2
    refine ⟨(p * 31 + k * 7919) % 65521, by omega, by omega, ?_⟩
    simp [lints_len, h, h3, hp]


end S3
namespace S3
open PySem
abbrev LET : Str := "abcdefghijklmnopqrstuvwxyz"
abbrev DIG : Str := "0123456789"
def isL (c : Nat) : Bool := decide (c ∈ LET.cps.toList)
def isD (c : Nat) : Bool := decide (c ∈ DIG.cps.toList)
/-- a name: 1 to 8 signs, letters and digits, a letter first -/
def vn (x : Str) : Bool := decide (1 ≤ x.length) && decide (x.length ≤ 8) && (match x.cps.toList with | [] => false | c :: _ => isL c) && x.cps.toList.all fun c => isL c || isD c
theorem in_one (c : Nat) (z : Str) : opIn (.str ⟨#[c]⟩) (.str z) = some (.fz (.bl (decide (c ∈ z.cps.toList)))) := rfl
theorem nin_one (c : Nat) (z : Str) : opNotIn (.str ⟨#[c]⟩) (.str z) = some (.fz (.bl (!decide (c ∈ z.cps.toList)))) := rfl
theorem toBools_map {α : Type} (l : List α) (f : α → Bool) : toBools (l.map fun c => D.bl (f c)) = some (l.map f) := by
  induction l with
  | nil => rfl
  | cons a l ih => simp [toBools, ih]
theorem len_list (x : Str) : x.length = x.cps.toList.length := by simp [Str.length]
theorem opAll_map {α : Type} (l : List α) (f : α → Bool) : opAll (.lst (l.map fun c => D.bl (f c))) = some (.fz (.bl (l.all f))) := by
  show (toBools (l.map fun c => D.bl (f c))).map _ = _
  rw [toBools_map]
  simp [List.all_map]
theorem valid_name_run (phi : String → List D → RC) (x : Str) (hx : x.length ≤ 1000) : T_valid_name.run phi [.str x] = .ok false (.bl (vn x)) [] := by
  rw [run_is rfl]
  show finish [.r] (b_valid_name phi [.bo (.str x), .no]) = _
  unfold b_valid_name
  have hl := len_list x
  have comp : lcL (.one 1) tYesS (eOr (eOp2 opIn (eSlot 1) (eC (.str LET))) (eOp2 opIn (eSlot 1) (eC (.str DIG)))) (x.cps.toList.map fun c => D.str ⟨#[c]⟩) [.bo (.str x), .no] [] = some (x.cps.toList.map fun c => D.bl (isL c || isD c)) := by
    rw [lcL_mp (fun c => .bl (isL c || isD c)) (fun c _ => ?_), List.nil_append]
    cases h : isL c <;> simp [lc1, in_one, isL] at h ⊢ <;> simp [h, isD]
  cases e : x.cps.toList with
  | nil =>
    rw [e] at hl
    have h0 : x.length = 0 := hl
    simp [h0, vn]
  | cons c cs =>
    rw [e] at hl
    have h1 : (1 : Int) ≤ x.length := by rw [hl]; simp; omega
    have h1n : 1 ≤ x.length := by omega
    by_cases h2 : (x.length : Int) ≤ 8
    · have h2n : x.length ≤ 8 := by omega
      by_cases h3 : c ∈ LET.cps.toList
      · rw [e] at comp
        simp only [LET] at h3
        have hz : (c :: cs).length ≤ 16777216 := by omega
        have ha := opAll_map (c :: cs) (fun c => isL c || isD c)
        have hc := eLc_ok (own := [1]) (e := [.bo (.str x), .no]) (w := wAny (eSlot 0)) (e1 := [.bo (.str x), .no]) (by simp [-List.map_cons, e]) comp (by rw [List.length_map]; exact hz)
        simp [-List.map_cons, -List.length_cons, h1, h2, e, atI0, nin_one, h3, hc, ha]
        have h4 : isL c = true := decide_eq_true h3
        simp [h1n, h2n, e, vn, h4]
      · simp only [LET] at h3
        simp [h1, h2, h1n, h2n, e, atI0, nin_one, h3, vn, isL, LET]
    · have h2n : ¬ x.length ≤ 8 := by omega
      simp [h1, h2, h2n, vn]
def good (i c : Nat) : Bool := isL c || (decide (i ≠ 0) && isD c)
theorem vn_iff {x : Str} (h1 : 1 ≤ x.length) (h2 : x.length ≤ 8) : vn x = true ↔ ∀ i c, x.cps.toList[i]? = some c → good i c = true := by
  unfold vn
  rw [decide_eq_true h1, decide_eq_true h2, Bool.true_and, Bool.true_and]
  have hl := len_list x
  cases e : x.cps.toList with
  | nil => rw [e] at hl; simp at hl; omega
  | cons c cs =>
    rw [Bool.and_eq_true, List.all_eq_true]
    constructor
    · rintro ⟨k1, k2⟩ i c' hi
      cases i with
      | zero => simp at hi; subst hi; simp [good, k1]
      | succ i =>
        have := k2 c' (List.mem_of_getElem? hi)
        simpa [good] using this
    · intro h
      have h0 := h 0 c rfl
      simp [good] at h0
      refine ⟨h0, fun c' hc => ?_⟩
      obtain ⟨i, hi, hi2⟩ := List.mem_iff_getElem.mp hc
      have := h i c' (by rw [List.getElem?_eq_getElem hi, hi2])
      simp [good] at this ⊢
      rcases this with t | t
      · exact .inl t
      · exact .inr t.2
def Goods (x : Str) (i : Nat) : Prop := ∀ j c, j < i → x.cps.toList[j]? = some c → good j c = true
theorem is_name_run (phi : String → List D → RC) (x : Str) (hx : x.length ≤ 1000) : T__law_is_name.run phi [.str x] = .ok false (.bl (vn x)) [] := by
  rw [run_is rfl]
  show finish [.r] (b__law_is_name phi [.bo (.str x), .no]) = _
  unfold b__law_is_name
  have hl := len_list x
  have ht : opIsTy "str" (.str x) = some (.fz (.bl true)) := rfl
  by_cases h1 : (x.length : Int) < 1
  · have h1n : ¬ 1 ≤ x.length := by omega
    simp [ht, h1, h1n, vn]
  · have h1n : 1 ≤ x.length := by omega
    by_cases h2 : (8 : Int) < x.length
    · have h2n : ¬ x.length ≤ 8 := by omega
      simp [ht, h1, h1n, h2, h2n, vn]
    · have h2n : x.length ≤ 8 := by omega
      rw [sSeq_e]
      simp [-sSeq_e, ht, h1, h2]
      refine seq_for (ds := rng 0 x.length) (Q := fun r => finish [Md.r] r = .ok false (.bl (vn x)) []) (e0 := [.bo (.str x), .no]) ?_ (fun i e => e = [.bo (.str x), .no] ∧ Goods x i) ⟨rfl, fun _ _ h => absurd h (Nat.not_lt_zero _)⟩ ?_ ?_
      · simp
        omega
      · rintro R hrt hnx hex i d e hd ⟨rfl, hg⟩
        obtain ⟨rfl, hi⟩ := rng0_get hd
        have hi2 : i < x.cps.toList.length := by omega
        refine ⟨_, rfl, ?_⟩
        have hc : x.cps.toList[i]? = some x.cps.toList[i] := List.getElem?_eq_getElem hi2
        generalize x.cps.toList[i] = c at hc
        have ha : L2.atI x.cps.toList (i : Int) = some c := atI_nat (by omega) hc
        have fin : good i c = false → vn x = false := fun g => by
          cases q : vn x with
          | false => rfl
          | true => have := (vn_iff h1n h2n).mp q i c hc; rw [g] at this; cases this
        have nxt : good i c = true → Goods x (i + 1) := fun g j c' hj hc' => by
          by_cases z : j = i
          · subst z; rw [hc] at hc'; cases hc'; exact g
          · exact hg j c' (by omega) hc'
        by_cases g1 : c ∈ LET.cps.toList
        · have g : good i c = true := by unfold good; rw [show isL c = true from decide_eq_true g1]; rfl
          simp only [LET] at g1
          simp [ha, nin_one, g1]
          exact nxt g
        · by_cases z : i = 0
          · have g : good i c = false := by unfold good; rw [show isL c = false from decide_eq_false g1]; simp [z]
            simp only [LET] at g1
            subst z
            have ha0 : L2.atI x.cps.toList 0 = some c := ha
            simp [ha0, nin_one, g1, opEq_i, -finish_fz]
            exact hrt _ _ (by simp [fin g])
          · by_cases g2 : c ∈ DIG.cps.toList
            · have g : good i c = true := by unfold good; rw [show isL c = false from decide_eq_false g1, show isD c = true from decide_eq_true g2]; simp [z]
              simp only [LET, DIG] at g1 g2
              simp [ha, nin_one, g1, g2, opEq_i, z]
              exact nxt g
            · have g : good i c = false := by unfold good; rw [show isL c = false from decide_eq_false g1, show isD c = false from decide_eq_false g2]; simp
              simp only [LET, DIG] at g1 g2
              simp [ha, nin_one, g1, g2, opEq_i, z]
              exact hrt _ _ (by simp [fin g])
      · rintro e ⟨rfl, hg⟩
        have hv : vn x = true := (vn_iff h1n h2n).mpr fun i c hc => hg i c (by
          have := (List.getElem?_eq_some_iff.mp hc).1
          simp
          omega) hc
        simp [hv]

end S3
namespace S3
open PySem
/-! names drawn: _law_named -/
def letC (k s : Int) : Nat := (97 + (k * 7 + s / 4) % 26).toNat
def S1 (c : Nat) : Str := ⟨#[c]⟩
/-- the name of place k in style s -/
def nm4 (k s : Int) : Str :=
  if s % 4 = 1 then strRep "q" (k % 3) ++ S1 (letC k s)
  else if s % 4 = 2 then
    let base := S1 (letC k s) ++ ((toString (s / 4 % 10000) : String) : Str)
    if k % 4 = 3 then base ++ strRep "x" (8 - base.length) else base ++ strRep "x" (k % 4)
  else if s % 4 = 3 then ("m" : Str) ++ ((toString (100 - 7 * k) : String) : Str)
  else S1 (letC k s)
theorem let_at (i : Int) (h0 : 0 ≤ i) (h1 : i < 26) : L2.atI ("abcdefghijklmnopqrstuvwxyz" : Str).cps.toList i = some (97 + i).toNat := by
  have all : ∀ n : Fin 26, ("abcdefghijklmnopqrstuvwxyz" : Str).cps.toList[n.1]? = some (97 + n.1) := by decide +kernel
  refine atI_nat h0 ?_
  have h := all ⟨i.toNat, by omega⟩
  dsimp only at h
  rw [h, show (97 + i).toNat = 97 + i.toNat by omega]
theorem opMul_s (x : Str) (n : Int) (h1 : -1000 ≤ n) (h2 : n ≤ 1000) (h3 : x.length ≤ 1000) : opMul (.str x) (.int n) = some (.fz (.str (strRep x n))) := by
  show (if _ then _ else _) = _
  rw [if_pos ⟨h1, h2, h3⟩]
theorem rep_len (x : Str) (n : Int) (h : x.length = 1) : (strRep x n).length = n.toNat := by
  show (List.replicate n.toNat x.cps.toList).flatten.toArray.size = _
  have : x.cps.toList.length = 1 := h
  simp [this]
theorem app_len (x y : Str) : (x ++ y).length = x.length + y.length := by
  show (x.cps ++ y.cps).size = _
  rw [Array.size_append]
  rfl
theorem opStr_i (i : Int) (h : i.natAbs < 2 ^ 40) : opStr (.int i) = some (.fz (.str ((toString i : String) : Str))) := by
  show (if _ then _ else _) = _
  rw [if_pos]
  by_cases z : i.natAbs = 0
  · rw [z]; decide
  · have := (Nat.log2_lt z).mpr h
    omega
theorem addC (x y : Str) (h : x.length ≤ 2000) (h2 : y.length ≤ 2000) : opAdd (.str x) (.str y) = some (.fz (.str (x ++ y))) := by
  rw [opAdd_s, if_pos]
  show x.length + y.length ≤ 16777216
  omega
theorem one_len (a : Nat) : (S1 a).length = 1 := rfl
theorem num_len {i : Int} (h0 : 0 ≤ i) (h1 : i < 10000) : ((toString i : String) : Str).length ≤ 5 := by
  rw [PySem.ofString_length]
  exact PySem.int_text_length_le10 (k := 4) (by decide) (by omega)

end S3
namespace S3
open PySem
/-! the names of one style differ; they are valid -/
theorem letC_inj {a b s : Int} (a0 : 0 ≤ a) (a1 : a < 26) (b0 : 0 ≤ b) (b1 : b < 26) (s0 : 0 ≤ s) (h : letC a s = letC b s) : a = b := by
  unfold letC at h
  omega
theorem cps_app (x y : Str) : (x ++ y).cps.toList = x.cps.toList ++ y.cps.toList := by
  show (x.cps ++ y.cps).toList = _
  rw [Array.toList_append]
theorem fin16 {f : Int → Str} (h : ∀ a b : Fin 16, f (a.1 : Int) = f (b.1 : Int) → a = b) {a b : Int} (a0 : 0 ≤ a) (a1 : a < 16) (b0 : 0 ≤ b) (b1 : b < 16) (e : f a = f b) : a = b := by
  have ea : ((a.toNat : Nat) : Int) = a := by omega
  have eb : ((b.toNat : Nat) : Int) = b := by omega
  have := h ⟨a.toNat, by omega⟩ ⟨b.toNat, by omega⟩ (by dsimp only; rw [ea, eb]; exact e)
  have := congrArg Fin.val this
  dsimp only at this
  omega
theorem last_of_app {x : Str} {a : Nat} : (x ++ S1 a).cps.toList.getLast? = some a := by rw [cps_app]; simp [S1]
theorem head_of_app2 {x y : Str} {a : Nat} : (S1 a ++ x ++ y).cps.toList.head? = some a := by rw [cps_app, cps_app]; simp [S1]
theorem nm4_inj {a b s : Int} (a0 : 0 ≤ a) (a1 : a < 16) (b0 : 0 ≤ b) (b1 : b < 16) (s0 : 0 ≤ s) (h : nm4 a s = nm4 b s) : a = b := by
  unfold nm4 at h
  by_cases c3 : s % 4 = 1
  · rw [if_pos c3, if_pos c3] at h
    have e := congrArg (fun x : Str => x.cps.toList.getLast?) h
    try dsimp only at e
    rw [last_of_app, last_of_app] at e
    exact letC_inj a0 (by omega) b0 (by omega) s0 (Option.some.inj e)
  · rw [if_neg c3, if_neg c3] at h
    by_cases c4 : s % 4 = 2
    · rw [if_pos c4, if_pos c4] at h
      have e := congrArg (fun x : Str => x.cps.toList.head?) h
      try dsimp only at e
      have hd : ∀ k : Int, (if k % 4 = 3 then S1 (letC k s) ++ ((toString (s / 4 % 10000) : String) : Str) ++ strRep "x" (8 - ((S1 (letC k s) ++ ((toString (s / 4 % 10000) : String) : Str)).length : Int)) else S1 (letC k s) ++ ((toString (s / 4 % 10000) : String) : Str) ++ strRep "x" (k % 4)).cps.toList.head? = some (letC k s) := by
        intro k
        split <;> exact head_of_app2
      rw [hd, hd] at e
      exact letC_inj a0 (by omega) b0 (by omega) s0 (Option.some.inj e)
    · rw [if_neg c4, if_neg c4] at h
      by_cases c5 : s % 4 = 3
      · rw [if_pos c5, if_pos c5] at h
        exact fin16 (f := fun k => ("m" : Str) ++ ((toString (100 - 7 * k) : String) : Str)) (by decide +kernel) a0 a1 b0 b1 h
      · rw [if_neg c5, if_neg c5] at h
        have e := congrArg (fun x : Str => x.cps.toList.head?) h
        exact letC_inj a0 (by omega) b0 (by omega) s0 (Option.some.inj e)
theorem isL_let (k s : Int) : isL (letC k s) = true := by
  have all : ∀ n : Fin 26, isL (97 + n.1) = true := by decide +kernel
  unfold letC
  have := all ⟨((k * 7 + s / 4) % 26).toNat, by omega⟩
  dsimp only at this
  rw [show (97 + (k * 7 + s / 4) % 26).toNat = 97 + ((k * 7 + s / 4) % 26).toNat by omega]
  exact this
theorem dig_all {i : Int} (h0 : 0 ≤ i) : ∀ c ∈ ((toString i : String) : Str).cps.toList, isD c = true := by
  obtain ⟨n, rfl⟩ : ∃ n : Nat, i = n := ⟨i.toNat, by omega⟩
  intro c hc
  rw [PySem.Str.ofString_eq_toList] at hc
  have hc2 : c ∈ (toString ((n : Nat) : Int)).toList.map Char.toNat := by simpa using hc
  obtain ⟨ch, h1, rfl⟩ := List.mem_map.mp hc2
  have e : (toString ((n : Nat) : Int)) = Nat.repr n := rfl
  rw [e, Nat.repr_eq_ofList_toDigits] at h1
  have h2 : ch ∈ Nat.toDigits 10 n := by simpa using h1
  have h3 := Nat.isDigit_of_mem_toDigits (by decide) (by decide) h2
  unfold Char.isDigit at h3
  simp at h3
  have h4 : (48 : UInt32).toNat ≤ ch.val.toNat := h3.1
  have h5 : ch.val.toNat ≤ (57 : UInt32).toNat := h3.2
  have e1 : (48 : UInt32).toNat = 48 := rfl
  have e2 : (57 : UInt32).toNat = 57 := rfl
  have all : ∀ n : Fin 10, isD (48 + n.1) = true := by decide +kernel
  have := all ⟨ch.val.toNat - 48, by omega⟩
  dsimp only at this
  rw [show 48 + (ch.val.toNat - 48) = ch.val.toNat by omega] at this
  exact this

end S3
namespace S3
open PySem
/-! the names are valid -/
theorem rep_all {x : Str} {n : Int} {a : Nat} (h : x.cps.toList = [a]) : ∀ c ∈ (strRep x n).cps.toList, c = a := by
  intro c hc
  have e : (strRep x n).cps.toList = (List.replicate n.toNat x.cps.toList).flatten := by simp [strRep]
  rw [e, h] at hc
  obtain ⟨l, hl, h2⟩ := List.mem_flatten.mp hc
  rw [List.eq_of_mem_replicate hl] at h2
  exact List.mem_singleton.mp h2
theorem vn_of {x : Str} {c : Nat} (h1 : 1 ≤ x.length) (h8 : x.length ≤ 8) (hd : x.cps.toList.head? = some c) (hc : isL c = true) (ha : ∀ d ∈ x.cps.toList, isL d = true ∨ isD d = true) : vn x = true := by
  unfold vn
  simp only [Bool.and_eq_true, decide_eq_true_eq]
  refine ⟨⟨⟨h1, h8⟩, ?_⟩, ?_⟩
  · cases e : x.cps.toList with
    | nil => rw [e] at hd; cases hd
    | cons y ys => rw [e] at hd; cases hd; exact hc
  · rw [List.all_eq_true]
    exact fun d hd => by rw [Bool.or_eq_true]; exact ha d hd
theorem nm4_vn {k s : Int} (h0 : 0 ≤ k) (h1 : k < 15) (s0 : 0 ≤ s) : vn (nm4 k s) = true := by
  have hL := isL_let k s
  have lq : isL 113 = true := by decide +kernel
  have lx : isL 120 = true := by decide +kernel
  unfold nm4
  split
  · have hl := rep_len "q" (k % 3) (by decide +kernel)
    refine vn_of (c := if k % 3 = 0 then letC k s else 113) (by rw [app_len, one_len]; omega) (by rw [app_len, one_len]; omega) ?_ (by split <;> assumption) (fun d hd => ?_)
    · rw [cps_app]
      have : k % 3 = 0 ∨ k % 3 = 1 ∨ k % 3 = 2 := by omega
      rcases this with e | e | e <;> rw [e] <;> rfl
    · rw [cps_app] at hd
      rcases List.mem_append.mp hd with hd | hd
      · rw [rep_all (a := 113) (by decide +kernel) d hd]; exact .inl lq
      · rw [List.mem_singleton.mp hd]; exact .inl hL
  · split
    · have hn := num_len (i := s / 4 % 10000) (by omega) (by omega)
      have hdg := dig_all (i := s / 4 % 10000) (by omega)
      dsimp only
      generalize (toString (s / 4 % 10000) : String) = st at hn hdg
      have hb : (S1 (letC k s) ++ (st : Str)).length = 1 + (st : Str).length := by rw [app_len, one_len]
      have go : ∀ n : Int, n ≤ 8 - ((S1 (letC k s) ++ (st : Str)).length : Int) → vn (S1 (letC k s) ++ (st : Str) ++ strRep "x" n) = true := by
        intro n hn2
        have hx := rep_len "x" n (by decide +kernel)
        refine vn_of (c := letC k s) (by rw [app_len, hb]; omega) (by rw [app_len, hx]; omega) head_of_app2 hL (fun d hd => ?_)
        rw [cps_app, cps_app] at hd
        rcases List.mem_append.mp hd with hd | hd
        · rcases List.mem_append.mp hd with hd | hd
          · rw [List.mem_singleton.mp hd]; exact .inl hL
          · exact .inr (hdg d hd)
        · rw [rep_all (a := 120) (by decide +kernel) d hd]; exact .inl lx
      split
      · exact go _ (Int.le_refl _)
      · exact go _ (by omega)
    · split
      · have all : ∀ n : Fin 15, vn (("m" : Str) ++ ((toString (100 - 7 * (n.1 : Int)) : String) : Str)) = true := by decide +kernel
        have := all ⟨k.toNat, by omega⟩
        dsimp only at this
        rw [show ((k.toNat : Nat) : Int) = k by omega] at this
        exact this
      · exact vn_of (c := letC k s) (by rw [one_len]; decide) (by rw [one_len]; decide) rfl hL (fun d hd => by rw [List.mem_singleton.mp hd]; exact .inl hL)

end S3
namespace S3
open PySem
/-! names drawn, five kinds -/
abbrev wds10 : List Str := ["write", "none", "read", "own", "close", "leads", "program", "to", "begin", "quit"]
theorem ix_strs (xs : List Str) {i : Int} (h0 : 0 ≤ i) (h1 : i < xs.length) : opIx (.lst (xs.map .str)) (.int i) = some (.fz (.str (xs.getD i.toNat ""))) := by
  rw [opIx_l]
  have hl : i.toNat < xs.length := by omega
  have : L2.atI (xs.map D.str) i = some (.str (xs.getD i.toNat "")) := atI_nat h0 (by rw [List.getElem?_map, List.getD, List.getElem?_eq_getElem hl]; rfl)
  rw [this]
  rfl
def nmQa (k : Int) : Str := wds10.getD (k % 10).toNat "" ++ strRep "2" (k / 10)
def nmQb (k : Int) : Str := strRep "b" (k / 7) ++ strRep "a" (k % 7 + 1)
/-- the name of place k in style s -/
def nm5 (k s : Int) : Str := if s % 4 = 1 ∧ s / 4 % 2 = 1 then nmQa k else if s % 4 = 3 ∧ s / 4 % 2 = 1 then nmQb k else nm4 k s
theorem nm5_inj {a b s : Int} (a0 : 0 ≤ a) (a1 : a < 16) (b0 : 0 ≤ b) (b1 : b < 16) (s0 : 0 ≤ s) (h : nm5 a s = nm5 b s) : a = b := by
  unfold nm5 at h
  by_cases c : s % 4 = 1 ∧ s / 4 % 2 = 1
  · rw [if_pos c, if_pos c] at h
    exact fin16 (f := nmQa) (by decide +kernel) a0 a1 b0 b1 h
  · rw [if_neg c, if_neg c] at h
    by_cases c2 : s % 4 = 3 ∧ s / 4 % 2 = 1
    · rw [if_pos c2, if_pos c2] at h
      exact fin16 (f := nmQb) (by decide +kernel) a0 a1 b0 b1 h
    · rw [if_neg c2, if_neg c2] at h
      exact nm4_inj a0 a1 b0 b1 s0 h
theorem fin15 {f : Int → Str} (h : ∀ a : Fin 15, vn (f (a.1 : Int)) = true) {a : Int} (a0 : 0 ≤ a) (a1 : a < 15) : vn (f a) = true := by
  have := h ⟨a.toNat, by omega⟩
  dsimp only at this
  rwa [show ((a.toNat : Nat) : Int) = a by omega] at this
theorem nm5_vn {k s : Int} (h0 : 0 ≤ k) (h1 : k < 15) (s0 : 0 ≤ s) : vn (nm5 k s) = true := by
  unfold nm5
  split
  · exact fin15 (f := nmQa) (by decide +kernel) h0 h1
  · split
    · exact fin15 (f := nmQb) (by decide +kernel) h0 h1
    · exact nm4_vn h0 h1 s0
theorem wd10_len (i : Nat) : (wds10.getD i "").length ≤ 7 := by
  have all : ∀ n : Fin 10, (wds10.getD n.1 "").length ≤ 7 := by decide +kernel
  by_cases c : i < 10
  · exact all ⟨i, c⟩
  · rw [List.getD, List.getElem?_eq_none (by show 10 ≤ i; omega)]
    decide +kernel
theorem named_run (phi : String → List D → RC) {k s : Int} (h0 : 0 ≤ k) (h1 : k < 30) (s0 : 0 ≤ s) (s1 : s < 65536) : T__law_named.run phi [.int k, .int s] = .ok false (.str (nm5 k s)) [] := by
  rw [run_is rfl]
  show finish [.r, .r] (b__law_named phi [.bo (.int k), .bo (.int s), .no, .no, .no, .no]) = _
  unfold b__law_named
  have hl := let_at ((k * 7 + s / 4) % 26) (by omega) (by omega)
  have hl2 : (97 + (k * 7 + s / 4) % 26).toNat = letC k s := rfl
  rw [hl2] at hl
  by_cases cA : s % 4 = 1 ∧ s / 4 % 2 = 1
  · unfold nm5
    rw [if_pos cA]
    obtain ⟨ca, cb⟩ := cA
    have hx := ix_strs wds10 (i := k % 10) (by omega) (by show _ < 10; omega)
    have hm := opMul_s "2" (k / 10) (by omega) (by omega) (by decide +kernel)
    have hw := wd10_len (k % 10).toNat
    have ha := addC (wds10.getD (k % 10).toNat "") (strRep "2" (k / 10)) (by omega) (by rw [rep_len _ _ (by decide +kernel)]; omega)
    unfold nmQa
    generalize wds10.getD (k % 10).toNat "" = W at *
    simp only [List.map_cons, List.map_nil] at hx
    simp [-opAdd_s, -opIx_l, hl, opEq_i, ca, cb, hx, hm, ha]
  · by_cases cB : s % 4 = 3 ∧ s / 4 % 2 = 1
    · unfold nm5
      rw [if_neg cA, if_pos cB]
      obtain ⟨ca, cb⟩ := cB
      have hm := opMul_s "b" (k / 7) (by omega) (by omega) (by decide +kernel)
      have hm2 := opMul_s "a" (k % 7 + 1) (by omega) (by omega) (by decide +kernel)
      have ha := addC (strRep "b" (k / 7)) (strRep "a" (k % 7 + 1)) (by rw [rep_len _ _ (by decide +kernel)]; omega) (by rw [rep_len _ _ (by decide +kernel)]; omega)
      unfold nmQb
      simp [-opAdd_s, -opIx_l, hl, opEq_i, ca, cb, hm, hm2, ha]
    · unfold nm5
      rw [if_neg cA, if_neg cB]
      unfold nm4
      have gA : ∀ e : Env, slot e 1 = .bo (.int s) → slot e 3 = .fz (.int (s % 4)) → tAndS (tVal (eOp2 opEq (eSlot 3) (eC (.int 1)))) (tVal (eOp2 opEq (eOp2 opMod (eOp2 opDiv (eOp1 opInt (eSlot 1)) (eC (.int 4))) (eC (.int 2))) (eC (.int 1)))) e = .ok false e := by
        intro e e1 e3
        by_cases c : s % 4 = 1
        · have c2 : ¬ s / 4 % 2 = 1 := fun z => cA ⟨c, z⟩
          simp [e1, e3, opEq_i, c, c2]
        · simp [e1, e3, opEq_i, c]
      have gB : ∀ e : Env, slot e 1 = .bo (.int s) → slot e 3 = .fz (.int (s % 4)) → tAndS (tVal (eOp2 opEq (eSlot 3) (eC (.int 3)))) (tVal (eOp2 opEq (eOp2 opMod (eOp2 opDiv (eOp1 opInt (eSlot 1)) (eC (.int 4))) (eC (.int 2))) (eC (.int 1)))) e = .ok false e := by
        intro e e1 e3
        by_cases c : s % 4 = 3
        · have c2 : ¬ s / 4 % 2 = 1 := fun z => cB ⟨c, z⟩
          simp [e1, e3, opEq_i, c, c2]
        · simp [e1, e3, opEq_i, c]
      rw [sSeq_e]
      simp [-sSeq_e, hl]
      rw [sSeq_e]
      simp [-sSeq_e]
      rw [sSeq_e, sIf_e, gA _ rfl rfl]
      simp only [sNx_e]
      rw [sSeq_e, sIf_e, gB _ rfl rfl]
      simp only [sNx_e]
      by_cases c1 : s % 4 = 1
      · rw [if_pos c1]
        have hm := opMul_s "q" (k % 3) (by omega) (by omega) (by decide +kernel)
        have ha := addC (strRep "q" (k % 3)) (S1 (letC k s)) (by rw [rep_len _ _ (by decide +kernel)]; omega) (by rw [one_len]; decide)
        unfold S1 at ha ⊢
        simp [-opAdd_s, opEq_i, c1, hm, ha]
      · rw [if_neg c1]
        by_cases c4 : s % 4 = 2
        · rw [if_pos c4]
          have hs := opStr_i (s / 4 % 10000) (by omega)
          have hb2 : ((S1 (letC k s) ++ ((toString (s / 4 % 10000) : String) : Str)).length : Int) ≤ 9 := by rw [app_len, one_len]; have := num_len (i := s / 4 % 10000) (by omega) (by omega); omega
          have ha := addC (S1 (letC k s)) ((toString (s / 4 % 10000) : String) : Str) (by rw [one_len]; decide) (by have := num_len (i := s / 4 % 10000) (by omega) (by omega); omega)
          have e : (toString (s / 4 % 10000) : String) = (s / 4 % 10000).repr := rfl
          rw [e] at hs ha hb2
          try rw [e]
          generalize (s / 4 % 10000).repr = st at hs ha hb2 ⊢
          generalize S1 (letC k s) ++ (st : Str) = base at ha hb2
          by_cases c5 : k % 4 = 3
          · rw [if_pos c5]
            have hm := opMul_s "x" (8 - (base.length : Int)) (by omega) (by omega) (by decide +kernel)
            have hc := addC base (strRep "x" (8 - (base.length : Int))) (by omega) (by rw [rep_len _ _ (by decide +kernel)]; omega)
            unfold S1 at ha
            simp [-opAdd_s, opEq_i, c1, c4, c5, hs, ha, hm, hc]
          · rw [if_neg c5]
            have hm := opMul_s "x" (k % 4) (by omega) (by omega) (by decide +kernel)
            have hc := addC base (strRep "x" (k % 4)) (by omega) (by rw [rep_len _ _ (by decide +kernel)]; omega)
            unfold S1 at ha
            simp [-opAdd_s, opEq_i, c1, c4, c5, hs, ha, hm, hc]
        · rw [if_neg c4]
          by_cases c3 : s % 4 = 3
          · rw [if_pos c3]
            have hs := opStr_i (100 - 7 * k) (by omega)
            have hn : ((toString (100 - 7 * k) : String) : Str).length ≤ 1921 := PyProof.Rows.int_text_len_1921 (by
              by_cases z : (100 - 7 * k).natAbs = 0
              · rw [z]; decide
              · have := (Nat.log2_lt z).mpr (show (100 - 7 * k).natAbs < 2 ^ 40 by omega)
                omega)
            have ha := addC "m" ((toString (100 - 7 * k) : String) : Str) (by decide +kernel) (by omega)
            have e : (toString (100 - 7 * k) : String) = (100 - 7 * k).repr := rfl
            rw [e] at hs hn ha
            try rw [e]
            generalize (100 - 7 * k).repr = st at hs hn ha ⊢
            simp [-opAdd_s, opEq_i, c3, hs, ha]
          · rw [if_neg c3]
            simp [-opAdd_s, opEq_i, c1, c3, c4]
            rfl

end S3
namespace S3
open PySem
theorem eqv_ss (a b : Str) : PyData.eqv (.str a) (.str b) = decide (a = b) := by
  by_cases h : a = b
  · subst h; simp [PyData.eqv]
  · simp [PyData.eqv, h]
theorem all_strL (xs : List Str) (n : Nat) : (strL xs).all (okD n) = true := by
  unfold strL
  rw [List.all_map, List.all_eq_true]
  intro x _
  cases n <;> rfl
theorem strL_get {xs : List Str} {i : Int} {x : Str} (h0 : 0 ≤ i) (h : xs[i.toNat]? = some x) : L2.atI (strL xs) i = some (.str x) := by
  refine atI_nat h0 ?_
  unfold strL
  rw [List.getElem?_map, h]
  rfl
theorem atI_last {α : Type} {xs : List α} {k : Nat} {x : α} (h : xs.length = k + 1) (h2 : xs[k]? = some x) : L2.atI xs (-1) = some x := by
  unfold L2.atI L2.ixN
  rw [if_neg (by decide), if_pos (by omega)]
  show xs[(-1 + (xs.length : Int)).toNat]? = some x
  rw [show (-1 + (xs.length : Int)).toNat = k by omega]
  exact h2
theorem cutHi_nat {xs : List D} {i : Int} (h0 : 0 ≤ i) : cutD xs none (some i) = xs.take i.toNat := by
  unfold cutD
  have e : HT.sIx xs.length xs.length (some i) = min i.toNat xs.length := by
    have := HT.sIx_nat xs.length xs.length i.toNat
    rwa [Int.toNat_of_nonneg h0] at this
  rw [e]
  show (xs.drop 0).take (min i.toNat xs.length - 0) = _
  rw [List.drop_zero, List.take_eq_take_iff]
  omega
theorem nin_of_in {x y : D} {b : Bool} (h : opIn x y = some (.fz (.bl b))) : opNotIn x y = some (.fz (.bl (!b))) := by
  unfold opIn at h
  unfold opNotIn
  cases e : dIn x y with
  | none => rw [e] at h; cases h
  | some c =>
    rw [e] at h
    have : c = b := by simpa [bRV] using h
    rw [this]
    rfl
end S3
namespace S3
open PySem
/-! parts, steps: what valid_step answers -/
inductive Part where
  | s (x : Str) | t (xs : List Str)
def pD : Part → D
  | .s x => .str x | .t xs => .tup (strL xs)
def stD (ps : List Part) : D := .tup (ps.map pD)
def nmP : Part → Bool
  | .s x => vn x | .t _ => false
def thP : Part → Bool
  | .s _ => false | .t xs => xs.all vn && decide xs.Nodup
def Small : Part → Prop
  | .s x => x.length ≤ 1000 | .t xs => xs.length ≤ 1000 ∧ ∀ x ∈ xs, x.length ≤ 1000
/-- is it a step -/
def stepB : List Part → Bool
  | [.s h, p] => (decide (h = "begin") || decide (h = "quit")) && nmP p
  | [.s h, p, q] => if h = "read" then nmP p && nmP q else if h = "close" then nmP p && thP q else false
  | _ => false
theorem ded_le : ∀ (ks acc : List Key), (ks.foldl addKey acc).length ≤ acc.length + ks.length
  | [], acc => by simp
  | k :: ks, acc => by
    rw [List.foldl_cons, List.length_cons]
    have := ded_le ks (addKey acc k)
    have h2 : (addKey acc k).length ≤ acc.length + 1 := by
      unfold addKey
      split
      · omega
      · simp
    omega
theorem ded_len : ∀ (ks acc : List Key), acc.Nodup → ((ks.foldl addKey acc).length = acc.length + ks.length ↔ (acc ++ ks).Nodup)
  | [], acc, h => by simp [h]
  | k :: ks, acc, h => by
    rw [List.foldl_cons, List.length_cons]
    by_cases c : k ∈ acc
    · have e : addKey acc k = acc := by
        unfold addKey
        rw [if_pos (kIn_iff.mpr c)]
      rw [e]
      have := ded_le ks acc
      constructor
      · intro z; omega
      · intro z
        rw [List.nodup_append] at z
        exact (z.2.2 k c k List.mem_cons_self rfl).elim
    · have e : addKey acc k = acc ++ [k] := by
        unfold addKey
        rw [if_neg (fun z => c (kIn_iff.mp z))]
      rw [e]
      have ih := ded_len ks (acc ++ [k]) (by
        rw [List.nodup_append]
        exact ⟨h, by simp, fun x hx y hy e => c (by rw [List.mem_singleton] at hy; rw [← hy, ← e]; exact hx)⟩)
      rw [List.length_append, List.length_singleton, List.append_assoc] at ih
      show _ ↔ (acc ++ ([k] ++ ks)).Nodup
      rw [← ih]
      omega
theorem setlen (xs : List Str) (hz : xs.length < 4000) : ∃ ks : List Key, opSet (.tup (strL xs)) = some (.nw (.st ks)) ∧ (ks.length = xs.length ↔ xs.Nodup) := by
  refine ⟨dedKey (xs.map Sum.inr), ?_, ?_⟩
  · show (match toKeys (strL xs) with | some ks => if ks.length < 4000 then some (RV.nw (.st (dedKey ks))) else none | none => none) = _
    rw [toKeys_strL]
    show (if (xs.map Sum.inr : List Key).length < 4000 then _ else _) = _
    rw [if_pos (by rw [List.length_map]; exact hz)]
  · have h := ded_len (xs.map Sum.inr) [] List.nodup_nil
    rw [List.length_map, List.length_nil, Nat.zero_add, List.nil_append] at h
    refine h.trans ⟨fun z => ?_, fun z => List.Pairwise.map _ (fun a b (h : a ≠ b) (e : (Sum.inr a : Key) = Sum.inr b) => h (Sum.inr.inj e)) z⟩
    exact List.Pairwise.imp (fun {a b} h e => h (by rw [e])) (List.pairwise_map.mp z)
theorem isname_run (phi : String → List D → RC) (hV : ∀ x : Str, x.length ≤ 1000 → phi "valid_name" [.str x] = .ok false (.bl (vn x)) []) {p : Part} (hp : Small p) : T__is_name.run phi [pD p] = .ok false (.bl (nmP p)) [] := by
  rw [run_is rfl]
  cases p with
  | s x =>
    have ht : opIsTy "str" (.str x) = some (.fz (.bl true)) := rfl
    have h := hV x hp
    show finish [.r] (b__is_name phi [.bo (.str x)]) = _
    unfold b__is_name
    simp [ht, h, nmP]
  | t xs =>
    have ht : opIsTy "str" (.tup (strL xs)) = some (.fz (.bl false)) := rfl
    show finish [.r] (b__is_name phi [.bo (.tup (strL xs))]) = _
    unfold b__is_name
    simp [ht, nmP]
theorem lawname_run (phi : String → List D → RC) {p : Part} (hp : Small p) : T__law_is_name.run phi [pD p] = .ok false (.bl (nmP p)) [] := by
  cases p with
  | s x => exact is_name_run phi x hp
  | t xs =>
    rw [run_is rfl]
    have ht : opIsTy "str" (.tup (strL xs)) = some (.fz (.bl false)) := rfl
    show finish [.r] (b__law_is_name phi [.bo (.tup (strL xs)), .no]) = _
    unfold b__law_is_name
    simp [ht, nmP]
theorem things_run (phi : String → List D → RC) (hN : ∀ p : Part, Small p → phi "_is_name" [pD p] = .ok false (.bl (nmP p)) []) {p : Part} (hp : Small p) : T__are_things.run phi [pD p] = .ok false (.bl (thP p)) [] := by
  rw [run_is rfl]
  cases p with
  | s x =>
    have ht : opIsTy "tuple" (.str x) = some (.fz (.bl false)) := rfl
    show finish [.r] (b__are_things phi [.bo (.str x), .no]) = _
    unfold b__are_things
    simp [ht, thP]
  | t xs =>
    have ht : opIsTy "tuple" (.tup (strL xs)) = some (.fz (.bl true)) := rfl
    show finish [.r] (b__are_things phi [.bo (.tup (strL xs)), .no]) = _
    unfold b__are_things
    have comp : lcL (.one 1) tYesS (eCall (phi "_is_name") [.r] (aCons (eSlot 1) aNil)) (strL xs) [.bo (.tup (strL xs)), .no] [] = some (xs.map fun x => D.bl (vn x)) := by
      unfold strL
      rw [lcL_mp (fun x => .bl (vn x)) (fun x hx => ?_), List.nil_append]
      have h : phi "_is_name" [.str x] = .ok false (.bl (vn x)) [] := hN (.s x) (hp.2 x hx)
      simp [lc1, h]
    have hc := eLc_ok (own := [1]) (e := [.bo (.tup (strL xs)), .no]) (w := wAny (eSlot 0)) (e1 := [.bo (.tup (strL xs)), .no]) (by simp) comp (by rw [strL_len]; have := hp.1; omega)
    have ha := opAll_map xs vn
    by_cases c : xs.all vn = true
    · rw [c] at ha
      obtain ⟨ks, k1, k2⟩ := setlen xs (by have := hp.1; omega)
      have hl : opLen (.st ks) = some (.fz (.int ks.length)) := rfl
      have hl2 : opLen (.tup (strL xs)) = some (.fz (.int xs.length)) := by
        show some (RV.fz (D.int (strL xs).length)) = _
        rw [strL_len]
      rw [sSeq_e]
      simp [-sSeq_e, -opLen_t, ht, hc, ha]
      simp [-opLen_t, k1, hl, hl2, opEq_i, thP, c]
      by_cases d : xs.Nodup
      · simp [d, k2.mpr d]
      · have : ks.length ≠ xs.length := fun z => d (k2.mp z)
        simp [d]
        omega
    · rw [sSeq_e]
      have c' : xs.all vn = false := by simpa using c
      rw [c'] at ha
      simp [-sSeq_e, ht, hc, ha, thP, c']

end S3
namespace S3
open PySem
/-! valid_step -/
theorem pD_s (x : Str) : pD (.s x) = .str x := rfl
theorem pD_t (xs : List Str) : pD (.t xs) = .tup (strL xs) := rfl
theorem dEq_s (h l : Str) : dEq (.str h) (.str l) = some (decide (h = l)) := by
  show some (PyData.eqv (.str h) (.str l)) = _
  rw [eqv_ss]
theorem okD_tup (xs : List Str) : okD 6 (.tup (strL xs)) = true := all_strL xs 5
theorem dEq_t (xs : List Str) (l : Str) : dEq (.tup (strL xs)) (.str l) = some false := by
  show (if (okD 6 (.tup (strL xs)) && okD 6 (.str l)) = true then some (PyData.eqv (py 6 (.tup (strL xs))) (py 6 (.str l))) else none) = _
  rw [okD_tup, show okD 6 (.str l) = true from rfl, Bool.and_self, if_pos rfl]
  rfl
theorem hit_s (h : Str) : ∀ ls : List Str, hitL ls (.str h) = some (decide (h ∈ ls))
  | [] => by simp [hitL]
  | l :: ls => by
    unfold hitL
    rw [dEq_s, hit_s h ls]
    by_cases e : h = l <;> simp [e]
theorem hit_t (xs : List Str) : ∀ ls : List Str, hitL ls (.tup (strL xs)) = some false
  | [] => rfl
  | l :: ls => by
    unfold hitL
    rw [dEq_t, hit_t xs ls]
@[simp] theorem sMatch_e (f : EV) (cs : List (List Str × List Nat × SV)) (e : Env) : sMatch f cs e = match f e with
  | .ok r e1 => (match rd r e1 with
    | some (.tup ds) => mGo cs ds e1
    | _ => .no)
  | .ex x e1 => .ex x e1
  | .no => .no := rfl
theorem valid_run (phi : String → List D → RC) (hN : ∀ p : Part, Small p → phi "_is_name" [pD p] = .ok false (.bl (nmP p)) []) (hT : ∀ p : Part, Small p → phi "_are_things" [pD p] = .ok false (.bl (thP p)) []) {ps : List Part} (hp : ∀ p ∈ ps, Small p) :
    T_valid_step.run phi [stD ps] = .ok false (.bl (stepB ps)) [] := by
  rw [run_is rfl]
  show finish [.r] (b_valid_step phi [.bo (stD ps), .no, .no, .no]) = _
  unfold b_valid_step stD
  rcases ps with _ | ⟨a, _ | ⟨b, _ | ⟨c, _ | ⟨d, r⟩⟩⟩⟩
  · simp [mGo, stepB]
  · simp [mGo, stepB]
  · have h1 := hN b (hp b (by simp))
    cases a with
    | t xs => simp [mGo, stepB, pD_s, pD_t, hit_t]
    | s h =>
      by_cases e1 : h = "begin"
      · simp [mGo, stepB, pD_s, pD_t, hit_s, setAll, h1, e1]
      · by_cases e2 : h = "quit"
        · simp [mGo, stepB, pD_s, pD_t, hit_s, setAll, h1, e2]
        · simp [mGo, stepB, pD_s, pD_t, hit_s, e1, e2]
  · have h1 := hN b (hp b (by simp))
    have h2 := hN c (hp c (by simp))
    have h3 := hT c (hp c (by simp))
    cases a with
    | t xs => simp [mGo, stepB, pD_s, pD_t, hit_t]
    | s h =>
      by_cases e1 : h = "read"
      · cases q : nmP b <;> simp [mGo, stepB, pD_s, pD_t, hit_s, setAll, h1, h2, e1, q]
      · by_cases e2 : h = "close"
        · have nr : ¬ ("close" : Str) = "read" := by decide
          cases q : nmP b <;> simp [mGo, stepB, pD_s, pD_t, hit_s, setAll, h1, h3, e2, q, nr]
        · simp [mGo, stepB, pD_s, pD_t, hit_s, e1, e2]
  · simp [mGo, stepB]

end S3
namespace S3
open PySem
/-! the law's own test of a step; the written form -/
theorem opEq_s (h l : Str) : opEq (.str h) (.str l) = some (.fz (.bl (decide (h = l)))) := by unfold opEq; rw [dEq_s]; rfl
theorem opNe_s (h l : Str) : opNe (.str h) (.str l) = some (.fz (.bl (!decide (h = l)))) := by unfold opNe; rw [dEq_s]; rfl
theorem opEq_ts (xs : List Str) (l : Str) : opEq (.tup (strL xs)) (.str l) = some (.fz (.bl false)) := by unfold opEq; rw [dEq_t]; rfl
theorem opNe_ts (xs : List Str) (l : Str) : opNe (.tup (strL xs)) (.str l) = some (.fz (.bl true)) := by unfold opNe; rw [dEq_t]; rfl
def Pre (xs : List Str) (i : Nat) : Prop := (∀ j x, j < i → xs[j]? = some x → vn x = true) ∧ (xs.take i).Nodup
theorem in_tup (x : Str) (xs : List Str) : opIn (.str x) (.tup (strL xs)) = some (.fz (.bl (decide (x ∈ xs)))) := by
  show bRV (if (okD 0 (.str x) && (strL xs).all (okD 0)) = true then some ((strL xs).any fun z => PyData.eqv (py 0 z) (py 0 (.str x))) else none) = _
  rw [all_strL xs 0, show okD 0 (.str x) = true from rfl, Bool.true_and, if_pos rfl]
  show some (RV.fz (D.bl _)) = _
  congr 3
  unfold strL
  rw [List.any_map, Bool.eq_iff_iff, List.any_eq_true, decide_eq_true_iff]
  constructor
  · rintro ⟨y, hy, e⟩
    have e' : PyData.eqv (.str y) (.str x) = true := e
    rw [eqv_ss] at e'
    rw [← of_decide_eq_true e']; exact hy
  · intro h
    refine ⟨x, h, ?_⟩
    show PyData.eqv (.str x) (.str x) = true
    rw [eqv_ss]; exact decide_eq_true rfl
theorem opCutHi_t {xs : List Str} {i : Int} (h0 : 0 ≤ i) : opCutHi (.tup (strL xs)) (.int i) = some (.fz (.tup (strL (xs.take i.toNat)))) := by
  show some (RV.fz (D.tup (cutD (strL xs) none (some i)))) = _
  rw [cutHi_nat h0]
  unfold strL
  rw [List.map_take]
theorem lawstep_run (phi : String → List D → RC) (hN : ∀ p : Part, Small p → noEx (phi "_law_is_name") [pD p] = .ok false (.bl (nmP p)) []) {ps : List Part} (hp : ∀ p ∈ ps, Small p) :
    T__law_is_step.run phi [stD ps] = .ok false (.bl (stepB ps)) [] := by
  rw [run_is rfl]
  show finish [.r] (b__law_is_step phi [.bo (stD ps), .no]) = _
  unfold b__law_is_step eCallH stD
  have at0 : ∀ (a : Part) (r : List Part), L2.atI ((a :: r).map pD) 0 = some (pD a) := fun a r => atI_nat (by decide) rfl
  have at1 : ∀ (a b : Part) (r : List Part), L2.atI ((a :: b :: r).map pD) 1 = some (pD b) := fun a b r => atI_nat (by decide) rfl
  have at2 : ∀ (a b c : Part) (r : List Part), L2.atI ((a :: b :: c :: r).map pD) 2 = some (pD c) := fun a b c r => atI_nat (by decide) rfl
  have two : ∀ (a b : Part) (r : List Part), ¬ (((((a :: b :: r).map pD).length : Nat) : Int) < 2) := fun a b r => by simp; omega
  rcases ps with _ | ⟨a, _ | ⟨b, r⟩⟩
  · simp [stepB]
  · simp [stepB]
  · have h1 := hN b (hp b (by simp))
    have hle := two a b r
    have a0 := at0 a (b :: r)
    have a1 := at1 a b r
    have hlen : (((a :: b :: r).map pD).length : Int) = r.length + 2 := by simp; omega
    generalize hL : (a :: b :: r).map pD = L at hle a0 a1 hlen
    rw [sSeq_e]
    cases q : nmP b with
    | false =>
      rw [q] at h1
      have : stepB (a :: b :: r) = false := by
        rcases r with _ | ⟨c, _ | ⟨d, r⟩⟩ <;> cases a <;> simp [stepB, q]
      simp [-sSeq_e, hle, a1, h1, this]
    | true =>
      rw [q] at h1
      simp [-sSeq_e, hle, a1, h1]
      have hl : opLen (.tup L) = some (.fz (.int (r.length + 2))) := by
        show some (RV.fz (D.int L.length)) = _
        rw [hlen]
      cases a with
      | t xs =>
        have e1 := opEq_ts xs "begin"
        have e2 := opEq_ts xs "quit"
        have e3 := opEq_ts xs "read"
        have e4 := opNe_ts xs "close"
        have : stepB (.t xs :: b :: r) = false := by rcases r with _ | ⟨c, _ | ⟨d, r⟩⟩ <;> rfl
        rw [pD_t] at a0
        rw [this]
        rw [sSeq_e]
        simp [-sSeq_e, a0, e1, e2]
        rw [sSeq_e]
        simp [-sSeq_e, a0, e3]
        simp [a0, e4]
      | s h =>
        rw [pD_s] at a0
        have e1 := opEq_s h "begin"
        have e2 := opEq_s h "quit"
        have e3 := opEq_s h "read"
        have e4 := opNe_s h "close"
        by_cases c1 : h = "begin" ∨ h = "quit"
        · have l2 : opEq (.int (r.length + 2)) (.int 2) = some (.fz (.bl (decide (r = [])))) := by
            rw [opEq_i]
            congr 3
            rw [decide_eq_decide]
            cases r <;> simp <;> omega
          have : stepB (.s h :: b :: r) = decide (r = []) := by
            rcases r with _ | ⟨c, r⟩
            · rcases c1 with c1 | c1 <;> simp [stepB, c1, q]
            · have n1 : ¬ h = "read" := by rcases c1 with c1 | c1 <;> rw [c1] <;> decide
              have n2 : ¬ h = "close" := by rcases c1 with c1 | c1 <;> rw [c1] <;> decide
              rcases r with _ | ⟨d, r⟩ <;> simp [stepB, n1, n2]
          rw [this, sSeq_e]
          have ret2 : finish [Md.r] (sRet (eOp2 opEq (eOp1 opLen (eSlot 0)) (eC (.int 2))) [.bo (.tup L), .no]) = .ok false (.bl (decide (r = []))) [] := by
            simp [-opLen_t, hl, l2]
          rcases c1 with c1 | c1
          · subst c1
            simp [-sSeq_e, -opLen_t, a0, e1, hl, l2]
          · subst c1
            have nb : ¬ (("quit" : Str) = "begin") := by decide
            simp [-sSeq_e, -opLen_t, a0, e1, e2, nb, hl, l2]
        · have n1 : ¬ h = "begin" := fun z => c1 (.inl z)
          have n2 : ¬ h = "quit" := fun z => c1 (.inr z)
          rw [sSeq_e]
          simp [-sSeq_e, a0, e1, e2, n1, n2]
          have l3 : opEq (.int (r.length + 2)) (.int 3) = some (.fz (.bl (decide (r.length = 1)))) := by
            rw [opEq_i]
            congr 3
            rw [decide_eq_decide]
            omega
          have n3 : opNe (.int (r.length + 2)) (.int 3) = some (.fz (.bl (!decide (r.length = 1)))) := by
            unfold opEq at l3
            unfold opNe
            cases z : dEq (.int (r.length + 2)) (.int 3) with
            | none => rw [z] at l3; cases l3
            | some bb =>
              rw [z] at l3
              have : bb = decide (r.length = 1) := by injection l3 with l3; injection l3 with l3; injection l3
              rw [this]; rfl
          by_cases c2 : h = "read"
          · subst c2
            rw [sSeq_e]
            rcases r with _ | ⟨c, _ | ⟨d, r⟩⟩
            · simp [-sSeq_e, -opLen_t, a0, e3, hl, l3, stepB, n1, n2] at l3 ⊢
              simp [l3]
            · have a2 := at2 (.s "read") b c []
              rw [hL] at a2
              have h2 := hN c (hp c (by simp))
              simp [-sSeq_e, -opLen_t, a0, e3, hl, l3, a2, h2, stepB, q] at l3 ⊢
              simp [l3, a2, h2]
            · simp [-sSeq_e, -opLen_t, a0, e3, hl, l3, stepB] at l3 ⊢
              simp [l3]
          · rw [sSeq_e]
            simp [-sSeq_e, a0, e3, c2]
            by_cases c3 : h = "close"
            · subst c3
              rw [sSeq_e]
              rcases r with _ | ⟨c, _ | ⟨d, r⟩⟩
              · simp [-sSeq_e, -opLen_t, a0, e4, hl, n3, stepB, n1, n2] at n3 ⊢
                simp [-opLen_t, n3]
              · have a2 := at2 (.s "close") b c []
                rw [hL] at a2
                have hs : stepB [.s "close", b, c] = thP c := by
                  have nr : ¬ (("close" : Str) = "read") := by decide
                  simp [stepB, q, nr]
                rw [hs]
                cases c with
                | s x =>
                  have ht : opIsTy "tuple" (.str x) = some (.fz (.bl false)) := rfl
                  rw [pD_s] at a2
                  simp [-sSeq_e, -opLen_t, a0, e4, hl, n3] at n3 ⊢
                  simp [-opLen_t, n3, a2, ht, thP]
                | t xs =>
                  have ht : opIsTy "tuple" (.tup (strL xs)) = some (.fz (.bl true)) := rfl
                  have hsm := hp (.t xs) (by simp)
                  have hxl : opLen (.tup (strL xs)) = some (.fz (.int xs.length)) := by
                    show some (RV.fz (D.int (strL xs).length)) = _
                    rw [strL_len]
                  rw [pD_t] at a2
                  simp [-sSeq_e, -opLen_t, a0, e4, hl, n3] at n3 ⊢
                  simp [-sSeq_e, -opLen_t, n3, a2, ht]
                  refine seq_for (ds := rng 0 xs.length) (e0 := [.bo (.tup L), .no]) (Q := fun r => finish [Md.r] r = .ok false (.bl (thP (.t xs))) []) ?_ (fun i e => e = [.bo (.tup L), .no] ∧ Pre xs i) ⟨rfl, fun _ _ h => absurd h (Nat.not_lt_zero _), by simp⟩ ?_ ?_
                  · have := hsm.1
                    simp [-opLen_t, a2, hxl]
                    omega
                  · rintro R hrt _ _ i d e hd ⟨rfl, hg, hn⟩
                    obtain ⟨rfl, hi⟩ := rng0_get hd
                    have hi2 : i < xs.length := by omega
                    refine ⟨_, rfl, ?_⟩
                    have hc : xs[i]? = some xs[i] := List.getElem?_eq_getElem hi2
                    have hxm : xs[i] ∈ xs := List.getElem_mem hi2
                    generalize xs[i] = x at hc hxm
                    have ha : L2.atI (strL xs) (i : Int) = some (.str x) := strL_get (by omega) hc
                    have h5 : noEx (phi "_law_is_name") [.str x] = .ok false (.bl (vn x)) [] := hN (.s x) (hsm.2 x hxm)
                    have h6 := opCutHi_t (xs := xs) (i := (i : Int)) (by omega)
                    rw [Int.toNat_natCast] at h6
                    have h7 := in_tup x (xs.take i)
                    have htk : xs.take (i + 1) = xs.take i ++ [x] := by rw [List.take_add_one, hc]; rfl
                    by_cases g1 : vn x = true
                    · by_cases g2 : x ∈ xs.take i
                      · have fin : thP (.t xs) = false := by
                          have : ¬ xs.Nodup := fun z => by
                            have z2 := List.Pairwise.sublist (List.take_sublist (i + 1) xs) z
                            rw [htk, List.pairwise_append] at z2
                            exact z2.2.2 x g2 x (by simp) rfl
                          simp [thP, this]
                        simp [-finish_fz, a2, ha, h5, h6, h7, g1, g2]
                        exact hrt _ _ (by simp [fin])
                      · simp [a2, ha, h5, h6, h7, g1, g2]
                        refine ⟨fun j y hj hy => ?_, ?_⟩
                        · by_cases z : j = i
                          · subst z; rw [hc] at hy; cases hy; exact g1
                          · exact hg j y (by omega) hy
                        · rw [htk, List.nodup_append]
                          exact ⟨hn, by simp, fun y hy z hz e => g2 (by rw [List.mem_singleton] at hz; rw [← hz, ← e]; exact hy)⟩
                    · have fin : thP (.t xs) = false := by
                        have : xs.all vn = false := by
                          rw [Bool.eq_false_iff]
                          intro z
                          exact g1 (List.all_eq_true.mp z x hxm)
                        simp [thP, this]
                      have g1' : vn x = false := by simpa using g1
                      simp [-finish_fz, a2, ha, h5, g1']
                      exact hrt _ _ (by simp [fin])
                  · rintro e ⟨rfl, hg, hn⟩
                    rw [rng_len] at hg hn
                    have he : ((xs.length : Int) - 0).toNat = xs.length := by omega
                    rw [he] at hg hn
                    rw [List.take_length] at hn
                    have : xs.all vn = true := List.all_eq_true.mpr fun x hx => by
                      obtain ⟨i, hi, e⟩ := List.mem_iff_getElem.mp hx
                      exact hg i x hi (by rw [List.getElem?_eq_getElem hi, e])
                    simp [thP, this, hn]
              · have nr : ¬ (("close" : Str) = "read") := by decide
                simp [-sSeq_e, -opLen_t, a0, e4, hl, n3, stepB] at n3 ⊢
                simp [-opLen_t, n3]
            · have : stepB (.s h :: b :: r) = false := by
                rcases r with _ | ⟨c, _ | ⟨d, r⟩⟩ <;> simp [stepB, n1, n2, c2, c3]
              rw [sSeq_e]
              simp [-sSeq_e, a0, e4, c3, this]

end S3
namespace S3
open PySem
/-! the written form -/
theorem str_assoc (x y z : Str) : (x ++ y) ++ z = x ++ (y ++ z) := by
  show (⟨(x.cps ++ y.cps) ++ z.cps⟩ : Str) = ⟨x.cps ++ (y.cps ++ z.cps)⟩
  rw [Array.append_assoc]
def jf (t : Str) (xs : List Str) : Str := xs.foldl (fun t x => t ++ " " ++ x) t
theorem jf_app (t u : Str) : ∀ xs : List Str, jf (t ++ u) xs = t ++ jf u xs
  | [] => rfl
  | x :: xs => by
    show jf (t ++ u ++ " " ++ x) xs = t ++ jf (u ++ " " ++ x) xs
    rw [← jf_app t (u ++ " " ++ x) xs]
    congr 1
    rw [str_assoc t u, str_assoc t (u ++ " ")]
theorem join_jf : ∀ (a : Str) (xs : List Str), Str.join " " (a :: xs) = jf a xs
  | a, [] => rfl
  | a, b :: r => by
    show a ++ " " ++ Str.join " " (b :: r) = jf (a ++ " " ++ b) r
    rw [join_jf b r, ← jf_app]
def flat : List Part → List Str
  | [] => []
  | .s x :: r => x :: flat r
  | .t xs :: r => xs ++ flat r
theorem txts (xs : List Str) : txtsOf (strL xs) = some xs := by
  induction xs with
  | nil => rfl
  | cons x xs ih =>
    show (txtsOf (strL xs)).map (x :: ·) = _
    rw [ih]; rfl
@[simp] theorem sRaise_e (c : Str) (fs : List Str) (a : AV) (e : Env) : sRaise c fs a e = match a e with
  | .ok rs e1 => (match fzs rs with
    | some ds => if ds.length = fs.length then .ex ⟨c, fs.zip ds⟩ e1 else .no
    | none => .no)
  | .ex x e1 => .ex x e1
  | .no => .no := rfl
theorem vn_len {x : Str} (h : vn x = true) : x.length ≤ 8 := by
  unfold vn at h
  simp only [Bool.and_eq_true, decide_eq_true_eq] at h
  exact h.1.1.2
theorem sum_len : ∀ {xs : List Str}, (∀ x ∈ xs, x.length ≤ 8) → (xs.map (·.length)).sum ≤ 8 * xs.length
  | [], _ => by simp
  | x :: xs, h => by
    have h1 := h x (by simp)
    have h2 := sum_len (xs := xs) fun y hy => h y (by simp [hy])
    rw [List.map_cons, List.sum_cons, List.length_cons]
    omega
theorem joinOk_ok {xs : List Str} (h : ∀ x ∈ xs, x.length ≤ 8) (hz : xs.length ≤ 2000) : joinOk " " xs = some (.fz (.str (Str.join " " xs))) := by
  have := sum_len h
  have e : (" " : Str).length = 1 := rfl
  unfold joinOk
  rw [if_pos (by rw [e]; omega)]
theorem join_tupS {xs : List Str} (h : ∀ x ∈ xs, x.length ≤ 8) (hz : xs.length ≤ 2000) : opJoin " " (.tup (strL xs)) = some (.fz (.str (Str.join " " xs))) := by
  show (txtsOf (strL xs)).bind (joinOk " ") = _
  rw [txts, Option.bind_some, joinOk_ok h hz]
theorem join_lstS {xs : List Str} (h : ∀ x ∈ xs, x.length ≤ 8) (hz : xs.length ≤ 2000) : opJoin " " (.lst (strL xs)) = some (.fz (.str (Str.join " " xs))) := by
  show (txtsOf (strL xs)).bind (joinOk " ") = _
  rw [txts, Option.bind_some, joinOk_ok h hz]
/-- what a step looks like -/
theorem step_form {ps : List Part} (h : stepB ps = true) : (∃ w p, ps = [.s w, .s p] ∧ (w = "begin" ∨ w = "quit") ∧ vn p = true) ∨ (∃ p q, ps = [.s "read", .s p, .s q] ∧ vn p = true ∧ vn q = true) ∨ (∃ p xs, ps = [.s "close", .s p, .t xs] ∧ vn p = true ∧ (∀ x ∈ xs, vn x = true)) := by
  rcases ps with _ | ⟨a, _ | ⟨b, _ | ⟨c, _ | ⟨d, r⟩⟩⟩⟩
  · cases h
  · cases a <;> cases h
  · cases a with
    | t _ => cases h
    | s w =>
      simp [stepB] at h
      cases b with
      | t _ => simp [nmP] at h
      | s p => exact .inl ⟨w, p, rfl, h.1, h.2⟩
  · cases a with
    | t _ => cases h
    | s w =>
      simp only [stepB] at h
      split at h
      · rename_i e
        subst e
        rw [Bool.and_eq_true] at h
        cases b with
        | t _ => cases h.1
        | s p =>
          cases c with
          | t _ => cases h.2
          | s q => exact .inr (.inl ⟨p, q, rfl, h.1, h.2⟩)
      · split at h
        · rename_i e
          subst e
          rw [Bool.and_eq_true] at h
          cases b with
          | t _ => cases h.1
          | s p =>
            cases c with
            | s _ => cases h.2
            | t xs =>
              have h2 := h.2
              simp only [thP, Bool.and_eq_true] at h2
              exact .inr (.inr ⟨p, xs, rfl, h.1, List.all_eq_true.mp h2.1⟩)
        · cases h
  · cases a <;> cases h
theorem format_run (phi : String → List D → RC) {ps : List Part} (hp : ∀ p ∈ ps, Small p) (hV : phi "valid_step" [stD ps] = .ok false (.bl (stepB ps)) []) :
    T_format_step.run phi [stD ps] = if stepB ps = true then .ok false (.str (Str.join " " (flat ps))) [] else .ex ⟨"InvalidStep", [("step", stD ps)]⟩ [] := by
  rw [run_is rfl]
  show finish [.v] (b_format_step phi [.fz (stD ps), .no, .no, .no]) = _
  unfold b_format_step
  by_cases c : stepB ps = true
  · rw [if_pos c]
    rw [c] at hV
    rw [sSeq_e]
    simp [-sSeq_e, hV]
    rcases step_form c with ⟨w, p, rfl, hw, h1⟩ | ⟨p, q, rfl, h1, h2⟩ | ⟨p, xs, rfl, h1, h2⟩
    · have a0 : opIx (stD [.s w, .s p]) (.int 0) = some (.fz (.str w)) := by
        show (L2.atI [D.str w, D.str p] 0).map RV.fz = _
        rw [atI_nat (by decide) rfl]; rfl
      have nc : ¬ w = "close" := by rcases hw with hw | hw <;> rw [hw] <;> decide
      have wl : w.length ≤ 8 := by rcases hw with hw | hw <;> rw [hw] <;> decide
      have j : opJoin " " (stD [.s w, .s p]) = some (.fz (.str (Str.join " " [w, p]))) := join_tupS (xs := [w, p]) (fun x hx => by
        simp at hx
        rcases hx with rfl | rfl
        · exact wl
        · exact vn_len h1) (by simp)
      rw [sSeq_e]
      simp [-sSeq_e, a0, opEq_s, nc, j, flat]
    · have a0 : opIx (stD [.s "read", .s p, .s q]) (.int 0) = some (.fz (.str "read")) := by
        show (L2.atI [D.str "read", D.str p, D.str q] 0).map RV.fz = _
        rw [atI_nat (by decide) rfl]; rfl
      have nc : ¬ ("read" : Str) = "close" := by decide
      have j : opJoin " " (stD [.s "read", .s p, .s q]) = some (.fz (.str (Str.join " " ["read", p, q]))) := join_tupS (xs := ["read", p, q]) (fun x hx => by
        simp at hx
        rcases hx with rfl | rfl | rfl
        · decide
        · exact vn_len h1
        · exact vn_len h2) (by simp)
      rw [sSeq_e]
      simp [-sSeq_e, a0, opEq_s, nc, j, flat]
    · have a0 : opIx (.tup [D.str "close", D.str p, D.tup (strL xs)]) (.int 0) = some (.fz (.str "close")) := by
        show (L2.atI [D.str "close", D.str p, D.tup (strL xs)] 0).map RV.fz = _
        rw [atI_nat (by decide) rfl]; rfl
      have hz : xs.length ≤ 1000 := (hp (.t xs) (by simp)).1
      have j : opJoin " " (.lst (strL ("close" :: p :: xs))) = some (.fz (.str (Str.join " " ("close" :: p :: xs)))) := join_lstS (fun x hx => by
        rcases List.mem_cons.mp hx with rfl | hx
        · decide
        · rcases List.mem_cons.mp hx with rfl | hx
          · exact vn_len h1
          · exact vn_len (h2 x hx)) (by simp; omega)
      have hd : eDisp mkLst (aKeep (eSlot 1) (aKeep (eSlot 2) (aStar (eSlot 3) (aNil)))) [.fz (.tup [D.str "close", D.str p, D.tup (strL xs)]), .fz (.str "close"), .fz (.str p), .fz (.tup (strL xs))] = .ok (.nw (.lst (strL ("close" :: p :: xs)))) [.fz (.tup [D.str "close", D.str p, D.tup (strL xs)]), .fz (.str "close"), .fz (.str p), .fz (.tup (strL xs))] := by
        have hs : seqI (.tup (strL xs)) = some (strL xs) := rfl
        have hf := fzs_app (strL xs) []
        have hl := strL_len xs
        simp [hs] at hf ⊢
        simp [hf, hl]
        rw [if_pos (by omega)]
        rfl
      have hst : stD [.s "close", .s p, .t xs] = .tup [D.str "close", D.str p, D.tup (strL xs)] := rfl
      rw [hst, sSeq_e]
      have hu : sUnp [1, 2, 3] (eSlot 0) [.fz (.tup [D.str "close", D.str p, D.tup (strL xs)]), .no, .no, .no] = .nx [.fz (.tup [D.str "close", D.str p, D.tup (strL xs)]), .fz (.str "close"), .fz (.str p), .fz (.tup (strL xs))] := by
        simp
      simp [-sSeq_e, -sUnp_e, a0, opEq_s]
      rw [sSeq_e, hu]
      simp [-eDisp_e, hd, j, flat]
  · rw [if_neg c]
    have c' : stepB ps = false := by simpa using c
    rw [c'] at hV
    rw [sSeq_e]
    simp [-sSeq_e, hV]

end S3
namespace S3
open PySem
/-! k03: the words of a line -/
theorem join_snoc {L : List Str} (h : L ≠ []) (z : Str) : Str.join " " (L ++ [z]) = Str.join " " L ++ " " ++ z := by
  cases L with
  | nil => exact absurd rfl h
  | cons a xs =>
    rw [List.cons_append, join_jf, join_jf]
    unfold jf
    rw [List.foldl_append]
    rfl
theorem join_last (I : List Str) (w c : Str) : Str.join " " (I ++ [w ++ c]) = Str.join " " (I ++ [w]) ++ c := by
  cases I with
  | nil => rfl
  | cons a xs => rw [join_snoc (by simp), join_snoc (by simp), str_assoc _ w c]
theorem capp (x y : Str) : (x ++ y).cps.toList = x.cps.toList ++ y.cps.toList := by
  show (x.cps ++ y.cps).toList = _
  rw [Array.toList_append]
theorem put_last (I : List Str) (w z : Str) : mPutL (.lst (strL (I ++ [w]))) (.int (-1)) (.str z) = some (.lst (strL (I ++ [z]))) := by
  have e : ∀ w, strL (I ++ [w]) = strL I ++ [.str w] := fun w => by unfold strL; rw [List.map_append]; rfl
  rw [e, e]
  have n : L2.ixN (strL I ++ [D.str w]).length (-1) = some (strL I).length := by
    unfold L2.ixN
    rw [List.length_append, List.length_singleton, if_neg (by omega), if_pos (by omega)]
    congr 1
    omega
  show (L2.ixN (strL I ++ [D.str w]).length (-1)).map (fun j => D.lst ((strL I ++ [D.str w]).set j (.str z))) = _
  rw [n, Option.map_some, List.set_append_right _ _ (Nat.le_refl _), Nat.sub_self]
  rfl
theorem last_ix (I : List Str) (w : Str) : opIx (.lst (strL (I ++ [w]))) (.int (-1)) = some (.fz (.str w)) := by
  have e : strL (I ++ [w]) = strL I ++ [.str w] := by unfold strL; rw [List.map_append]; rfl
  rw [opIx_l, e, L2.atI_last]
  rfl
def Fr (p : Str) : Prop := 32 ∉ p.cps.toList ∧ ∀ c ∈ p.cps.toList, c < 0x110000
theorem fr_e : Fr "" := ⟨by decide +kernel, by decide +kernel⟩
theorem fr_ok {p : Str} (h : Fr p) (hz : p.length ≤ 1000) : sOk p = true := by
  refine sOk_of (by show _ ≤ 16777216; omega) ?_
  rw [Array.all_eq_true_iff_forall_mem]
  intro c hc
  exact decide_eq_true (h.2 c (Array.mem_toList_iff.mpr hc))
theorem words_run (phi : String → List D → RC) (x : Str) (hx : x.length ≤ 1000) (hC : ∀ c ∈ x.cps.toList, c < 0x110000) : ∃ ws : List Str, T__law_words_of.run phi [.str x] = .ok true (.lst (strL ws)) [] ∧ Txt.split x " " = ws ∧ ws ≠ [] ∧ ws.length ≤ 1001 ∧ ∀ w ∈ ws, w.length ≤ 1000 ∧ sOk w = true := by
  have run : T__law_words_of.run phi [.str x] = finish [.r] (b__law_words_of phi [.bo (.str x), .no, .no]) := run_is rfl
  rw [run]
  unfold b__law_words_of
  have hl := len_list x
  rw [sSeq_e]
  simp [-sSeq_e]
  refine seq_for (ds := x.cps.toList.map fun c => D.str ⟨#[c]⟩) (e0 := [.bo (.str x), .ow (.lst (strL [("" : Str)])), .no]) (Q := fun r => ∃ ws : List Str, finish [.r] r = .ok true (.lst (strL ws)) [] ∧ Txt.split x " " = ws ∧ ws ≠ [] ∧ ws.length ≤ 1001 ∧ ∀ w ∈ ws, w.length ≤ 1000 ∧ sOk w = true) (by simp [strL])
    (fun i e => ∃ I w, e = [.bo (.str x), .ow (.lst (strL (I ++ [w]))), .no] ∧ (∀ p ∈ I ++ [w], Fr p) ∧ (Str.join " " (I ++ [w])).cps.toList = x.cps.toList.take i ∧ I.length ≤ i ∧ ∀ p ∈ I ++ [w], p.length ≤ i)
    ⟨[], "", rfl, fun p hp => by rw [List.mem_singleton.mp hp]; exact fr_e, rfl, Nat.zero_le _, fun p hp => by rw [List.mem_singleton.mp hp]; decide⟩ ?_ ?_
  · rintro R _ _ _ i d e hd ⟨I, w, rfl, h1, h2, h3, h4⟩
    rw [List.getElem?_map, Option.map_eq_some_iff] at hd
    obtain ⟨c, hc, rfl⟩ := hd
    have hi : i < x.cps.toList.length := (List.getElem?_eq_some_iff.mp hc).1
    refine ⟨_, rfl, ?_⟩
    have tk : x.cps.toList.take (i + 1) = x.cps.toList.take i ++ [c] := by rw [List.take_add_one, hc]; rfl
    have q := opEq_s ⟨#[c]⟩ " "
    by_cases hs : c = 32
    · subst hs
      rw [decide_eq_true (show (⟨#[32]⟩ : Str) = " " from rfl)] at q
      have ap : mAppend (.lst (strL (I ++ [w]))) [.str ""] = some (.lst (strL ((I ++ [w]) ++ [("" : Str)])), .fz .non) := by
        rw [mApp_l, if_pos (by rw [strL_len, List.length_append, List.length_singleton]; show _ < 16777216; omega)]
        unfold strL
        simp
      have il : isLst (.lst (strL (I ++ [w]))) = true := rfl
      have j := join_snoc (L := I ++ [w]) (by simp) ""
      generalize hX : strL (I ++ [w]) = X at *
      simp [q, ap, il]
      refine ⟨I ++ [w], ("" : Str), by simp, ?_, ?_, by simp; omega, ?_⟩
      · intro p hp
        rcases hp with hp | hp
        · exact h1 p hp
        · rw [hp]; exact fr_e
      · rw [j, capp, capp, h2, tk, List.append_assoc]
        rfl
      · intro p hp
        rcases hp with hp | hp
        · have := h4 p hp; omega
        · rw [hp]; exact Nat.zero_le _
    · have q0 : decide ((⟨#[c]⟩ : Str) = " ") = false := decide_eq_false fun e => hs (by
        have e := congrArg (fun z : Str => z.cps.toList) e
        exact (List.cons.inj e).1)
      rw [q0] at q
      have hw := h4 w (by simp)
      have ad : opAdd (.str w) (.str ⟨#[c]⟩) = some (.fz (.str (w ++ ⟨#[c]⟩))) := if_pos (by show w.length + 1 ≤ 16777216; omega)
      have ix := last_ix I w
      have pl := put_last I w (w ++ ⟨#[c]⟩)
      have il : isLst (.lst (strL (I ++ [w]))) = true := rfl
      have ng : opNeg (.int 1) = some (.fz (.int (-1))) := rfl
      have jl := join_last I w ⟨#[c]⟩
      have lw : (w ++ (⟨#[c]⟩ : Str)).length = w.length + 1 := by rw [str_len]; rfl
      have cw : (w ++ (⟨#[c]⟩ : Str)).cps.toList = w.cps.toList ++ [c] := by rw [capp]
      generalize hX : strL (I ++ [w]) = X at *
      generalize w ++ (⟨#[c]⟩ : Str) = w' at *
      simp [-opIx_l, -opAdd_s, q, ix, ng, ad, pl, il]
      refine ⟨I, w', rfl, ?_, ?_, by omega, ?_⟩
      · intro p hp
        rcases hp with hp | hp
        · exact h1 p (List.mem_append_left _ hp)
        · rw [hp]
          refine ⟨fun z => ?_, fun k z => ?_⟩
          · rw [cw] at z
            rcases List.mem_append.mp z with z | z
            · exact (h1 w (by simp)).1 z
            · exact hs (List.mem_singleton.mp z).symm
          · rw [cw] at z
            rcases List.mem_append.mp z with z | z
            · exact (h1 w (by simp)).2 k z
            · rw [List.mem_singleton.mp z]; exact hC c (List.mem_of_getElem? hc)
      · rw [jl, capp, h2, tk]
      · intro p hp
        rcases hp with hp | hp
        · have := h4 p (List.mem_append_left _ hp); omega
        · rw [hp, lw]; omega
  · rintro e ⟨I, w, rfl, h1, h2, h3, h4⟩
    rw [List.length_map, List.take_length] at *
    refine ⟨I ++ [w], by simp, ?_, by simp, by rw [List.length_append, List.length_singleton]; omega, fun p hp => ⟨by have := h4 p hp; omega, fr_ok (h1 p hp) (by have := h4 p hp; omega)⟩⟩
    have e : Txt.join " " (I ++ [w]) = x := by
      rw [TL.join_eq]
      have : ∀ a b : Str, a.cps.toList = b.cps.toList → a = b := fun a b h => by cases a; cases b; congr 1; exact Array.ext' h
      exact this _ _ h2
    have sp := TL.split_join (y := " ") (s := 32) (S := []) rfl (by decide +kernel) (parts := I ++ [w]) (by simp) fun p hp => (h1 p hp).1
    rw [e] at sp
    exact sp

end S3
namespace S3
open PySem
/-! k03: the step of the words -/
def partsW : List Str → List Part
  | [] => []
  | a :: r => if a = "close" then .s "close" :: ((r.take 1).map .s ++ [.t (r.drop 1)]) else .s a :: r.map .s
theorem parts_small {ws : List Str} (hz : ws.length ≤ 1001) (h : ∀ w ∈ ws, w.length ≤ 1000) : ∀ p ∈ partsW ws, Small p := by
  intro p hp
  cases ws with
  | nil => cases hp
  | cons a r =>
    rw [List.length_cons] at hz
    have hr : ∀ w ∈ r, w.length ≤ 1000 := fun w hw => h w (List.mem_cons_of_mem _ hw)
    have hp : p ∈ (if a = "close" then .s "close" :: ((r.take 1).map .s ++ [.t (r.drop 1)]) else .s a :: r.map .s) := hp
    by_cases c : a = "close"
    · rw [if_pos c] at hp
      rcases List.mem_cons.mp hp with rfl | hp
      · show Str.length "close" ≤ 1000; decide
      · rcases List.mem_append.mp hp with hp | hp
        · obtain ⟨w, hw, rfl⟩ := List.mem_map.mp hp
          exact hr w (List.mem_of_mem_take hw)
        · rw [List.mem_singleton.mp hp]
          exact ⟨by rw [List.length_drop]; omega, fun x hx => hr x (List.mem_of_mem_drop hx)⟩
    · rw [if_neg c] at hp
      rcases List.mem_cons.mp hp with rfl | hp
      · exact h a List.mem_cons_self
      · obtain ⟨w, hw, rfl⟩ := List.mem_map.mp hp
        exact hr w hw
theorem stD_s (xs : List Str) : stD (xs.map .s) = .tup (strL xs) := by
  unfold stD strL
  rw [List.map_map]
  rfl
theorem cut12 (a : Str) (r : List Str) : opCut (.lst (strL (a :: r))) (.int 1) (.int 2) = some (.nw (.lst (strL (r.take 1)))) := by
  show some (RV.nw (D.lst (cutD (strL (a :: r)) (some 1) (some 2)))) = _
  congr 3
  unfold cutD
  have n : (strL (a :: r)).length = r.length + 1 := by rw [strL_len, List.length_cons]
  have e1 : HT.sIx (strL (a :: r)).length 0 (some 1) = 1 := by
    rw [show (some (1 : Int)) = some ((1 : Nat) : Int) from rfl, HT.sIx_nat, n]
    omega
  have e2 : HT.sIx (strL (a :: r)).length (strL (a :: r)).length (some 2) = min 2 (r.length + 1) := by
    rw [show (some (2 : Int)) = some ((2 : Nat) : Int) from rfl, HT.sIx_nat, n]
    try omega
  rw [e1, e2]
  show (strL r).take (min 2 (r.length + 1) - 1) = _
  unfold strL
  rw [List.map_take]
  cases r with
  | nil => rfl
  | cons b r => rw [show min 2 ((b :: r).length + 1) - 1 = 1 by rw [List.length_cons]; omega]
theorem cutL2 (a : Str) (r : List Str) : opCutLo (.lst (strL (a :: r))) (.int 2) = some (.nw (.lst (strL (r.drop 1)))) := by
  show some (RV.nw (D.lst (cutD (strL (a :: r)) (some 2) none))) = _
  congr 3
  unfold cutD
  have n : (strL (a :: r)).length = r.length + 1 := by rw [strL_len, List.length_cons]
  have e1 : HT.sIx (strL (a :: r)).length 0 (some 2) = min 2 (r.length + 1) := by
    rw [show (some (2 : Int)) = some ((2 : Nat) : Int) from rfl, HT.sIx_nat, n]
    try omega
  have e2 : HT.sIx (strL (a :: r)).length (strL (a :: r)).length none = r.length + 1 := n
  rw [e1, e2]
  unfold strL
  cases r with
  | nil => rfl
  | cons b r =>
    rw [show min 2 ((b :: r).length + 1) = 2 by rw [List.length_cons]; omega]
    show (r.map D.str).take _ = _
    rw [List.take_of_length_le (by rw [List.length_map, List.length_cons]; omega)]
    rfl
theorem stepof_run (phi : String → List D → RC) {x : Str} {ws : List Str} (hx : x.length ≤ 1000) (hs : Txt.split x " " = ws) (hne : ws ≠ []) (hw : ∀ w ∈ ws, w.length ≤ 1000 ∧ sOk w = true) (hV : phi "valid_step" [stD (partsW ws)] = .ok false (.bl (stepB (partsW ws))) []) :
    T__step_of.run phi [.str x] = .ok false (if stepB (partsW ws) = true then stD (partsW ws) else .non) [] := by
  have run : T__step_of.run phi [.str x] = finish [.r] (b__step_of phi [.bo (.str x), .no, .no, .no]) := run_is rfl
  rw [run]
  unfold b__step_of
  have sp : opSpl " " (.str x) = some (.nw (.lst (strL ws))) := by
    show (if (Str.length " " == 0) = false ∧ x.length + 2 ≤ 16777216 ∧ (Txt.split x " ").all sOk = true then some (RV.nw (.lst ((Txt.split x " ").map .str))) else none) = _
    rw [hs, if_pos ⟨by decide, by omega, List.all_eq_true.mpr fun w h => (hw w h).2⟩]
    rfl
  cases ws with
  | nil => exact absurd rfl hne
  | cons a r =>
    have i0 : opIx (.lst (strL (a :: r))) (.int 0) = some (.fz (.str a)) := by rw [opIx_l, show L2.atI (strL (a :: r)) 0 = some (.str a) from atI_nat (by omega) rfl]; rfl
    have q := opEq_s a "close"
    have ot : ∀ xs, opTuple (.lst xs) = some (.fz (.tup xs)) := fun _ => rfl
    have k1 := cut12 a r
    have k2 := cutL2 a r
    by_cases c : a = "close"
    · subst c
      rw [decide_eq_true rfl] at q
      have hp : stD (partsW ("close" :: r)) = .tup (.str "close" :: (strL (r.take 1) ++ [.tup (strL (r.drop 1))])) := by
        have e : partsW ("close" :: r) = .s "close" :: ((r.take 1).map .s ++ [.t (r.drop 1)]) := by simp [partsW]
        rw [e]
        unfold stD strL
        rw [List.map_cons, List.map_append, List.map_map]
        rfl
      rw [hp] at hV ⊢
      have zl : (strL (r.take 1)).length + 1 + 1 ≤ 16777216 := by
        have : (r.take 1).length ≤ 1 := by rw [List.length_take]; omega
        rw [strL_len]; omega
      have fz : fzs ((strL (r.take 1)).map RV.fz ++ [RV.fz (.tup (strL (r.drop 1)))]) = some (strL (r.take 1) ++ [.tup (strL (r.drop 1))]) := by rw [fzs_app]; rfl
      generalize strL ("close" :: r) = X at *
      generalize strL (r.take 1) = X1 at *
      generalize strL (r.drop 1) = X2 at *
      generalize stepB (partsW ("close" :: r)) = b at *
      rw [sSeq_e]
      simp [-sSeq_e, sp]
      cases b <;> simp [-opIx_l, i0, q, k1, k2, ot, hV, fz, zl]
    · rw [decide_eq_false c] at q
      have hp : stD (partsW (a :: r)) = .tup (strL (a :: r)) := by
        have e : partsW (a :: r) = .s a :: r.map .s := by simp [partsW, c]
        rw [e]
        exact stD_s (a :: r)
      rw [hp] at hV ⊢
      generalize strL (a :: r) = X at *
      generalize stepB (partsW (a :: r)) = b at *
      rw [sSeq_e]
      simp [-sSeq_e, sp]
      cases b <;> simp [-opIx_l, i0, q, ot, hV]

end S3
namespace S3
open PySem
/-! k03: lines of TI and M2e -/
@[simp] theorem sTry_e (sub : Str → Bool) (i : Nat) (b h : SV) (e : Env) : sTry sub i b h e = match b e with
  | .ex x e1 => if xnm x.c then (if sub x.c then (match h (e1.set i (.fz (.xn x.c x.fs))) with
      | .nx e2 => .nx ((keepX e2).set i .no)
      | .bk e2 => .bk ((keepX e2).set i .no)
      | .ct e2 => .ct ((keepX e2).set i .no)
      | .rt (.fz d) e2 => if xfree 12 d then .rt (.fz d) (keepX e2) else .no
      | .rt (.nw d) e2 => if xfree 12 d then .rt (.nw d) (keepX e2) else .no
      | _ => .no) else .ex x e1) else .no
  | r => r := rfl
theorem okD_part (n : Nat) (p : Part) : okD (n + 1) (pD p) = true := by
  cases p with
  | s x => rfl
  | t xs => exact all_strL xs n
theorem okD_st (ps : List Part) : okD 6 (stD ps) = true := by
  show (ps.map pD).all (okD 5) = true
  rw [List.all_map, List.all_eq_true]
  exact fun p _ => okD_part 4 p
theorem eqv_self : ∀ (n : Nat) (p : Part), PyData.eqv (py (n + 1) (pD p)) (py (n + 1) (pD p)) = true := fun n p => by
  cases p with
  | s x => show PyData.eqv (.str x) (.str x) = true; rw [eqv_ss]; exact decide_eq_true rfl
  | t xs =>
    show PyData.eqv (.tuple ((strL xs).map (py n))) (.tuple ((strL xs).map (py n))) = true
    have : PyData.eqvAll ((strL xs).map (py n)) ((strL xs).map (py n)) = true := by
      induction xs with
      | nil => rfl
      | cons x xs ih =>
        have hx : py n (.str x) = .str x := by cases n <;> rfl
        show (PyData.eqv (py n (.str x)) (py n (.str x)) && PyData.eqvAll ((strL xs).map (py n)) ((strL xs).map (py n))) = true
        rw [ih, hx, eqv_ss]
        simp
    unfold PyData.eqv
    exact this
theorem opEq_st (ps : List Part) : opEq (stD ps) (stD ps) = some (.fz (.bl true)) := by
  have : PyData.eqv (py 6 (stD ps)) (py 6 (stD ps)) = true := by
    show PyData.eqv (.tuple ((ps.map pD).map (py 5))) (.tuple ((ps.map pD).map (py 5))) = true
    have : PyData.eqvAll ((ps.map pD).map (py 5)) ((ps.map pD).map (py 5)) = true := by
      induction ps with
      | nil => rfl
      | cons p ps ih =>
        show (PyData.eqv (py 5 (pD p)) (py 5 (pD p)) && PyData.eqvAll ((ps.map pD).map (py 5)) ((ps.map pD).map (py 5))) = true
        rw [ih, eqv_self 4 p]
        rfl
    unfold PyData.eqv
    exact this
  unfold opEq dEq
  rw [okD_st]
  simp [this, bRV]
theorem addTx (x y : Str) (h : x.length + y.length ≤ 16777216) : opAdd (.str x) (.str y) = some (.fz (.str (x ++ y))) := if_pos h
theorem textof_run (phi : String → List D → RC) {ps : List Part} (hp : ∀ p ∈ ps, Small p) (c : stepB ps = true) : T__law_text_of.run phi [stD ps] = .ok false (.str (Str.join " " (flat ps))) [] := by
  rw [run_is rfl]
  show finish [.r] (b__law_text_of phi [.bo (stD ps), .no, .no]) = _
  unfold b__law_text_of
  have e1 : (" " : Str).length = 1 := rfl
  rcases step_form c with ⟨w, p, rfl, hw, h1⟩ | ⟨p, q, rfl, h1, h2⟩ | ⟨p, xs, rfl, h1, h2⟩
  · have a0 : L2.atI [D.str w, D.str p] 0 = some (.str w) := atI_nat (by decide) rfl
    have a1 : L2.atI [D.str w, D.str p] 1 = some (.str p) := atI_nat (by decide) rfl
    have nr : ¬ w = "read" := by rcases hw with hw | hw <;> rw [hw] <;> decide
    have nc : ¬ w = "close" := by rcases hw with hw | hw <;> rw [hw] <;> decide
    have wl : w.length ≤ 8 := by rcases hw with hw | hw <;> rw [hw] <;> decide
    have pl := vn_len h1
    have k1 : opAdd (.str w) (.str " ") = some (.fz (.str (w ++ " "))) := addTx _ _ (by rw [e1]; omega)
    have k2 : opAdd (.str (w ++ " ")) (.str p) = some (.fz (.str (w ++ " " ++ p))) := addTx _ _ (by rw [str_len, e1]; omega)
    show finish [.r] (sSeq _ _ [.bo (.tup [D.str w, D.str p]), .no, .no]) = _
    rw [sSeq_e]
    simp [-sSeq_e, a0, a1, k1, k2]
    rw [sSeq_e]
    simp [-sSeq_e, a0, opEq_s, nr]
    rw [sSeq_e]
    simp [-sSeq_e, a0, opEq_s, nc, flat]
    rfl
  · have a0 : L2.atI [D.str "read", D.str p, D.str q] 0 = some (.str "read") := atI_nat (by decide) rfl
    have a1 : L2.atI [D.str "read", D.str p, D.str q] 1 = some (.str p) := atI_nat (by decide) rfl
    have a2 : L2.atI [D.str "read", D.str p, D.str q] 2 = some (.str q) := atI_nat (by decide) rfl
    have nc : ¬ ("read" : Str) = "close" := by decide
    have pl := vn_len h1
    have ql := vn_len h2
    have rl : ("read" : Str).length = 4 := by decide
    have k1 : opAdd (.str "read") (.str " ") = some (.fz (.str ("read" ++ " "))) := addTx _ _ (by rw [rl, e1]; decide)
    have k2 : opAdd (.str ("read" ++ " ")) (.str p) = some (.fz (.str ("read" ++ " " ++ p))) := addTx _ _ (by rw [str_len, e1, rl]; omega)
    have k3 : opAdd (.str ("read" ++ " " ++ p)) (.str " ") = some (.fz (.str ("read" ++ " " ++ p ++ " "))) := addTx _ _ (by rw [str_len, str_len, e1, rl]; omega)
    have k4 : opAdd (.str ("read" ++ " " ++ p ++ " ")) (.str q) = some (.fz (.str ("read" ++ " " ++ p ++ " " ++ q))) := addTx _ _ (by rw [str_len, str_len, str_len, e1, rl]; omega)
    show finish [.r] (sSeq _ _ [.bo (.tup [D.str "read", D.str p, D.str q]), .no, .no]) = _
    rw [sSeq_e]
    simp [-sSeq_e, a0, a1, k1, k2]
    rw [sSeq_e]
    simp [-sSeq_e, a0, a2, opEq_s, k3, k4]
    rw [sSeq_e]
    simp [-sSeq_e, a0, opEq_s, nc, flat, join_jf, jf]
  · have a0 : L2.atI [D.str "close", D.str p, D.tup (strL xs)] 0 = some (.str "close") := atI_nat (by decide) rfl
    have a1 : L2.atI [D.str "close", D.str p, D.tup (strL xs)] 1 = some (.str p) := atI_nat (by decide) rfl
    have a2 : L2.atI [D.str "close", D.str p, D.tup (strL xs)] 2 = some (.tup (strL xs)) := atI_nat (by decide) rfl
    have nr : ¬ ("close" : Str) = "read" := by decide
    have pl := vn_len h1
    have rl : ("close" : Str).length = 5 := by decide
    have hz : xs.length ≤ 1000 := (hp (.t xs) (by simp)).1
    have k1 : opAdd (.str "close") (.str " ") = some (.fz (.str ("close" ++ " "))) := addTx _ _ (by rw [rl, e1]; decide)
    have k2 : opAdd (.str ("close" ++ " ")) (.str p) = some (.fz (.str ("close" ++ " " ++ p))) := addTx _ _ (by rw [str_len, e1, rl]; omega)
    have il : ∀ i, i ≤ xs.length → (jf ("close" ++ " " ++ p) (xs.take i)).length ≤ 14 + 9 * i := fun i => by
      induction i with
      | zero => intro _; show ("close" ++ " " ++ p : Str).length ≤ _; rw [str_len, str_len, rl, e1]; omega
      | succ i ih =>
        intro hi
        have hc : xs[i]? = some xs[i] := List.getElem?_eq_getElem (by omega)
        have hx := vn_len (h2 xs[i] (List.getElem_mem (by omega)))
        rw [List.take_add_one, hc]
        show (jf _ (xs.take i ++ [xs[i]])).length ≤ _
        unfold jf at ih ⊢
        rw [List.foldl_append]
        show (List.foldl _ _ (xs.take i) ++ " " ++ xs[i] : Str).length ≤ _
        rw [str_len, str_len, e1]
        have := ih (by omega)
        omega
    show finish [.r] (sSeq _ _ [.bo (.tup [D.str "close", D.str p, D.tup (strL xs)]), .no, .no]) = _
    rw [sSeq_e]
    simp [-sSeq_e, a0, a1, k1, k2]
    rw [sSeq_e]
    simp [-sSeq_e, a0, opEq_s, nr]
    rw [sSeq_e]
    simp [-sSeq_e, -sFor_e, a0, opEq_s]
    have hw : wAny (eOp2 opIx (eSlot 0) (eC (.int 2))) [.bo (.tup [D.str "close", D.str p, D.tup (strL xs)]), .fz (.str ("close" ++ " " ++ p)), .no] = .ok (strL xs) [.bo (.tup [D.str "close", D.str p, D.tup (strL xs)]), .fz (.str ("close" ++ " " ++ p)), .no] := by simp [a2]
    rw [← sSeq_e]
    refine seq_for (Q := fun r => finish [Md.r] r = .ok false (.str (Str.join " " (flat [.s "close", .s p, .t xs]))) []) hw (fun i e => e = [.bo (.tup [D.str "close", D.str p, D.tup (strL xs)]), .fz (.str (jf ("close" ++ " " ++ p) (xs.take i))), .no]) (by rfl) ?_ ?_
    · rintro R _ _ _ i d e hd rfl
      unfold strL at hd
      rw [List.getElem?_map, Option.map_eq_some_iff] at hd
      obtain ⟨x, hx, rfl⟩ := hd
      refine ⟨_, rfl, ?_⟩
      have hi : i < xs.length := (List.getElem?_eq_some_iff.mp hx).1
      have hxl := vn_len (h2 x (List.mem_of_getElem? hx))
      have hl := il i (by omega)
      have ht : jf ("close" ++ " " ++ p) (xs.take (i + 1)) = jf ("close" ++ " " ++ p) (xs.take i) ++ " " ++ x := by
        rw [List.take_add_one, hx]
        show jf _ (xs.take i ++ [x]) = _
        unfold jf
        rw [List.foldl_append]
        rfl
      rw [ht]
      generalize jf ("close" ++ " " ++ p) (xs.take i) = T at hl
      have m1 := addTx T " " (by rw [e1]; omega)
      have m2 := addTx (T ++ " ") x (by rw [str_len, e1]; omega)
      simp [m1, m2]
    · rintro e rfl
      have : (strL xs).length = xs.length := strL_len xs
      rw [this, List.take_length]
      simp [flat, join_jf]
      rfl

end S3
namespace S3
open PySem
theorem parsed_run (phi : String → List D → RC) {x : Str} {ws : List Str} (hne : ws ≠ []) (hz : ws.length ≤ 1001) (hW : phi "_law_words_of" [.str x] = .ok true (.lst (strL ws)) []) (hV : phi "_law_is_step" [stD (partsW ws)] = .ok false (.bl (stepB (partsW ws))) []) :
    T__law_parsed.run phi [.str x] = .ok false (if stepB (partsW ws) = true then stD (partsW ws) else .non) [] := by
  have run : T__law_parsed.run phi [.str x] = finish [.r] (b__law_parsed phi [.bo (.str x), .no, .no]) := run_is rfl
  rw [run]
  unfold b__law_parsed
  cases ws with
  | nil => exact absurd rfl hne
  | cons a r =>
    have i0 : opIx (.lst (strL (a :: r))) (.int 0) = some (.fz (.str a)) := by rw [opIx_l, show L2.atI (strL (a :: r)) 0 = some (.str a) from atI_nat (by omega) rfl]; rfl
    have q := opEq_s a "close"
    have ot : ∀ xs, opTuple (.lst xs) = some (.fz (.tup xs)) := fun _ => rfl
    have k1 := cut12 a r
    have k2 := cutL2 a r
    by_cases c : a = "close"
    · subst c
      rw [decide_eq_true rfl] at q
      have hp : stD (partsW ("close" :: r)) = .tup (.str "close" :: (strL (r.take 1) ++ [.tup (strL (r.drop 1))])) := by
        have e : partsW ("close" :: r) = .s "close" :: ((r.take 1).map .s ++ [.t (r.drop 1)]) := by simp [partsW]
        rw [e]
        unfold stD strL
        rw [List.map_cons, List.map_append, List.map_map]
        rfl
      rw [hp] at hV ⊢
      have zl : (strL (r.take 1)).length ≤ 1 := by
        rw [strL_len, List.length_take]; omega
      generalize strL ("close" :: r) = X at *
      generalize strL (r.take 1) = X1 at *
      generalize strL (r.drop 1) = X2 at *
      generalize stepB (partsW ("close" :: r)) = b at *
      have a1 : opAdd (.tup [.str "close"]) (.tup X1) = some (.fz (.tup ([.str "close"] ++ X1))) := if_pos (by show 1 + X1.length ≤ 16777216; omega)
      have a2 : opAdd (.tup ([.str "close"] ++ X1)) (.tup [.tup X2]) = some (.fz (.tup (([.str "close"] ++ X1) ++ [.tup X2]))) := if_pos (by rw [List.length_append]; show 1 + X1.length + 1 ≤ 16777216; omega)
      have e : ([D.str "close"] ++ X1) ++ [.tup X2] = .str "close" :: (X1 ++ [.tup X2]) := rfl
      rw [e] at a2
      generalize [D.str "close"] ++ X1 = Y at *
      rw [sSeq_e]
      simp [-sSeq_e, hW]
      cases b <;> simp [-opIx_l, i0, q, k1, k2, ot, hV, a1, a2]
    · rw [decide_eq_false c] at q
      have hp : stD (partsW (a :: r)) = .tup (strL (a :: r)) := by
        have e : partsW (a :: r) = .s a :: r.map .s := by simp [partsW, c]
        rw [e]
        exact stD_s (a :: r)
      rw [hp] at hV ⊢
      generalize strL (a :: r) = X at *
      generalize stepB (partsW (a :: r)) = b at *
      rw [sSeq_e]
      simp [-sSeq_e, hW]
      cases b <;> simp [-opIx_l, i0, q, ot, hV]
end S3
namespace S3
open PySem
/-! k04: levels, lines -/
theorem noEx_ok {phi : List D → RC} {ds : List D} {n : Bool} {d : D} {o : List D} (h : phi ds = .ok n d o) : noEx phi ds = .ok n d o := by unfold noEx; rw [h]
theorem st3 (k : Nat) (g : String) (T : Def) (h : tab g = some T) : sem tab (k + 1) g = T.run (sem tab k) := by funext ds; simp only [sem, h]
theorem vname3 (n : Nat) (x : Str) (h : x.length ≤ 1000) : sem tab (n + 1) "valid_name" [.str x] = .ok false (.bl (vn x)) [] := by
  rw [st3 n _ T_valid_name rfl]; exact valid_name_run _ x h
theorem isn3 (n : Nat) (p : Part) (h : Small p) : sem tab (n + 2) "_is_name" [pD p] = .ok false (.bl (nmP p)) [] := by
  rw [st3 (n + 1) _ T__is_name rfl]; exact isname_run _ (fun x hx => vname3 n x hx) h
theorem ths3 (n : Nat) (p : Part) (h : Small p) : sem tab (n + 3) "_are_things" [pD p] = .ok false (.bl (thP p)) [] := by
  rw [st3 (n + 2) _ T__are_things rfl]; exact things_run _ (fun q hq => isn3 n q hq) h
theorem vst3 (n : Nat) (qs : List Part) (h : ∀ p ∈ qs, Small p) : sem tab (n + 4) "valid_step" [stD qs] = .ok false (.bl (stepB qs)) [] := by
  rw [st3 (n + 3) _ T_valid_step rfl]; exact valid_run _ (fun p hp => isn3 (n + 1) p hp) (fun p hp => ths3 n p hp) h
theorem lst3 (n : Nat) (qs : List Part) (h : ∀ p ∈ qs, Small p) : sem tab (n + 2) "_law_is_step" [stD qs] = .ok false (.bl (stepB qs)) [] := by
  rw [st3 (n + 1) _ T__law_is_step rfl]; exact lawstep_run _ (fun p hp => noEx_ok (by rw [st3 n _ T__law_is_name rfl]; exact lawname_run _ hp)) h
/-- a line that is short and of real signs -/
structure LineOk (x : Str) : Prop where
  len : x.length ≤ 1000
  ok : sOk x = true
def psL (l : Str) : List Part := partsW (Txt.split l " ")
def okL (l : Str) : Bool := stepB (psL l)
def pdL (l : Str) : D := if okL l = true then stD (psL l) else .non
theorem line_at (n : Nat) {x : Str} (h : LineOk x) : sem tab (n + 3) "_law_parsed" [.str x] = .ok false (pdL x) [] ∧ sem tab (n + 5) "_step_of" [.str x] = .ok false (pdL x) [] ∧ ∀ p ∈ psL x, Small p := by
  have hC : ∀ c ∈ x.cps.toList, c < 0x110000 := fun c hc => by
    have := sOk_cps h.ok
    rw [Array.all_eq_true_iff_forall_mem] at this
    exact of_decide_eq_true (this c (Array.mem_toList_iff.mp hc))
  obtain ⟨ws, w1, w2, w3, w4, w5⟩ := words_run (sem tab (n + 1)) x h.len hC
  have sm := parts_small w4 fun w hw => (w5 w hw).1
  have e : psL x = partsW ws := by unfold psL; rw [w2]
  unfold pdL okL
  rw [e]
  refine ⟨?_, ?_, sm⟩
  · rw [st3 (n + 2) _ T__law_parsed rfl]
    refine parsed_run _ w3 w4 ?_ (lst3 n _ sm)
    rw [st3 (n + 1) _ T__law_words_of rfl]
    exact w1
  · rw [st3 (n + 4) _ T__step_of rfl]
    exact stepof_run _ h.len w2 w3 w5 (vst3 n _ sm)

end S3
namespace S3
open PySem
/-! k03: the step drawn -/
structure GoodP (ps : List Part) : Prop where
  st : stepB ps = true
  sm : ∀ q ∈ ps, Small q
  two : ∃ w p tail, ps = .s w :: .s p :: tail ∧ w.length ≤ 8 ∧ p.length ≤ 8 ∧ 1 ≤ w.length ∧ sOk w = true ∧ sOk p = true
  fl : (flat ps).length ≤ 10
  fx : ∀ x ∈ flat ps, x.length ≤ 8 ∧ x.cps.all (· < 128) = true
theorem vn_ascii {x : Str} (h : vn x = true) : x.cps.all (· < 128) = true := by
  unfold vn at h
  simp only [Bool.and_eq_true] at h
  rw [Array.all_eq_true_iff_forall_mem]
  intro c hc
  have h2 := List.all_eq_true.mp h.2 c (Array.mem_toList_iff.mpr hc)
  have hL : ∀ c ∈ LET.cps.toList, c < 128 := by decide +kernel
  have hD : ∀ c ∈ DIG.cps.toList, c < 128 := by decide +kernel
  rw [Bool.or_eq_true] at h2
  refine decide_eq_true ?_
  rcases h2 with h2 | h2
  · exact hL c (of_decide_eq_true h2)
  · exact hD c (of_decide_eq_true h2)
theorem ascii_ok {x : Str} (h : x.cps.all (· < 128) = true) (hz : x.length ≤ 1000) : sOk x = true := by
  refine sOk_of (by show _ ≤ 16777216; omega) ?_
  rw [Array.all_eq_true_iff_forall_mem] at h ⊢
  intro c hc
  have := of_decide_eq_true (h c hc)
  exact decide_eq_true (by omega)
theorem good2 {w p : Str} (hw : w = "begin" ∨ w = "quit") (hp : vn p = true) : GoodP [.s w, .s p] := by
  have p8 := vn_len hp
  have wl : w.length ≤ 8 ∧ 1 ≤ w.length ∧ w.cps.all (· < 128) = true := by rcases hw with rfl | rfl <;> decide +kernel
  refine ⟨?_, ?_, ⟨w, p, [], rfl, wl.1, p8, wl.2.1, ascii_ok wl.2.2 (by omega), ascii_ok (vn_ascii hp) (by omega)⟩, by show 2 ≤ 10; omega, ?_⟩
  · show ((decide (w = "begin") || decide (w = "quit")) && vn p) = true
    rw [hp, Bool.and_true, Bool.or_eq_true, decide_eq_true_iff, decide_eq_true_iff]
    exact hw
  · intro q hq
    simp only [List.mem_cons, List.not_mem_nil, or_false] at hq
    rcases hq with rfl | rfl
    · show w.length ≤ 1000; omega
    · show p.length ≤ 1000; omega
  · intro x hx
    have hx : x ∈ [w, p] := hx
    simp only [List.mem_cons, List.not_mem_nil, or_false] at hx
    rcases hx with rfl | rfl
    · exact ⟨wl.1, wl.2.2⟩
    · exact ⟨p8, vn_ascii hp⟩
theorem good3 {p q : Str} (hp : vn p = true) (hq : vn q = true) : GoodP [.s "read", .s p, .s q] := by
  have p8 := vn_len hp
  have q8 := vn_len hq
  refine ⟨?_, ?_, ⟨"read", p, [.s q], rfl, by decide +kernel, p8, by decide +kernel, by decide +kernel, ascii_ok (vn_ascii hp) (by omega)⟩, by show 3 ≤ 10; omega, ?_⟩
  · show (vn p && vn q) = true
    rw [hp, hq]; rfl
  · intro r hr
    simp only [List.mem_cons, List.not_mem_nil, or_false] at hr
    rcases hr with rfl | rfl | rfl
    · show Str.length "read" ≤ 1000; decide
    · show p.length ≤ 1000; omega
    · show q.length ≤ 1000; omega
  · intro x hx
    have hx : x ∈ [("read" : Str), p, q] := hx
    simp only [List.mem_cons, List.not_mem_nil, or_false] at hx
    rcases hx with rfl | rfl | rfl
    · decide +kernel
    · exact ⟨p8, vn_ascii hp⟩
    · exact ⟨q8, vn_ascii hq⟩
theorem goodC {p : Str} {ts : List Str} (hp : vn p = true) (ht : ∀ u ∈ ts, vn u = true) (nd : ts.Nodup) (hz : ts.length ≤ 7) : GoodP [.s "close", .s p, .t ts] := by
  have p8 := vn_len hp
  have fe : flat [.s "close", .s p, .t ts] = ("close" : Str) :: p :: ts := by show ("close" : Str) :: p :: (ts ++ []) = _; rw [List.append_nil]
  refine ⟨?_, ?_, ⟨"close", p, [.t ts], rfl, by decide +kernel, p8, by decide +kernel, by decide +kernel, ascii_ok (vn_ascii hp) (by omega)⟩, by rw [fe, List.length_cons, List.length_cons]; omega, ?_⟩
  · show (if ("close" : Str) = "read" then (vn p && false) else if ("close" : Str) = "close" then (vn p && (ts.all vn && decide ts.Nodup)) else false) = true
    rw [if_neg (by decide +kernel), if_pos rfl, hp, decide_eq_true nd, List.all_eq_true.mpr ht]
    rfl
  · intro r hr
    simp only [List.mem_cons, List.not_mem_nil, or_false] at hr
    rcases hr with rfl | rfl | rfl
    · show Str.length "close" ≤ 1000; decide
    · show p.length ≤ 1000; omega
    · exact ⟨by omega, fun x hx => by have := vn_len (ht x hx); omega⟩
  · intro x hx
    rw [fe] at hx
    rcases List.mem_cons.mp hx with rfl | hx
    · decide +kernel
    · rcases List.mem_cons.mp hx with rfl | hx
      · exact ⟨p8, vn_ascii hp⟩
      · exact ⟨vn_len (ht x hx), vn_ascii (ht x hx)⟩
def nmT (f t s : Int) (n : Nat) : List Str := (List.range n).map fun k : Nat => nm5 (f + k * t) s
theorem nmT_vn {f t s : Int} {n : Nat} (f0 : 0 ≤ f) (f1 : f ≤ 2) (t1 : 1 ≤ t) (t2 : t ≤ 2) (s0 : 0 ≤ s) (hn : n ≤ 7) : (∀ u ∈ nmT f t s n, vn u = true) ∧ (nmT f t s n).Nodup ∧ (nmT f t s n).length ≤ 7 := by
  have t12 : t = 1 ∨ t = 2 := by omega
  refine ⟨fun u hu => ?_, ?_, by unfold nmT; rw [List.length_map, List.length_range]; exact hn⟩
  · unfold nmT at hu
    obtain ⟨k, hk, rfl⟩ := List.mem_map.mp hu
    have := List.mem_range.mp hk
    rcases t12 with rfl | rfl <;> exact nm5_vn (by omega) (by omega) s0
  · unfold nmT
    refine List.pairwise_map.mpr ((List.nodup_range (n := n)).imp_of_mem fun {a b} ha hb hne e => hne ?_)
    have ha := List.mem_range.mp ha
    have hb := List.mem_range.mp hb
    rcases t12 with rfl | rfl
    · have := nm5_inj (by omega) (by omega) (by omega) (by omega) s0 e
      omega
    · have := nm5_inj (by omega) (by omega) (by omega) (by omega) s0 e
      omega
theorem gs_body (phi : String → List D → RC) {d s i t M : Int} {X : List D} {nn : Str} {s2 : Sl} (hm : opMul (.int i) (.int t) = some (.fz (.int M))) (hn : phi "_law_named" [.int (d / 128 % 3 + M), .int s] = .ok false (.str nn) []) (hz : X.length ≤ 7) :
    (sSet 4 (eOp2 opAdd (eSlot 4) (eDisp mkTup (aKeep (eCall (phi "_law_named") [.r, .r] (aCons (eOp2 opAdd (eOp2 opMod (eOp2 opDiv (eOp1 opInt (eSlot 0)) (eC (.int 128))) (eC (.int 3))) (eOp2 opMul (eSlot 5) (eSlot 3))) (aCons (eSlot 1) (aNil)))) (aNil))))) [.bo (.int d), .bo (.int s), s2, .fz (.int t), .fz (.tup X), .fz (.int i)] = .nx [.bo (.int d), .bo (.int s), s2, .fz (.int t), .fz (.tup (X ++ [.str nn])), .fz (.int i)] := by
  have ad : opAdd (.tup X) (.tup [.str nn]) = some (.fz (.tup (X ++ [.str nn]))) := if_pos (by show X.length + 1 ≤ 16777216; omega)
  simp [-opMul_i, hm, hn, ad]
theorem good_run (phi : String → List D → RC) {d s : Int} (d0 : 0 ≤ d) (s0 : 0 ≤ s) (s1 : s < 65536) (hN : ∀ k s : Int, 0 ≤ k → k < 30 → 0 ≤ s → s < 65536 → phi "_law_named" [.int k, .int s] = .ok false (.str (nm5 k s)) []) :
    ∃ ps, GoodP ps ∧ T__law_good_step.run phi [.int d, .int s] = .ok false (stD ps) [] := by
  have run : T__law_good_step.run phi [.int d, .int s] = finish [.r, .r] (b__law_good_step phi [.bo (.int d), .bo (.int s), .no, .no, .no, .no]) := run_is rfl
  rw [run]
  unfold b__law_good_step
  have n1 := hN (d / 4 % 12) s (by omega) (by omega) s0 s1
  have v1 : vn (nm5 (d / 4 % 12) s) = true := nm5_vn (by omega) (by omega) s0
  have n2 := hN (d / 64 % 12) s (by omega) (by omega) s0 s1
  have v2 : vn (nm5 (d / 64 % 12) s) = true := nm5_vn (by omega) (by omega) s0
  have q0 := opEq_i (d % 4) 0
  have q1 := opEq_i (d % 4) 1
  have q3 := opEq_i (d % 4) 3
  have q8 := opEq_i (d / 64 % 8) 0
  rw [sSeq_e]
  simp [-sSeq_e, n1]
  by_cases c0 : d % 4 = 0
  · rw [decide_eq_true c0] at q0
    refine ⟨_, good2 (.inl rfl) v1, ?_⟩
    rw [sSeq_e]
    simp [-sSeq_e, q0, stD, pD]
  rw [decide_eq_false c0] at q0
  by_cases c1 : d % 4 = 1
  · rw [decide_eq_true c1] at q1
    refine ⟨_, good3 v1 v2, ?_⟩
    rw [sSeq_e]
    simp [-sSeq_e, q0]
    rw [sSeq_e]
    simp [-sSeq_e, q1, n2, stD, pD]
  rw [decide_eq_false c1] at q1
  rw [sSeq_e]
  simp [-sSeq_e, q0]
  rw [sSeq_e]
  simp [-sSeq_e, q1]
  have close : ∀ e : RS, e = (sSeq (sSet 3 (eOp2 opAdd (eC (.int 1)) (eOp2 opMod (eOp2 opDiv (eOp1 opInt (eSlot 0)) (eC (.int 64))) (eC (.int 2))))) (sSeq (sSet 4 (eDisp mkTup (aNil))) (sSeq (sFor [5] (.one 5) (wR1 (eOp2 opMod (eOp2 opDiv (eOp1 opInt (eSlot 0)) (eC (.int 512))) (eC (.int 7)))) (sSet 4 (eOp2 opAdd (eSlot 4) (eDisp mkTup (aKeep (eCall (phi "_law_named") [.r, .r] (aCons (eOp2 opAdd (eOp2 opMod (eOp2 opDiv (eOp1 opInt (eSlot 0)) (eC (.int 128))) (eC (.int 3))) (eOp2 opMul (eSlot 5) (eSlot 3))) (aCons (eSlot 1) (aNil)))) (aNil)))))) (sRet (eDisp mkTup (aKeep (eC (.str "close")) (aKeep (eSlot 2) (aKeep (eSlot 4) (aNil)))))))))
      [.bo (.int d), .bo (.int s), .fz (.str (nm5 (d / 4 % 12) s)), .no, .no, .no] → ∃ ps, GoodP ps ∧ finish [.r, .r] e = .ok false (stD ps) [] := by
    rintro _ rfl
    obtain ⟨t1, t2, t3⟩ := nmT_vn (f := d / 128 % 3) (t := 1 + d / 64 % 2) (s := s) (n := (d / 512 % 7).toNat) (by omega) (by omega) (by omega) (by omega) s0 (by omega)
    refine ⟨_, goodC v1 t1 t2 t3, ?_⟩
    rw [sSeq_e]
    simp [-sSeq_e]
    rw [sSeq_e]
    simp [-sSeq_e]
    have b1 : -4611686018427387904 ≤ d / 512 % 7 := by omega
    have b2 : d / 512 % 7 < 4611686018427387904 := by omega
    refine seq_for (ds := rng 0 (d / 512 % 7)) (e0 := [.bo (.int d), .bo (.int s), .fz (.str (nm5 (d / 4 % 12) s)), .fz (.int (1 + d / 64 % 2)), .fz (.tup (strL (nmT (d / 128 % 3) (1 + d / 64 % 2) s 0))), .no]) (Q := fun r => finish [.r, .r] r = .ok false (stD [.s "close", .s (nm5 (d / 4 % 12) s), .t (nmT (d / 128 % 3) (1 + d / 64 % 2) s (d / 512 % 7).toNat)]) []) (by simp [b1, b2]; rfl)
      (fun i e => e = [.bo (.int d), .bo (.int s), .fz (.str (nm5 (d / 4 % 12) s)), .fz (.int (1 + d / 64 % 2)), .fz (.tup (strL (nmT (d / 128 % 3) (1 + d / 64 % 2) s i))), .no]) rfl ?_ ?_
    · rintro R _ _ _ i x e hd rfl
      obtain ⟨rfl, hi⟩ := rng0_get hd
      refine ⟨_, rfl, ?_⟩
      have sn : strL (nmT (d / 128 % 3) (1 + d / 64 % 2) s (i + 1)) = strL (nmT (d / 128 % 3) (1 + d / 64 % 2) s i) ++ [.str (nm5 (d / 128 % 3 + i * (1 + d / 64 % 2)) s)] := by
        unfold nmT strL
        rw [List.range_succ, List.map_append, List.map_append]
        rfl
      have zl : (strL (nmT (d / 128 % 3) (1 + d / 64 % 2) s i)).length ≤ 7 := by
        rw [strL_len]; unfold nmT; rw [List.length_map, List.length_range]; omega
      rw [sn]
      have tt : 1 + d / 64 % 2 = 1 ∨ 1 + d / 64 % 2 = 2 := by omega
      have rg : 0 ≤ d / 128 % 3 + (i : Int) * (1 + d / 64 % 2) ∧ d / 128 % 3 + (i : Int) * (1 + d / 64 % 2) < 30 := by
        rcases tt with e | e <;> rw [e] <;> omega
      have h := hN (d / 128 % 3 + (i : Int) * (1 + d / 64 % 2)) s rg.1 rg.2 s0 s1
      have mu : opMul (.int i) (.int (1 + d / 64 % 2)) = some (.fz (.int ((i : Int) * (1 + d / 64 % 2)))) := by
        rw [opMul_i, if_pos (Or.inr (by omega))]
      show turnP _ _ _ (sSet 4 _ _)
      simp only [List.set_cons_succ, List.set_cons_zero]
      rw [gs_body phi mu h zl]
      rfl
    · rintro e rfl
      rw [rng_len]
      simp [stD, pD]
  by_cases c3 : d % 4 = 3
  · rw [decide_eq_true c3] at q3
    by_cases c8 : d / 64 % 8 = 0
    · rw [decide_eq_true c8] at q8
      refine ⟨_, good2 (.inr rfl) v1, ?_⟩
      rw [sSeq_e]
      simp [-sSeq_e, q3, q8, stD, pD]
    · rw [decide_eq_false c8] at q8
      rw [sSeq_e]
      simp [-sSeq_e, q3, q8]
      exact close _ rfl
  · rw [decide_eq_false c3] at q3
    rw [sSeq_e]
    simp [-sSeq_e, q3]
    exact close _ rfl

end S3
namespace S3
open PySem
/-! k03: the text of the step drawn; lists of good lines -/
def Asc (n : Nat) (x : Str) : Prop := x.length ≤ n ∧ x.cps.all (· < 128) = true
theorem Asc.line {n : Nat} {x : Str} (h : Asc n x) (hn : n ≤ 1000) : LineOk x := ⟨by have := h.1; omega, ascii_ok h.2 (by have := h.1; omega)⟩
theorem Asc.app {n m : Nat} {x y : Str} (hx : Asc n x) (hy : Asc m y) : Asc (n + m) (x ++ y) := by
  refine ⟨by rw [str_len]; have := hx.1; have := hy.1; omega, ?_⟩
  show (x.cps ++ y.cps).all _ = true
  rw [Array.all_append, hx.2, hy.2]; rfl
theorem Asc.le {n m : Nat} {x : Str} (h : Asc n x) (hn : n ≤ m) : Asc m x := ⟨by have := h.1; omega, h.2⟩
theorem asc_join : ∀ {xs : List Str}, (∀ x ∈ xs, x.length ≤ 8 ∧ x.cps.all (· < 128) = true) → Asc (9 * xs.length) (Str.join " " xs)
  | [], _ => ⟨Nat.le_refl _, by decide +kernel⟩
  | [x], h => ⟨by have := (h x (by simp)).1; show x.length ≤ 9; omega, (h x (by simp)).2⟩
  | x :: y :: r, h => by
    have ih := asc_join (xs := y :: r) fun z hz => h z (List.mem_cons_of_mem _ hz)
    have hx : Asc 8 x := h x List.mem_cons_self
    have hs : Asc 1 (" " : Str) := ⟨by decide, by decide +kernel⟩
    show Asc _ (x ++ " " ++ Str.join " " (y :: r))
    refine ((hx.app hs).app ih).le ?_
    simp only [List.length_cons]
    omega
end S3
namespace S3
open PySem
theorem good_text {ps : List Part} (g : GoodP ps) : Asc 90 (Str.join " " (flat ps)) := (asc_join g.fx).le (by have := g.fl; omega)
end S3
namespace S3
open PySem
end S3
namespace S3
open PySem
/-! k04: the lines of a text -/
abbrev NL : Str := "\n"
def jfN (t : Str) (xs : List Str) : Str := xs.foldl (fun t x => t ++ NL ++ x) t
theorem jfN_app (t u : Str) : ∀ xs : List Str, jfN (t ++ u) xs = t ++ jfN u xs
  | [] => rfl
  | x :: xs => by
    show jfN (t ++ u ++ NL ++ x) xs = t ++ jfN (u ++ NL ++ x) xs
    rw [str_assoc t u NL, str_assoc t (u ++ NL) x, jfN_app t _ xs]
theorem joinN_jf : ∀ (a : Str) (xs : List Str), Str.join NL (a :: xs) = jfN a xs
  | a, [] => rfl
  | a, b :: xs => by
    show a ++ NL ++ Str.join NL (b :: xs) = jfN (a ++ NL ++ b) xs
    rw [joinN_jf b xs, jfN_app (a ++ NL) b xs]
theorem joinN_snoc {L : List Str} (h : L ≠ []) (z : Str) : Str.join NL (L ++ [z]) = Str.join NL L ++ NL ++ z := by
  cases L with
  | nil => exact absurd rfl h
  | cons a xs =>
    rw [List.cons_append, joinN_jf, joinN_jf]
    unfold jfN
    rw [List.foldl_append]
    rfl
def NoN (p : Str) : Prop := 10 ∉ p.cps.toList
theorem noN_e : NoN "" := by unfold NoN; decide +kernel
theorem joinN_last (I : List Str) (w c : Str) : Str.join NL (I ++ [w ++ c]) = Str.join NL (I ++ [w]) ++ c := by
  cases I with
  | nil => rfl
  | cons a xs => rw [joinN_snoc (by simp), joinN_snoc (by simp), str_assoc _ w c]
/-- a text of short lines -/
structure TxtOk (x : Str) (ls : List Str) : Prop where
  ne : ls ≠ []
  jn : Str.join NL ls = x
  no : ∀ l ∈ ls, NoN l
  ok : ∀ l ∈ ls, LineOk l
  len : ls.length ≤ 100
theorem TxtOk.split {x : Str} {ls : List Str} (h : TxtOk x ls) : Txt.split x "\n" = ls := by
  have sp := TL.split_join (y := "\n") (s := 10) (S := []) rfl (by decide +kernel) (parts := ls) h.ne h.no
  rw [TL.join_eq, h.jn] at sp
  exact sp
theorem joinN_len : ∀ {ls : List Str}, (∀ l ∈ ls, l.length ≤ 1000) → (Str.join NL ls).length ≤ 1001 * ls.length
  | [], _ => Nat.zero_le _
  | [a], h => by have := h a (by simp); show a.length ≤ _; simp; omega
  | a :: b :: r, h => by
    have ih := joinN_len (ls := b :: r) fun l hl => h l (List.mem_cons_of_mem _ hl)
    have ha := h a (by simp)
    show (a ++ "\n" ++ Str.join NL (b :: r)).length ≤ _
    rw [str_len, str_len]
    have e1 : ("\n" : Str).length = 1 := rfl
    simp only [List.length_cons] at ih ⊢
    omega
theorem TxtOk.xlen {x : Str} {ls : List Str} (h : TxtOk x ls) : x.length ≤ 100100 := by
  have := joinN_len (ls := ls) fun l hl => (h.ok l hl).len
  rw [h.jn] at this
  have := h.len
  omega
theorem lines_run (phi : String → List D → RC) {x : Str} {ls : List Str} (h : TxtOk x ls) : T__law_lines.run phi [.str x] = .ok true (.lst (strL (if x = "" then [] else ls))) [] := by
  have run : T__law_lines.run phi [.str x] = finish [.r] (b__law_lines phi [.bo (.str x), .no, .no]) := run_is rfl
  rw [run]
  unfold b__law_lines
  have hl := len_list x
  have hx := h.xlen
  rw [sSeq_e]
  simp [-sSeq_e]
  refine seq_for (ds := x.cps.toList.map fun c => D.str ⟨#[c]⟩) (e0 := [.bo (.str x), .ow (.lst (strL [("" : Str)])), .no]) (Q := fun r => finish [.r] r = .ok true (.lst (strL (if x = "" then [] else ls))) []) (by simp [strL])
    (fun i e => ∃ I w, e = [.bo (.str x), .ow (.lst (strL (I ++ [w]))), .no] ∧ (∀ p ∈ I ++ [w], NoN p) ∧ (Str.join NL (I ++ [w])).cps.toList = x.cps.toList.take i ∧ I.length ≤ i ∧ ∀ p ∈ I ++ [w], p.length ≤ i)
    ⟨[], "", rfl, fun p hp => by rw [List.mem_singleton.mp hp]; exact noN_e, rfl, Nat.zero_le _, fun p hp => by rw [List.mem_singleton.mp hp]; decide⟩ ?_ ?_
  · rintro R _ _ _ i d e hd ⟨I, w, rfl, h1, h2, h3, h4⟩
    rw [List.getElem?_map, Option.map_eq_some_iff] at hd
    obtain ⟨c, hc, rfl⟩ := hd
    have hi : i < x.cps.toList.length := (List.getElem?_eq_some_iff.mp hc).1
    refine ⟨_, rfl, ?_⟩
    have tk : x.cps.toList.take (i + 1) = x.cps.toList.take i ++ [c] := by rw [List.take_add_one, hc]; rfl
    have q := opEq_s ⟨#[c]⟩ "\n"
    by_cases hs : c = 10
    · subst hs
      rw [decide_eq_true (show (⟨#[10]⟩ : Str) = "\n" from rfl)] at q
      have ap : mAppend (.lst (strL (I ++ [w]))) [.str ""] = some (.lst (strL ((I ++ [w]) ++ [("" : Str)])), .fz .non) := by
        rw [mApp_l, if_pos (by rw [strL_len, List.length_append, List.length_singleton]; show _ < 16777216; omega)]
        unfold strL
        simp
      have il : isLst (.lst (strL (I ++ [w]))) = true := rfl
      have j := joinN_snoc (L := I ++ [w]) (by simp) ""
      generalize hX : strL (I ++ [w]) = X at *
      simp [q, ap, il]
      refine ⟨I ++ [w], ("" : Str), by simp, ?_, ?_, by simp; omega, ?_⟩
      · intro p hp
        rcases hp with hp | hp
        · exact h1 p hp
        · rw [hp]; exact noN_e
      · rw [j, capp, capp, h2, tk, List.append_assoc]
        rfl
      · intro p hp
        rcases hp with hp | hp
        · have := h4 p hp; omega
        · rw [hp]; exact Nat.zero_le _
    · have q0 : decide ((⟨#[c]⟩ : Str) = "\n") = false := decide_eq_false fun e => hs (by
        have e := congrArg (fun z : Str => z.cps.toList) e
        exact (List.cons.inj e).1)
      rw [q0] at q
      have hw := h4 w (by simp)
      have ad : opAdd (.str w) (.str ⟨#[c]⟩) = some (.fz (.str (w ++ ⟨#[c]⟩))) := if_pos (by show w.length + 1 ≤ 16777216; omega)
      have ix := last_ix I w
      have pl := put_last I w (w ++ ⟨#[c]⟩)
      have il : isLst (.lst (strL (I ++ [w]))) = true := rfl
      have ng : opNeg (.int 1) = some (.fz (.int (-1))) := rfl
      have jl := joinN_last I w ⟨#[c]⟩
      have lw : (w ++ (⟨#[c]⟩ : Str)).length = w.length + 1 := by rw [str_len]; rfl
      have cw : (w ++ (⟨#[c]⟩ : Str)).cps.toList = w.cps.toList ++ [c] := by rw [capp]
      generalize hX : strL (I ++ [w]) = X at *
      generalize w ++ (⟨#[c]⟩ : Str) = w' at *
      simp [-opIx_l, -opAdd_s, q, ix, ng, ad, pl, il]
      refine ⟨I, w', rfl, ?_, ?_, by omega, ?_⟩
      · intro p hp
        rcases hp with hp | hp
        · exact h1 p (List.mem_append_left _ hp)
        · rw [hp]
          intro z
          rw [cw] at z
          rcases List.mem_append.mp z with z | z
          · exact h1 w (by simp) z
          · exact hs (List.mem_singleton.mp z).symm
      · rw [jl, capp, h2, tk]
      · intro p hp
        rcases hp with hp | hp
        · have := h4 p (List.mem_append_left _ hp); omega
        · rw [hp, lw]; omega
  · rintro e ⟨I, w, rfl, h1, h2, h3, h4⟩
    rw [List.length_map, List.take_length] at *
    have e : Txt.join "\n" (I ++ [w]) = x := by
      rw [TL.join_eq]
      have : ∀ a b : Str, a.cps.toList = b.cps.toList → a = b := fun a b h => by cases a; cases b; congr 1; exact Array.ext' h
      exact this _ _ h2
    have sp := TL.split_join (y := "\n") (s := 10) (S := []) rfl (by decide +kernel) (parts := I ++ [w]) (by simp) h1
    rw [e, h.split] at sp
    have il : isLst (.lst (strL (I ++ [w]))) = true := rfl
    rw [← sp]
    by_cases c : x = ""
    · subst c
      have q := opEq_s "" ""
      rw [decide_eq_true rfl] at q
      generalize strL ls = X
      simp [q, strL]
    · have q := opEq_s x ""
      rw [decide_eq_false c] at q
      rw [if_neg c]
      generalize strL ls = X
      simp [q]

end S3
namespace S3
open PySem
/-! k04: parse_history -/
def enD : Int → List Str → List D
  | _, [] => []
  | i, l :: r => .tup [.int i, .str l] :: enD (i + 1) r
theorem enD_of : ∀ (ls : List Str) (k : Nat), ((strL ls).zipIdx k).map (fun p => D.tup [.int ((p.2 : Int) + 1), p.1]) = enD ((k : Int) + 1) ls
  | [], _ => rfl
  | l :: r, k => by
    have ih := enD_of r (k + 1)
    have e : (((k + 1 : Nat) : Int) + 1) = (k : Int) + 1 + 1 := by omega
    rw [e] at ih
    show D.tup [.int ((k : Int) + 1), .str l] :: ((strL r).zipIdx (k + 1)).map _ = _
    rw [ih]
    rfl
def badL : Int → List Str → Option (Int × Str)
  | _, [] => none
  | i, l :: r => if okL l = true then badL (i + 1) r else some (i, l)
abbrev ilX (i : Int) (l : Str) : Exn := ⟨"InvalidLine", [("number", .int i), ("line", .str l)]⟩
def ph4 (x : Str) (acc : List D) : Env := [.bo (.str x), .ow (.lst acc), .no, .no, .no]
abbrev phB (phi : String → List D → RC) : SV := sSeq (sSet 4 (eCall (phi "_step_of") [.r] (aCons (eSlot 3) (aNil)))) (sSeq (sIf (tVal (eOp2 opIs (eSlot 4) (eC .non))) (sRaise "InvalidLine" ["number", "line"] (aKeep (eSlot 2) (aKeep (eSlot 3) (aNil)))) (sNx)) (sExpr (eMut 1 isLst mAppend (aKeep (eSlot 4) (aNil)))))
theorem ph_good (phi : String → List D → RC) {x l : Str} {acc : List D} {i : Int} (hS : phi "_step_of" [.str l] = .ok false (pdL l) []) (g : okL l = true) (hz : acc.length < BIG) :
    phB phi [.bo (.str x), .ow (.lst acc), .fz (.int i), .fz (.str l), .no] = .nx [.bo (.str x), .ow (.lst (acc ++ [pdL l])), .fz (.int i), .fz (.str l), .fz (pdL l)] := by
  have ap : mAppend (.lst acc) [pdL l] = some (.lst (acc ++ [pdL l]), .fz .non) := by rw [mApp_l, if_pos hz]
  have ni : opIs (pdL l) .non = some (.fz (.bl false)) := by unfold pdL; rw [if_pos g]; rfl
  have il : isLst (.lst acc) = true := rfl
  unfold phB
  generalize pdL l = P at *
  simp [hS, ni, ap, il]
theorem ph_bad (phi : String → List D → RC) {x l : Str} {acc : List D} {i : Int} (hS : phi "_step_of" [.str l] = .ok false (pdL l) []) (g : okL l = false) :
    ∃ e', phB phi [.bo (.str x), .ow (.lst acc), .fz (.int i), .fz (.str l), .no] = .ex (ilX i l) e' ∧ e' = [.bo (.str x), .ow (.lst acc), .fz (.int i), .fz (.str l), .fz .non] := by
  have e : pdL l = .non := by unfold pdL; rw [g]; rfl
  rw [e] at hS
  have ni : opIs .non .non = some (.fz (.bl true)) := rfl
  unfold phB
  refine ⟨_, ?_, rfl⟩
  simp [hS, ni]
theorem ph_loop (phi : String → List D → RC) {x : Str} : ∀ (r : List Str) (i : Int) (acc : List D), (∀ l ∈ r, phi "_step_of" [.str l] = .ok false (pdL l) []) → acc.length + r.length < BIG →
    (badL i r = none ∧ forL [2, 3, 4] (.tup [2, 3]) (phB phi) (enD i r) (ph4 x acc) = .nx (ph4 x (acc ++ r.map pdL))) ∨ ∃ j l e', badL i r = some (j, l) ∧ forL [2, 3, 4] (.tup [2, 3]) (phB phi) (enD i r) (ph4 x acc) = .ex (ilX j l) e' ∧ ∃ a b c d, e' = [.bo (.str x), a, b, c, d]
  | [], i, acc, _, _ => .inl ⟨rfl, by rw [List.map_nil, List.append_nil]; rfl⟩
  | l :: r, i, acc, hS, hz => by
    have hl := hS l List.mem_cons_self
    have tg : tgt (.tup [2, 3]) (.tup [.int i, .str l]) (ph4 x acc) = some [.bo (.str x), .ow (.lst acc), .fz (.int i), .fz (.str l), .no] := rfl
    have ef : forL [2, 3, 4] (.tup [2, 3]) (phB phi) (enD i (l :: r)) (ph4 x acc) = (match phB phi [.bo (.str x), .ow (.lst acc), .fz (.int i), .fz (.str l), .no] with
      | .nx e2 => forL [2, 3, 4] (.tup [2, 3]) (phB phi) (enD (i + 1) r) (wipeE e2 [2, 3, 4])
      | .ct e2 => forL [2, 3, 4] (.tup [2, 3]) (phB phi) (enD (i + 1) r) (wipeE e2 [2, 3, 4])
      | .bk e2 => .nx (wipeE e2 [2, 3, 4])
      | .rt r e2 => .rt r e2
      | .ex x e2 => .ex x e2
      | .no => .no) := by
        show forL [2, 3, 4] (.tup [2, 3]) (phB phi) (.tup [.int i, .str l] :: enD (i + 1) r) (ph4 x acc) = _
        rw [forL, tg]
        try dsimp only
        all_goals (generalize phB phi [.bo (.str x), .ow (.lst acc), .fz (.int i), .fz (.str l), .no] = q; cases q <;> rfl)
    rw [ef]
    cases g : okL l with
    | true =>
      rw [ph_good phi hl g (by rw [List.length_cons] at hz; omega)]
      have eb : badL i (l :: r) = badL (i + 1) r := by show (if okL l = true then _ else _) = _; rw [if_pos g]
      rw [eb]
      have ih := ph_loop phi (x := x) r (i + 1) (acc ++ [pdL l]) (fun l' h => hS l' (List.mem_cons_of_mem _ h)) (by rw [List.length_append, List.length_singleton]; rw [List.length_cons] at hz; omega)
      have ea : (acc ++ [pdL l]) ++ r.map pdL = acc ++ (l :: r).map pdL := by simp
      rw [ea] at ih
      exact ih
    | false =>
      obtain ⟨e', h1, h2⟩ := ph_bad phi (x := x) (acc := acc) (i := i) hl g
      rw [h1]
      refine .inr ⟨i, l, e', ?_, rfl, _, _, _, _, h2⟩
      show (if okL l = true then _ else _) = _
      rw [if_neg (by rw [g]; decide)]
theorem parsehist_run (phi : String → List D → RC) {x : Str} {ls : List Str} (h : TxtOk x ls) (hS : ∀ l ∈ ls, phi "_step_of" [.str l] = .ok false (pdL l) []) :
    T_parse_history.run phi [.str x] = if x = "" then .ok true (.lst []) [] else (match badL 1 ls with
      | none => .ok true (.lst (ls.map pdL)) []
      | some (j, l) => .ex (ilX j l) []) := by
  have run : T_parse_history.run phi [.str x] = finish [.r] (b_parse_history phi [.bo (.str x), .no, .no, .no, .no]) := run_is rfl
  rw [run]
  unfold b_parse_history
  have hx := h.xlen
  have s1 : sSet 1 (eDisp mkLst (aNil)) [.bo (.str x), .no, .no, .no, .no] = .nx (ph4 x []) := by simp [ph4]
  rw [sSeq_e, s1]
  dsimp only
  by_cases c : x = ""
  · subst c
    have q := opEq_s "" ""
    rw [decide_eq_true rfl] at q
    rw [if_pos rfl]
    unfold ph4
    rw [sSeq_e]
    simp [-sSeq_e, q]
  · have q := opEq_s x ""
    rw [decide_eq_false c] at q
    rw [if_neg c]
    have s2 : sIf (tVal (eOp2 opEq (eSlot 0) (eC (.str "")))) (sRet (eSlot 1)) (sNx) (ph4 x []) = .nx (ph4 x []) := by unfold ph4; simp [q]
    rw [sSeq_e, s2]
    dsimp only
    have sp : opSpl "\n" (.str x) = some (.nw (.lst (strL ls))) := by
      show (if (Str.length "\n" == 0) = false ∧ x.length + 2 ≤ 16777216 ∧ (Txt.split x "\n").all sOk = true then some (RV.nw (.lst ((Txt.split x "\n").map .str))) else none) = _
      rw [h.split, if_pos ⟨by decide, by omega, List.all_eq_true.mpr fun w hw => (h.ok w hw).ok⟩]
      rfl
    have w1 : wEnum1 (eOp1 (opSpl "\n") (eSlot 0)) (ph4 x []) = .ok (enD 1 ls) (ph4 x []) := by
      have e1 : eOp1 (opSpl "\n") (eSlot 0) (ph4 x []) = .ok (.nw (.lst (strL ls))) (ph4 x []) := by
        unfold ph4
        generalize strL ls = X at sp
        simp [sp]
      unfold wEnum1 wE
      rw [e1]
      show RW.ok (enumD1 (strL ls)) (ph4 x []) = _
      have := enD_of ls 0
      unfold enumD1
      rw [this]
      rfl
    rw [sSeq_e, sFor_e, w1]
    dsimp only
    have hl := h.len
    rcases ph_loop phi (x := x) ls 1 [] hS (by show 0 + ls.length < 16777216; omega) with ⟨h1, h2⟩ | ⟨j, l, e', h1, h2, a, b, c', d, h3⟩
    · rw [h1]
      rw [show forL [2, 3, 4] (.tup [2, 3]) (phB phi) (enD 1 ls) (ph4 x []) = _ from h2]
      rw [List.nil_append]
      generalize ls.map pdL = X
      unfold ph4
      simp
    · rw [h1]
      rw [show forL [2, 3, 4] (.tup [2, 3]) (phB phi) (enD 1 ls) (ph4 x []) = _ from h2, h3]
      simp

end S3
namespace S3
open PySem
/-! k04: _law_right -/
theorem okD5_st (n : Nat) (ps : List Part) : okD (n + 2) (stD ps) = true := by
  show (ps.map pD).all (okD (n + 1)) = true
  rw [List.all_map, List.all_eq_true]
  exact fun p _ => okD_part n p
theorem eqv_st5 (n : Nat) (ps : List Part) : PyData.eqv (py (n + 2) (stD ps)) (py (n + 2) (stD ps)) = true := by
  show PyData.eqv (.tuple ((ps.map pD).map (py (n + 1)))) (.tuple ((ps.map pD).map (py (n + 1)))) = true
  have : PyData.eqvAll ((ps.map pD).map (py (n + 1))) ((ps.map pD).map (py (n + 1))) = true := by
    induction ps with
    | nil => rfl
    | cons p ps ih =>
      show (PyData.eqv (py (n + 1) (pD p)) (py (n + 1) (pD p)) && PyData.eqvAll ((ps.map pD).map (py (n + 1))) ((ps.map pD).map (py (n + 1)))) = true
      rw [ih, eqv_self n p]
      rfl
  unfold PyData.eqv
  exact this
theorem opEq_stL (qs : List (List Part)) : opEq (.lst (qs.map stD)) (.lst (qs.map stD)) = some (.fz (.bl true)) := by
  have hk : okD 6 (.lst (qs.map stD)) = true := by
    show (qs.map stD).all (okD 5) = true
    rw [List.all_map, List.all_eq_true]
    exact fun p _ => okD5_st 3 p
  have : PyData.eqv (py 6 (.lst (qs.map stD))) (py 6 (.lst (qs.map stD))) = true := by
    show PyData.eqv (.list ((qs.map stD).map (py 5))) (.list ((qs.map stD).map (py 5))) = true
    have : PyData.eqvAll ((qs.map stD).map (py 5)) ((qs.map stD).map (py 5)) = true := by
      induction qs with
      | nil => rfl
      | cons p ps ih =>
        have hk2 : okD 6 (.lst (ps.map stD)) = true := by
          show (ps.map stD).all (okD 5) = true
          rw [List.all_map, List.all_eq_true]
          exact fun p _ => okD5_st 3 p
        show (PyData.eqv (py 5 (stD p)) (py 5 (stD p)) && PyData.eqvAll ((ps.map stD).map (py 5)) ((ps.map stD).map (py 5))) = true
        rw [ih hk2, eqv_st5 3 p]
        rfl
    unfold PyData.eqv
    exact this
  unfold opEq dEq
  rw [hk]
  simp [this, bRV]
theorem nin_non (qs : List (List Part)) : opNotIn .non (.lst (qs.map stD)) = some (.fz (.bl true)) := by
  have hk : (qs.map stD).all (okD 5) = true := by
    rw [List.all_map, List.all_eq_true]
    exact fun p _ => okD5_st 3 p
  have ha : ((qs.map stD).any fun z => PyData.eqv (py 6 z) (py 6 .non)) = false := by
    rw [List.any_map, List.any_eq_false]
    intro p _ h
    have h : PyData.eqv (.tuple ((p.map pD).map (py 5))) .none = true := h
    unfold PyData.eqv at h
    cases h
  have e : opIn .non (.lst (qs.map stD)) = some (.fz (.bl false)) := by
    show bRV (if (okD 6 .non && (qs.map stD).all (okD 5)) = true then some ((qs.map stD).any fun z => PyData.eqv (py 6 z) (py 6 .non)) else none) = _
    rw [hk, ha]
    rfl
  exact nin_of_in e
theorem map_good {ls : List Str} (h : ∀ l ∈ ls, okL l = true) : ls.map pdL = (ls.map psL).map stD := by
  rw [List.map_map]
  refine List.map_congr_left fun l hl => ?_
  show (if okL l = true then stD (psL l) else .non) = _
  rw [if_pos (h l hl)]
  rfl
theorem badL_none : ∀ {ls : List Str} {i : Int}, badL i ls = none → ∀ l ∈ ls, okL l = true
  | [], _, _, l, h => by cases h
  | a :: r, i, h, l, m => by
    have h : (if okL a = true then badL (i + 1) r else some (i, a)) = none := h
    split at h
    · rename_i g
      rcases List.mem_cons.mp m with rfl | m
      · exact g
      · exact badL_none h l m
    · cases h
theorem badL_some : ∀ {ls : List Str} {i j : Int} {l : Str}, badL i ls = some (j, l) → ∃ k : Nat, j = i + k ∧ ls[k]? = some l ∧ okL l = false ∧ ∀ k' l', k' < k → ls[k']? = some l' → okL l' = true
  | [], _, _, _, h => by cases h
  | a :: r, i, j, l, h => by
    have h : (if okL a = true then badL (i + 1) r else some (i, a)) = some (j, l) := h
    split at h
    · rename_i g
      obtain ⟨k, h1, h2, h3, h4⟩ := badL_some h
      refine ⟨k + 1, by omega, by simpa using h2, h3, fun k' l' hk e => ?_⟩
      cases k' with
      | zero => have e : some a = some l' := by simpa using e
                cases e; exact g
      | succ k' => exact h4 k' l' (by omega) (by simpa using e)
    · rename_i g
      cases h
      exact ⟨0, by omega, rfl, by simpa using g, fun k' l' hk => by omega⟩
theorem due_at (phi : String → List D → RC) {x : Str} {L : List Str} (hL : phi "_law_lines" [.str x] = .ok true (.lst (strL L)) []) (hP : ∀ l ∈ L, phi "_law_parsed" [.str l] = .ok false (pdL l) []) (hz : L.length ≤ 1000) :
    sSet 1 (eLc [2] (.one 2) (wAny (eCall (phi "_law_lines") [.r] (aCons (eSlot 0) (aNil)))) (tYesS) (eCall (phi "_law_parsed") [.r] (aCons (eSlot 2) (aNil)))) [.bo (.str x), .no, .no, .no, .no, .no] = .nx [.bo (.str x), .ow (.lst (L.map pdL)), .no, .no, .no, .no] := by
  have hw : wAny (eCall (phi "_law_lines") [.r] (aCons (eSlot 0) (aNil))) [.bo (.str x), .no, .no, .no, .no, .no] = .ok (strL L) [.bo (.str x), .no, .no, .no, .no, .no] := by
    generalize strL L = X at hL
    simp [hL]
  have hl : lcL (.one 2) tYesS (eCall (phi "_law_parsed") [.r] (aCons (eSlot 2) (aNil))) (strL L) (wipeE (lock [.bo (.str x), .no, .no, .no, .no, .no]) [2]) [] = some (L.map pdL) := by
    unfold strL
    have := lcL_mp (t := .one 2) (c := tYesS) (f := eCall (phi "_law_parsed") [.r] (aCons (eSlot 2) (aNil))) (l := L) (mk := D.str) (e := wipeE (lock [.bo (.str x), .no, .no, .no, .no, .no]) [2]) pdL (fun l hl => by
      have hp := hP l hl
      generalize pdL l = P at hp
      simp [lc1, hp]) (acc := [])
    rw [this, List.nil_append]
  have := eLc_ok (own := [2]) hw hl (by rw [strL_len]; omega)
  rw [sSet_e, this]
  rfl
theorem wr1_of {g : EV} {e e1 : Env} {b : Int} (hg : g e = .ok (.fz (.int b)) e1) (h3 : -1000 ≤ b) (h4 : b ≤ 1000) : wR1 g e = .ok (rng 0 b) e1 := by
  rw [wR1_e, hg]
  dsimp only
  rw [if_pos ⟨by omega, by omega⟩]
abbrev suR (phi : String → List D → RC) : SV := sSeq (sIf (tOrS (tTru (eOp1 (opXis (subs ["InvalidStep"])) (eSlot 3))) (tOrS (tNotS (tTru (eOp1 (opXis (subs ["InvalidStep", "InvalidLine"])) (eSlot 3)))) (tTru (eOp1 (opIsTy "bool") (eOp1 (opXf "number") (eSlot 3)))))) (sRet (eC (.bl false))) (sNx)) (sSeq (sFor [5] (.one 5) (wR1 (eOp1 opLen (eSlot 1))) (sIf (tVal (eOp2 opIs (eOp2 opIx (eSlot 1) (eSlot 5)) (eC .non))) (sSeq (sIf (tOrS (tNotS (tTru (eOp1 (opIsTy "int") (eOp1 (opXf "number") (eSlot 3))))) (tVal (eOp2 opNe (eOp1 (opXf "number") (eSlot 3)) (eOp2 opAdd (eSlot 5) (eC (.int 1)))))) (sRet (eC (.bl false))) (sNx)) (sRet (eOp2 opEq (eOp1 (opXf "line") (eSlot 3)) (eOp2 opIx (eCallH (phi "_law_lines") [.r] (aCons (eSlot 0) (aNil))) (eSlot 5))))) (sNx))) (sRet (eC (.bl false))))
theorem rng_lenN (n : Nat) : (rng 0 (n : Int)).length = n := by unfold rng; simp
theorem ne_k1 (k : Nat) : opNe (.int (1 + k)) (.int (k + 1)) = some (.fz (.bl false)) := by
  have : opEq (.int (1 + k)) (.int (k + 1)) = some (.fz (.bl true)) := by rw [opEq_i, decide_eq_true (by omega)]
  unfold opEq at this
  unfold opNe
  cases z : dEq (.int (1 + k)) (.int (k + 1)) with
  | none => rw [z] at this; cases this
  | some b =>
    rw [z] at this
    have : b = true := by simpa [bRV] using this
    rw [this]; rfl
theorem suR_run (phi : String → List D → RC) {x l : Str} {L : List Str} {X Y : List D} {fs : List (Str × D)} {k : Nat} (lL : L.length ≤ 1000) (hk : L[k]? = some l) (hLx : noEx (phi "_law_lines") [.str x] = .ok true (.lst Y) [])
    (due : ∀ (i : Nat) (l' : Str), L[i]? = some l' → opIx (.lst X) (.int i) = some (.fz (pdL l'))) (dl : opLen (.lst X) = some (.fz (.int (L.length : Int)))) (lix : opIx (.lst Y) (.int k) = some (.fz (.str l)))
    (isb : ∀ i l', i < k → L[i]? = some l' → opIs (pdL l') .non = some (.fz (.bl false))) (isn : opIs (pdL l) .non = some (.fz (.bl true)))
    (xf1 : opXf "number" (.xn "InvalidLine" fs) = some (.fz (.int (1 + k)))) (xf2 : opXf "line" (.xn "InvalidLine" fs) = some (.fz (.str l))) :
    suR phi [.bo (.str x), .ow (.lst X), .no, .fz (.xn "InvalidLine" fs), .no, .no] = .rt (.fz (.bl true)) [.bo (.str x), .ow (.lst X), .no, .fz (.xn "InvalidLine" fs), .no, .fz (.int k)] := by
  have b2 : subs ["InvalidStep"] "InvalidLine" = false := by decide
  have b3 : subs ["InvalidStep", "InvalidLine"] "InvalidLine" = true := by decide
  have xi : ∀ (sub : Str → Bool) (fs : List (Str × D)), opXis sub (.xn "InvalidLine" fs) = some (.fz (.bl (sub "InvalidLine"))) := fun _ _ => rfl
  have ty1 : opIsTy "bool" (.int (1 + k)) = some (.fz (.bl false)) := rfl
  have ty2 : opIsTy "int" (.int (1 + k)) = some (.fz (.bl true)) := rfl
  have leq := opEq_s l l
  rw [decide_eq_true rfl] at leq
  have ne1 := ne_k1 k
  have hkl : k < L.length := (List.getElem?_eq_some_iff.mp hk).1
  unfold suR
  have c1 : sIf (tOrS (tTru (eOp1 (opXis (subs ["InvalidStep"])) (eSlot 3))) (tOrS (tNotS (tTru (eOp1 (opXis (subs ["InvalidStep", "InvalidLine"])) (eSlot 3)))) (tTru (eOp1 (opIsTy "bool") (eOp1 (opXf "number") (eSlot 3)))))) (sRet (eC (.bl false))) (sNx) [.bo (.str x), .ow (.lst X), .no, .fz (.xn "InvalidLine" fs), .no, .no] = .nx [.bo (.str x), .ow (.lst X), .no, .fz (.xn "InvalidLine" fs), .no, .no] := by
    simp [xi, b2, b3, xf1, ty1]
  rw [sSeq_e, c1]
  dsimp only
  have hw : wR1 (eOp1 opLen (eSlot 1)) [.bo (.str x), .ow (.lst X), .no, .fz (.xn "InvalidLine" fs), .no, .no] = .ok (rng 0 L.length) [.bo (.str x), .ow (.lst X), .no, .fz (.xn "InvalidLine" fs), .no, .no] := wr1_of (by simp [-opLen_l, dl]) (by omega) (by omega)
  refine seq_for (Q := fun r => r = .rt (.fz (.bl true)) [.bo (.str x), .ow (.lst X), .no, .fz (.xn "InvalidLine" fs), .no, .fz (.int k)]) hw (fun i e => e = [.bo (.str x), .ow (.lst X), .no, .fz (.xn "InvalidLine" fs), .no, .no] ∧ i ≤ k) ⟨rfl, Nat.zero_le _⟩ ?_ ?_
  · rintro R hrt _ _ i d e hd ⟨rfl, hi⟩
    obtain ⟨rfl, hi2⟩ := rng0_get hd
    refine ⟨_, rfl, ?_⟩
    have hil : i < L.length := by omega
    have ei : L[i]? = some L[i] := List.getElem?_eq_getElem hil
    by_cases c : i = k
    · subst c
      have d1 := due i l hk
      have ad : opAdd (.int i) (.int 1) = some (.fz (.int (i + 1))) := rfl
      have := hrt (.fz (.bl true)) [.bo (.str x), .ow (.lst X), .no, .fz (.xn "InvalidLine" fs), .no, .fz (.int i)] rfl
      generalize pdL l = P at *
      simp [-opIx_l, d1, isn, xf1, ty2, ad, ne1, xf2, eCallH, hLx, lix, leq, this]
    · have d1 := due i L[i] ei
      have d2 := isb i L[i] (by omega) ei
      generalize pdL L[i] = P at *
      have hik : i + 1 ≤ k := by omega
      simp [-opIx_l, d1, d2, hik]
  · rintro e ⟨_, hi⟩
    rw [rng_lenN] at hi
    omega
theorem right_good (phi : String → List D → RC) {x : Str} {X : List D} {qs : List (List Part)} (hX : X = qs.map stD) (hH : phi "parse_history" [.str x] = .ok true (.lst X) []) :
    finish [.r] (sSeq (sTry (subs ["InvalidLine"]) 3 (sSet 4 (eCall (phi "parse_history") [.r] (aCons (eSlot 0) (aNil)))) (suR phi)) (sRet (eAnd (eOp1 (opIsTy "list") (eSlot 4)) (eAnd (eOp2 opNotIn (eC .non) (eSlot 1)) (eOp2 opEq (eSlot 4) (eSlot 1))))) [.bo (.str x), .ow (.lst X), .no, .no, .no, .no]) = .ok false (.bl true) [] := by
  have e1 := nin_non qs
  have e2 := opEq_stL qs
  rw [← hX] at e1 e2
  have t1 : ∀ X, opIsTy "list" (.lst X) = some (.fz (.bl true)) := fun _ => rfl
  have h1 : sSet 4 (eCall (phi "parse_history") [.r] (aCons (eSlot 0) (aNil))) [.bo (.str x), .ow (.lst X), .no, .no, .no, .no] = .nx [.bo (.str x), .ow (.lst X), .no, .no, .ow (.lst X), .no] := by simp [hH]
  clear hX
  generalize suR phi = SU
  rw [sSeq_e, sTry_e, h1]
  simp [e1, e2, t1]
theorem right_bad (phi : String → List D → RC) {x : Str} {X : List D} {fs : List (Str × D)} {k : Nat} (hH : phi "parse_history" [.str x] = .ex ⟨"InvalidLine", fs⟩ [])
    (hS : suR phi [.bo (.str x), .ow (.lst X), .no, .fz (.xn "InvalidLine" fs), .no, .no] = .rt (.fz (.bl true)) [.bo (.str x), .ow (.lst X), .no, .fz (.xn "InvalidLine" fs), .no, .fz (.int k)]) (g : SV) :
    finish [.r] (sSeq (sTry (subs ["InvalidLine"]) 3 (sSet 4 (eCall (phi "parse_history") [.r] (aCons (eSlot 0) (aNil)))) (suR phi)) g [.bo (.str x), .ow (.lst X), .no, .no, .no, .no]) = .ok false (.bl true) [] := by
  have b1 : subs ["InvalidLine"] "InvalidLine" = true := by decide
  have nm : xnm "InvalidLine" = true := by decide
  have h1 : sSet 4 (eCall (phi "parse_history") [.r] (aCons (eSlot 0) (aNil))) [.bo (.str x), .ow (.lst X), .no, .no, .no, .no] = .ex ⟨"InvalidLine", fs⟩ [.bo (.str x), .ow (.lst X), .no, .no, .no, .no] := by simp [hH]
  generalize suR phi = SU at *
  have t2 : sTry (subs ["InvalidLine"]) 3 (sSet 4 (eCall (phi "parse_history") [.r] (aCons (eSlot 0) (aNil)))) SU [.bo (.str x), .ow (.lst X), .no, .no, .no, .no] = .rt (.fz (.bl true)) (keepX [.bo (.str x), .ow (.lst X), .no, .fz (.xn "InvalidLine" fs), .no, .fz (.int k)]) := by
    rw [sTry_e, h1]
    dsimp only
    rw [if_pos nm, if_pos b1]
    rw [show ([.bo (.str x), .ow (.lst X), .no, .no, .no, .no] : Env).set 3 (.fz (.xn "InvalidLine" fs)) = [.bo (.str x), .ow (.lst X), .no, .fz (.xn "InvalidLine" fs), .no, .no] from rfl, hS]
    rfl
  rw [sSeq_e, t2]
  rfl
theorem right_run (phi : String → List D → RC) {x : Str} {ls : List Str} (h : TxtOk x ls) (hL : phi "_law_lines" [.str x] = .ok true (.lst (strL (if x = "" then [] else ls))) []) (hP : ∀ l ∈ ls, phi "_law_parsed" [.str l] = .ok false (pdL l) [])
    (hH : phi "parse_history" [.str x] = if x = "" then .ok true (.lst []) [] else (match badL 1 ls with | none => .ok true (.lst (ls.map pdL)) [] | some (j, l) => .ex (ilX j l) [])) :
    T__law_right.run phi [.str x] = .ok false (.bl true) [] := by
  have run : T__law_right.run phi [.str x] = finish [.r] (b__law_right phi [.bo (.str x), .no, .no, .no, .no, .no]) := run_is rfl
  rw [run]
  unfold b__law_right
  have hlen := h.len
  have hLx := noEx_ok hL
  obtain ⟨L, eL, mL⟩ : ∃ L, (if x = "" then [] else ls) = L ∧ ∀ l ∈ L, l ∈ ls := by
    by_cases c : x = ""
    · exact ⟨[], by rw [if_pos c], fun l h => by cases h⟩
    · exact ⟨ls, by rw [if_neg c], fun l h => h⟩
  have lL : L.length ≤ 100 := by
    by_cases c : x = ""
    · rw [if_pos c] at eL; rw [← eL]; exact Nat.zero_le _
    · rw [if_neg c] at eL; rw [← eL]; exact hlen
  have hH' : phi "parse_history" [.str x] = (match badL 1 L with | none => .ok true (.lst (L.map pdL)) [] | some (j, l) => .ex (ilX j l) []) := by
    by_cases c : x = ""
    · rw [if_pos c] at eL hH; rw [← eL]; exact hH
    · rw [if_neg c] at eL hH; rw [← eL]; exact hH
  rw [eL] at hL hLx
  clear eL hH
  have s1 := due_at phi (x := x) (L := L) hL (fun l hl => hP l (mL l hl)) (by omega)
  rw [sSeq_e, s1]
  dsimp only
  cases hb : badL 1 L with
  | none =>
    rw [hb] at hH'
    exact right_good phi (map_good (badL_none hb)) hH'
  | some jl =>
    obtain ⟨j, l⟩ := jl
    rw [hb] at hH'
    obtain ⟨k, rfl, hk, hok, hbef⟩ := badL_some hb
    refine right_bad phi hH' (suR_run phi (L := L) (by omega) hk hLx (fun i l' e => ?_) ?_ ?_ (fun i l' hi e => ?_) ?_ rfl rfl) _
    · rw [opIx_l, show L2.atI (L.map pdL) i = some (pdL l') from atI_nat (by omega) (by rw [List.getElem?_map, show ((i : Int)).toNat = i by omega, e]; rfl)]
      rfl
    · show some (RV.fz (D.int ((L.map pdL).length : Int))) = _
      rw [List.length_map]
    · rw [opIx_l, strL_get (by omega) (by rw [show ((k : Int)).toNat = k by omega]; exact hk)]
      rfl
    · unfold pdL; rw [if_pos (hbef i l' hi e)]; rfl
    · have : pdL l = .non := by unfold pdL; rw [hok]; rfl
      rw [this]; rfl

end S3
namespace S3
open PySem
/-! k04: format_history, _law_written -/
abbrev txP (ps : List Part) : Str := Str.join " " (flat ps)
def badP : List (List Part) → Option (List Part)
  | [] => none
  | p :: r => if stepB p = true then badP r else some p
theorem badP_none : ∀ {qs : List (List Part)}, badP qs = none → ∀ p ∈ qs, stepB p = true
  | [], _, p, h => by cases h
  | a :: r, h, p, m => by
    have h : (if stepB a = true then badP r else some a) = none := h
    split at h
    · rename_i g
      rcases List.mem_cons.mp m with rfl | m
      · exact g
      · exact badP_none h p m
    · cases h
theorem badP_some : ∀ {qs : List (List Part)} {p : List Part}, badP qs = some p → ∃ k : Nat, qs[k]? = some p ∧ stepB p = false ∧ ∀ k' p', k' < k → qs[k']? = some p' → stepB p' = true
  | [], _, h => by cases h
  | a :: r, p, h => by
    have h : (if stepB a = true then badP r else some a) = some p := h
    split at h
    · rename_i g
      obtain ⟨k, h2, h3, h4⟩ := badP_some h
      refine ⟨k + 1, by simpa using h2, h3, fun k' l' hk e => ?_⟩
      cases k' with
      | zero => have e : some a = some l' := by simpa using e
                cases e; exact g
      | succ k' => exact h4 k' l' (by omega) (by simpa using e)
    · rename_i g
      cases h
      exact ⟨0, rfl, by simpa using g, fun k' l' hk => by omega⟩
theorem sumL_len : ∀ {xs : List Str}, (∀ x ∈ xs, x.length ≤ 1000) → (xs.map (·.length)).sum ≤ 1000 * xs.length
  | [], _ => Nat.zero_le _
  | x :: xs, h => by
    have := sumL_len (xs := xs) fun y hy => h y (List.mem_cons_of_mem _ hy)
    have := h x List.mem_cons_self
    simp only [List.map_cons, List.sum_cons, List.length_cons]
    omega
theorem joinN_ok {xs : List Str} (h : ∀ x ∈ xs, x.length ≤ 1000) (hz : xs.length ≤ 1000) : opJoin "\n" (.lst (strL xs)) = some (.fz (.str (Str.join "\n" xs))) := by
  show (txtsOf (strL xs)).bind (joinOk "\n") = _
  have := sumL_len h
  have e : ("\n" : Str).length = 1 := rfl
  rw [txts, Option.bind_some]
  unfold joinOk
  rw [if_pos (by rw [e]; omega)]
abbrev isX (p : List Part) : Exn := ⟨"InvalidStep", [("step", stD p)]⟩
theorem lcLX_hist (phi : String → List D → RC) {s0 : Sl} : ∀ (qs : List (List Part)) (acc : List D), (∀ ps ∈ qs, phi "format_step" [stD ps] = if stepB ps = true then .ok false (.str (txP ps)) [] else .ex (isX ps) []) →
    lcLX (.one 1) tYesS (eCall (phi "format_step") [.v] (aKeep (eSlot 1) (aNil))) (qs.map stD) [s0, .no] acc = some (match badP qs with | none => .inr (acc ++ qs.map fun p => .str (txP p)) | some p => .inl (isX p))
  | [], acc, _ => by simp [lcLX, badP]
  | p :: r, acc, h => by
    have h1 := h p List.mem_cons_self
    have tg : tgt (.one 1) (stD p) [s0, .no] = some [s0, .fz (stD p)] := rfl
    rw [List.map_cons]
    unfold lcLX
    rw [tg]
    dsimp only
    generalize hp : stD p = P at *
    cases g : stepB p with
    | true =>
      rw [g, if_pos rfl] at h1
      have eb : badP (p :: r) = badP r := by show (if stepB p = true then _ else _) = _; rw [if_pos g]
      have ih := lcLX_hist phi (s0 := s0) r (acc ++ [.str (txP p)]) fun q hq => h q (List.mem_cons_of_mem _ hq)
      rw [eb]
      simp [h1, tYesS]
      rw [ih]
      simp
    | false =>
      rw [g] at h1
      have eb : badP (p :: r) = some p := by show (if stepB p = true then _ else _) = _; rw [if_neg (by rw [g]; decide)]
      rw [eb]
      simp [h1, tYesS]
theorem eLcX_of {own : List Nat} {t : Tg} {w : WV} {c : TV} {f : EV} {e e1 : Env} {xs : List D} {out : Exn ⊕ List D} (hw : w e = .ok xs e1) (hl : lcLX t c f xs (wipeE (lock e1) own) [] = some out) (hz : xs.length ≤ 16777216) : eLcX own t w c f e = outX e1 out := by
  unfold eLcX
  rw [hw]
  dsimp only
  rw [if_pos hz, hl]
  cases out <;> rfl
theorem fmthist_run (phi : String → List D → RC) {qs : List (List Part)} (hz : qs.length ≤ 1000) (hl : ∀ p ∈ qs, stepB p = true → (txP p).length ≤ 1000) (hF : ∀ ps ∈ qs, phi "format_step" [stD ps] = if stepB ps = true then .ok false (.str (txP ps)) [] else .ex (isX ps) []) :
    T_format_history.run phi [.lst (qs.map stD)] = match badP qs with | none => .ok false (.str (Str.join "\n" (qs.map txP))) [] | some p => .ex (isX p) [] := by
  have run : T_format_history.run phi [.lst (qs.map stD)] = finish [.r] (b_format_history phi [.bo (.lst (qs.map stD)), .no]) := run_is rfl
  rw [run]
  unfold b_format_history
  have hw : wAny (eSlot 0) [.bo (.lst (qs.map stD)), .no] = .ok (qs.map stD) [.bo (.lst (qs.map stD)), .no] := by
    generalize qs.map stD = X
    rfl
  have h1 := lcLX_hist phi (s0 := .bo (.lst (qs.map stD))) qs [] hF
  have h2 := eLcX_of (own := [1]) hw (c := tYesS) (f := eCall (phi "format_step") [.v] (aKeep (eSlot 1) (aNil))) (t := .one 1) h1 (by rw [List.length_map]; omega)
  generalize eLcX [1] (.one 1) (wAny (eSlot 0)) tYesS (eCall (phi "format_step") [.v] (aKeep (eSlot 1) (aNil))) = F at h2 ⊢
  cases hb : badP qs with
  | none =>
    rw [hb] at h2
    have g := badP_none hb
    have j := joinN_ok (xs := qs.map txP) (fun x hx => by
      obtain ⟨p, hp, rfl⟩ := List.mem_map.mp hx
      exact hl p hp (g p hp)) (by rw [List.length_map]; omega)
    have e3 : (qs.map fun p => D.str (txP p)) = strL (qs.map txP) := by unfold strL; rw [List.map_map]; rfl
    rw [show ([] : List D) ++ (qs.map fun p => D.str (txP p)) = strL (qs.map txP) by rw [List.nil_append, e3]] at h2
    generalize qs.map stD = X at *
    generalize strL (qs.map txP) = Y at *
    have h2 : F [.bo (.lst X), .no] = .ok (.nw (.lst Y)) [.bo (.lst X), .no] := h2
    simp [h2, j]
  | some p =>
    rw [hb] at h2
    generalize qs.map stD = X at *
    have h2 : F [.bo (.lst X), .no] = .ex (isX p) [.bo (.lst X), .no] := h2
    simp [h2]

end S3
namespace S3
open PySem
/-! k04: _law_written -/
theorem ne_of_eqD {a b : D} (h : opEq a b = some (.fz (.bl true))) : opNe a b = some (.fz (.bl false)) := by
  unfold opEq at h
  unfold opNe
  cases z : dEq a b with
  | none => rw [z] at h; cases h
  | some c =>
    rw [z] at h
    have : c = true := by simpa [bRV] using h
    rw [this]; rfl
abbrev suW (phi : String → List D → RC) : SV := sSeq (sFor [4] (.one 4) (wAny (eSlot 0)) (sIf (tNotS (tTru (eCallH (phi "_law_is_step") [.r] (aCons (eSlot 4) (aNil))))) (sRet (eAnd (eOp2 opEq (eSlot 1) (eSlot 0)) (eAnd (eOp1 (opXis (subs ["InvalidStep", "InvalidLine"])) (eSlot 2)) (eOp2 opEq (eOp1 (opXf "step") (eSlot 2)) (eSlot 4))))) (sNx))) (sRet (eC (.bl false)))
abbrev fcW (phi : String → List D → RC) : SV := sFor [4] (.one 4) (wAny (eSlot 0)) (sIf (tNotS (tTru (eCall (phi "_law_is_step") [.r] (aCons (eSlot 4) (aNil))))) (sRet (eC (.bl false))) (sNx))
abbrev enW (phi : String → List D → RC) : SV := sSeq (sIf (tOrS (tVal (eOp2 opNe (eSlot 1) (eSlot 0))) (tNotS (tTru (eOp1 (opIsTy "str") (eSlot 3))))) (sRet (eC (.bl false))) (sNx)) (sRet (eOp2 opEq (eSlot 3) (eOp1 (opJoin "\n") (eLc [4] (.one 4) (wAny (eSlot 0)) (tYesS) (eCall (phi "_law_text_of") [.r] (aCons (eSlot 4) (aNil)))))))
theorem suW_run (phi : String → List D → RC) {qs : List (List Part)} {X : List D} {p : List Part} {fs : List (Str × D)} {k : Nat} (hX : qs.map stD = X) (hk : qs[k]? = some p) (hb : stepB p = false) (hg : ∀ k' p', k' < k → qs[k']? = some p' → stepB p' = true)
    (hS : ∀ p ∈ qs, noEx (phi "_law_is_step") [stD p] = .ok false (.bl (stepB p)) []) (heq : opEq (.lst X) (.lst X) = some (.fz (.bl true))) (xf : opXf "step" (.xn "InvalidStep" fs) = some (.fz (stD p))) :
    suW phi [.bo (.lst X), .ow (.lst X), .fz (.xn "InvalidStep" fs), .no, .no] = .rt (.fz (.bl true)) [.bo (.lst X), .ow (.lst X), .fz (.xn "InvalidStep" fs), .no, .fz (stD p)] := by
  have b3 : subs ["InvalidStep", "InvalidLine"] "InvalidStep" = true := by decide
  have xi : ∀ (sub : Str → Bool) (fs : List (Str × D)), opXis sub (.xn "InvalidStep" fs) = some (.fz (.bl (sub "InvalidStep"))) := fun _ _ => rfl
  have hw : wAny (eSlot 0) [.bo (.lst X), .ow (.lst X), .fz (.xn "InvalidStep" fs), .no, .no] = .ok X [.bo (.lst X), .ow (.lst X), .fz (.xn "InvalidStep" fs), .no, .no] := rfl
  have hsp := opEq_st p
  have hkl : k < qs.length := (List.getElem?_eq_some_iff.mp hk).1
  unfold suW
  refine seq_for (Q := fun r => r = .rt (.fz (.bl true)) [.bo (.lst X), .ow (.lst X), .fz (.xn "InvalidStep" fs), .no, .fz (stD p)]) hw (fun i e => e = [.bo (.lst X), .ow (.lst X), .fz (.xn "InvalidStep" fs), .no, .no] ∧ i ≤ k) ⟨rfl, Nat.zero_le _⟩ ?_ ?_
  · rintro R hrt _ _ i d e hd ⟨rfl, hi⟩
    rw [← hX, List.getElem?_map, Option.map_eq_some_iff] at hd
    obtain ⟨q, hq, rfl⟩ := hd
    refine ⟨_, rfl, ?_⟩
    have hS1 := hS q (List.mem_of_getElem? hq)
    by_cases c : i = k
    · subst c
      rw [hk] at hq
      cases hq
      rw [hb] at hS1
      have := hrt (.fz (.bl true)) [.bo (.lst X), .ow (.lst X), .fz (.xn "InvalidStep" fs), .no, .fz (stD p)] rfl
      clear hX hS
      generalize stD p = P at *
      simp [eCallH, hS1, heq, xi, b3, xf, hsp, this]
    · rw [hg i q (by omega) hq] at hS1
      have hik : i + 1 ≤ k := by omega
      clear hX hS hrt
      generalize stD q = P at *
      simp [eCallH, hS1, hik]
  · rintro e ⟨_, hi⟩
    rw [← hX, List.length_map] at hi
    omega
theorem writ_bad (phi : String → List D → RC) {X : List D} {fs : List (Str × D)} {d4 : Sl} (hH : phi "format_history" [.lst X] = .ex ⟨"InvalidStep", fs⟩ [])
    (hS : suW phi [.bo (.lst X), .ow (.lst X), .fz (.xn "InvalidStep" fs), .no, .no] = .rt (.fz (.bl true)) [.bo (.lst X), .ow (.lst X), .fz (.xn "InvalidStep" fs), .no, d4]) (g : SV) :
    finish [.r] (sSeq (sTry (subs ["InvalidStep"]) 2 (sSet 3 (eCall (phi "format_history") [.r] (aCons (eSlot 1) (aNil)))) (suW phi)) g [.bo (.lst X), .ow (.lst X), .no, .no, .no]) = .ok false (.bl true) [] := by
  have b1 : subs ["InvalidStep"] "InvalidStep" = true := by decide
  have nm : xnm "InvalidStep" = true := by decide
  have h1 : sSet 3 (eCall (phi "format_history") [.r] (aCons (eSlot 1) (aNil))) [.bo (.lst X), .ow (.lst X), .no, .no, .no] = .ex ⟨"InvalidStep", fs⟩ [.bo (.lst X), .ow (.lst X), .no, .no, .no] := by simp [hH]
  generalize suW phi = SU at *
  have t2 : sTry (subs ["InvalidStep"]) 2 (sSet 3 (eCall (phi "format_history") [.r] (aCons (eSlot 1) (aNil)))) SU [.bo (.lst X), .ow (.lst X), .no, .no, .no] = .rt (.fz (.bl true)) (keepX [.bo (.lst X), .ow (.lst X), .fz (.xn "InvalidStep" fs), .no, d4]) := by
    rw [sTry_e, h1]
    dsimp only
    rw [if_pos nm, if_pos b1]
    rw [show ([.bo (.lst X), .ow (.lst X), .no, .no, .no] : Env).set 2 (.fz (.xn "InvalidStep" fs)) = [.bo (.lst X), .ow (.lst X), .fz (.xn "InvalidStep" fs), .no, .no] from rfl, hS]
    rfl
  rw [sSeq_e, t2]
  rfl
theorem fcW_run (phi : String → List D → RC) {qs : List (List Part)} {X : List D} {t : Str} (hX : qs.map stD = X) (hg : ∀ p ∈ qs, stepB p = true) (hS : ∀ p ∈ qs, phi "_law_is_step" [stD p] = .ok false (.bl (stepB p)) []) :
    fcW phi [.bo (.lst X), .ow (.lst X), .no, .fz (.str t), .no] = .nx [.bo (.lst X), .ow (.lst X), .no, .fz (.str t), .no] := by
  have hw : wAny (eSlot 0) [.bo (.lst X), .ow (.lst X), .no, .fz (.str t), .no] = .ok X [.bo (.lst X), .ow (.lst X), .no, .fz (.str t), .no] := rfl
  refine sole_for (Q := fun r => r = .nx [.bo (.lst X), .ow (.lst X), .no, .fz (.str t), .no]) hw (fun i e => e = [.bo (.lst X), .ow (.lst X), .no, .fz (.str t), .no]) rfl ?_ ?_
  · rintro i d e hd rfl
    rw [← hX, List.getElem?_map, Option.map_eq_some_iff] at hd
    obtain ⟨q, hq, rfl⟩ := hd
    refine ⟨_, rfl, ?_⟩
    have hS1 := hS q (List.mem_of_getElem? hq)
    rw [hg q (List.mem_of_getElem? hq)] at hS1
    clear hX hS
    generalize stD q = P at *
    simp [hS1]
  · rintro e rfl
    rfl
theorem enW_run (phi : String → List D → RC) {qs : List (List Part)} {X : List D} (hX : qs.map stD = X) (hz : qs.length ≤ 1000) (hl : ∀ p ∈ qs, (txP p).length ≤ 1000) (hT : ∀ p ∈ qs, phi "_law_text_of" [stD p] = .ok false (.str (txP p)) []) (heq : opEq (.lst X) (.lst X) = some (.fz (.bl true))) :
    finish [.r] (enW phi [.bo (.lst X), .ow (.lst X), .no, .fz (.str (Str.join "\n" (qs.map txP))), .no]) = .ok false (.bl true) [] := by
  have ne := ne_of_eqD heq
  have ty : ∀ t : Str, opIsTy "str" (.str t) = some (.fz (.bl true)) := fun _ => rfl
  have q := opEq_s (Str.join "\n" (qs.map txP)) (Str.join "\n" (qs.map txP))
  rw [decide_eq_true rfl] at q
  have j := joinN_ok (xs := qs.map txP) (fun x hx => by
    obtain ⟨p, hp, rfl⟩ := List.mem_map.mp hx
    exact hl p hp) (by rw [List.length_map]; omega)
  generalize ht : (Str.join "\n" (qs.map txP)) = t at *
  have hw : wAny (eSlot 0) [.bo (.lst X), .ow (.lst X), .no, .fz (.str t), .no] = .ok X [.bo (.lst X), .ow (.lst X), .no, .fz (.str t), .no] := rfl
  have hlc : lcL (.one 4) tYesS (eCall (phi "_law_text_of") [.r] (aCons (eSlot 4) (aNil))) X (wipeE (lock [.bo (.lst X), .ow (.lst X), .no, .fz (.str t), .no]) [4]) [] = some (strL (qs.map txP)) := by
    have := lcL_mp (t := .one 4) (c := tYesS) (f := eCall (phi "_law_text_of") [.r] (aCons (eSlot 4) (aNil))) (l := qs) (mk := stD) (e := wipeE (lock [.bo (.lst X), .ow (.lst X), .no, .fz (.str t), .no]) [4]) (fun p => D.str (txP p)) (fun p hp => by
      have h1 := hT p hp
      clear hX
      generalize stD p = P at h1 ⊢
      generalize txP p = y at *
      simp [lc1, h1]) (acc := [])
    rw [hX] at this
    rw [this, List.nil_append]
    unfold strL
    rw [List.map_map]
    rfl
  have := eLc_ok (own := [4]) hw hlc (by rw [← hX, List.length_map]; omega)
  generalize strL (qs.map txP) = Y at *
  clear hX hlc hw hT
  unfold enW
  generalize eLc [4] (.one 4) (wAny (eSlot 0)) tYesS (eCall (phi "_law_text_of") [.r] (aCons (eSlot 4) (aNil))) = F at this ⊢
  simp [ne, ty, this, j, q]
theorem written_run (phi : String → List D → RC) {qs : List (List Part)} (hz : qs.length ≤ 1000) (hl : ∀ p ∈ qs, stepB p = true → (txP p).length ≤ 1000) (hS : ∀ p ∈ qs, phi "_law_is_step" [stD p] = .ok false (.bl (stepB p)) []) (hT : ∀ p ∈ qs, stepB p = true → phi "_law_text_of" [stD p] = .ok false (.str (txP p)) [])
    (hH : phi "format_history" [.lst (qs.map stD)] = match badP qs with | none => .ok false (.str (Str.join "\n" (qs.map txP))) [] | some p => .ex (isX p) []) :
    T__law_written.run phi [.lst (qs.map stD)] = .ok false (.bl true) [] := by
  have run : T__law_written.run phi [.lst (qs.map stD)] = finish [.r] (b__law_written phi [.bo (.lst (qs.map stD)), .no, .no, .no, .no]) := run_is rfl
  rw [run]
  unfold b__law_written
  have heq := opEq_stL qs
  have s1 : sSet 1 (eOp1 opList (eSlot 0)) [.bo (.lst (qs.map stD)), .no, .no, .no, .no] = .nx [.bo (.lst (qs.map stD)), .ow (.lst (qs.map stD)), .no, .no, .no] := by
    have hL : ∀ X, opList (.lst X) = some (.nw (.lst X)) := fun _ => rfl
    generalize qs.map stD = X at *
    simp [hL]
  rw [sSeq_e, s1]
  dsimp only
  cases hb : badP qs with
  | none =>
    rw [hb] at hH
    have g := badP_none hb
    have e1 := fcW_run phi (t := Str.join "\n" (qs.map txP)) rfl g hS
    have e2 := enW_run phi rfl hz (fun p hp => hl p hp (g p hp)) (fun p hp => hT p hp (g p hp)) heq
    generalize Str.join "\n" (qs.map txP) = t at *
    generalize qs.map stD = X at *
    have h1 : sSet 3 (eCall (phi "format_history") [.r] (aCons (eSlot 1) (aNil))) [.bo (.lst X), .ow (.lst X), .no, .no, .no] = .nx [.bo (.lst X), .ow (.lst X), .no, .fz (.str t), .no] := by simp [hH]
    rw [sSeq_e, sTry_e, h1]
    dsimp only
    unfold fcW at e1
    rw [sSeq_e, e1]
    exact e2
  | some p =>
    rw [hb] at hH
    obtain ⟨k, h2, h3, h4⟩ := badP_some hb
    exact writ_bad phi hH (suW_run phi rfl h2 h3 h4 (fun p hp => noEx_ok (hS p hp)) heq rfl) _

end S3
namespace S3
open PySem
/-! k04: the law's texts and lists -/
theorem right_at (n : Nat) {x : Str} {ls : List Str} (h : TxtOk x ls) : sem tab (n + 8) "_law_right" [.str x] = .ok false (.bl true) [] := by
  rw [st3 (n + 7) _ T__law_right rfl]
  refine right_run _ h ?_ (fun l hl => (line_at (n + 4) (h.ok l hl)).1) ?_
  · rw [st3 (n + 6) _ T__law_lines rfl]; exact lines_run _ h
  · rw [st3 (n + 6) _ T_parse_history rfl]
    exact parsehist_run _ h fun l hl => (line_at (n + 1) (h.ok l hl)).2.1
/-- a step as the law's lists hold it -/
structure StOk (p : List Part) : Prop where
  sm : ∀ q ∈ p, Small q
  ln : stepB p = true → (txP p).length ≤ 1000
theorem text_at (n : Nat) {p : List Part} (h : StOk p) (c : stepB p = true) : sem tab (n + 1) "_law_text_of" [stD p] = .ok false (.str (txP p)) [] := by
  rw [st3 n _ T__law_text_of rfl]; exact textof_run _ h.sm c
theorem written_at (n : Nat) {qs : List (List Part)} (hz : qs.length ≤ 1000) (h : ∀ p ∈ qs, StOk p) : sem tab (n + 8) "_law_written" [.lst (qs.map stD)] = .ok false (.bl true) [] := by
  rw [st3 (n + 7) _ T__law_written rfl]
  refine written_run _ hz (fun p hp => (h p hp).ln) (fun p hp => lst3 (n + 5) p (h p hp).sm) (fun p hp c => text_at (n + 6) (h p hp) c) ?_
  rw [st3 (n + 6) _ T_format_history rfl]
  refine fmthist_run _ hz (fun p hp => (h p hp).ln) fun p hp => ?_
  rw [st3 (n + 5) _ T_format_step rfl]
  exact format_run _ (h p hp).sm (vst3 (n + 1) p (h p hp).sm)
theorem GoodP.stOk {p : List Part} (g : GoodP p) : StOk p := ⟨g.sm, fun _ => by have := (good_text g).1; show (Str.join " " (flat p)).length ≤ 1000; omega⟩
/-! lines -/
structure LnOk (l : Str) : Prop where
  ok : LineOk l
  no : NoN l
theorem ln_of {l : Str} (h1 : l.length ≤ 1000) (h2 : l.cps.all (fun c => decide (c < 128) && decide (c ≠ 10)) = true) : LnOk l := by
  rw [Array.all_eq_true_iff_forall_mem] at h2
  have h3 : ∀ c ∈ l.cps, c < 128 ∧ c ≠ 10 := fun c hc => by
    have := h2 c hc
    rw [Bool.and_eq_true] at this
    exact ⟨of_decide_eq_true this.1, of_decide_eq_true this.2⟩
  refine ⟨⟨h1, ascii_ok ?_ h1⟩, fun h => (h3 10 (Array.mem_toList_iff.mp h)).2 rfl⟩
  rw [Array.all_eq_true_iff_forall_mem]
  exact fun c hc => decide_eq_true (h3 c hc).1
theorem vn_signs {x : Str} (h : vn x = true) : ∀ c ∈ x.cps.toList, c ≠ 10 := by
  unfold vn at h
  simp only [Bool.and_eq_true] at h
  intro c hc
  have h2 := List.all_eq_true.mp h.2 c hc
  have hL : ∀ c ∈ LET.cps.toList, c ≠ 10 := by decide +kernel
  have hD : ∀ c ∈ DIG.cps.toList, c ≠ 10 := by decide +kernel
  rw [Bool.or_eq_true] at h2
  rcases h2 with h2 | h2
  · exact hL c (of_decide_eq_true h2)
  · exact hD c (of_decide_eq_true h2)
theorem noN_app {x y : Str} (hx : NoN x) (hy : NoN y) : NoN (x ++ y) := fun h => by
  rw [capp] at h
  rcases List.mem_append.mp h with h | h
  · exact hx h
  · exact hy h
theorem noN_join : ∀ {xs : List Str}, (∀ x ∈ xs, NoN x) → NoN (Str.join " " xs)
  | [], _ => noN_e
  | [x], h => h x (by simp)
  | x :: y :: r, h => by
    have ih := noN_join (xs := y :: r) fun z hz => h z (List.mem_cons_of_mem _ hz)
    show NoN (x ++ " " ++ Str.join " " (y :: r))
    exact noN_app (noN_app (h x (by simp)) (by unfold NoN; decide +kernel)) ih
theorem flat_vn {p : List Part} (h : stepB p = true) : ∀ x ∈ flat p, NoN x := by
  have hv : ∀ {x : Str}, vn x = true → NoN x := fun h hc => vn_signs h 10 hc rfl
  rcases step_form h with ⟨w, q, rfl, hw, h1⟩ | ⟨a, b, rfl, h1, h2⟩ | ⟨a, xs, rfl, h1, h2⟩
  · intro x hx
    have hx : x ∈ [w, q] := hx
    simp only [List.mem_cons, List.not_mem_nil, or_false] at hx
    rcases hx with rfl | rfl
    · rcases hw with rfl | rfl <;> (unfold NoN; decide +kernel)
    · exact hv h1
  · intro x hx
    have hx : x ∈ [("read" : Str), a, b] := hx
    simp only [List.mem_cons, List.not_mem_nil, or_false] at hx
    rcases hx with rfl | rfl | rfl
    · unfold NoN; decide +kernel
    · exact hv h1
    · exact hv h2
  · intro x hx
    have fe : flat [.s "close", .s a, .t xs] = ("close" : Str) :: a :: xs := by show ("close" : Str) :: a :: (xs ++ []) = _; rw [List.append_nil]
    rw [fe] at hx
    rcases List.mem_cons.mp hx with rfl | hx
    · unfold NoN; decide +kernel
    rcases List.mem_cons.mp hx with rfl | hx
    · exact hv h1
    · exact hv (h2 x hx)
theorem GoodP.ln {p : List Part} (g : GoodP p) : LnOk (txP p) := ⟨(good_text g).line (by omega), noN_join (flat_vn g.st)⟩
theorem str_ext {a b : Str} (h : a.cps.toList = b.cps.toList) : a = b := by cases a; cases b; congr 1; exact Array.ext' h
/-! texts -/
def LsOk (ls : List Str) : Prop := ∀ l ∈ ls, LnOk l
theorem LsOk.app {a b : List Str} (h : LsOk a) (g : LsOk b) : LsOk (a ++ b) := fun l hl => (List.mem_append.mp hl).elim (h l) (g l)
theorem LsOk.one {a : Str} (h : LnOk a) : LsOk [a] := fun l hl => by rw [List.mem_singleton.mp hl]; exact h
theorem ln_e : LnOk "" := ln_of (by decide) (by decide +kernel)
theorem txt_of' {ls : List Str} (h : LsOk ls) (hz : ls.length ≤ 98) : ∃ ls', TxtOk (Str.join NL ls) ls' ∧ ls'.length ≤ 99 ∧ LsOk ls' := by
  cases ls with
  | nil => exact ⟨[""], ⟨by simp, rfl, fun l hl => by rw [List.mem_singleton.mp hl]; exact noN_e, fun l hl => by rw [List.mem_singleton.mp hl]; exact ln_e.ok, by decide⟩, by decide, .one ln_e⟩
  | cons a r => exact ⟨a :: r, ⟨by simp, rfl, fun l hl => (h l hl).no, fun l hl => (h l hl).ok, by omega⟩, by omega, h⟩
def AllT (ds : List D) : Prop := ∀ d ∈ ds, ∃ x ls, d = .str x ∧ TxtOk x ls
theorem AllT.nil : AllT [] := fun d h => by cases h
theorem AllT.cons {x : Str} {ds : List D} (h : ∃ ls, TxtOk x ls) (hs : AllT ds) : AllT (.str x :: ds) := fun d hd => (List.mem_cons.mp hd).elim (fun e => ⟨x, h.choose, e, h.choose_spec⟩) (hs d)
theorem AllT.app {xs ys : List D} (h : AllT xs) (hs : AllT ys) : AllT (xs ++ ys) := fun d hd => (List.mem_append.mp hd).elim (h d) (hs d)
theorem txt_j {ls : List Str} (h : LsOk ls) (hz : ls.length ≤ 98) : ∃ ls', TxtOk (Str.join NL ls) ls' := let ⟨l, h1, _⟩ := txt_of' h hz; ⟨l, h1⟩
theorem txt_end {ls : List Str} (h : LsOk ls) (hz : ls.length ≤ 98) : ∃ ls', TxtOk (Str.join NL ls ++ "\n") ls' := by
  obtain ⟨ls', h1, h2, h3⟩ := txt_of' h hz
  refine ⟨ls' ++ [("" : Str)], by simp, ?_, fun l hl => ((h3.app (.one ln_e)) l hl).no, fun l hl => ((h3.app (.one ln_e)) l hl).ok, by simp; omega⟩
  rw [joinN_snoc h1.ne, h1.jn]
  exact str_ext (by rw [capp, capp]; exact List.append_nil _)
theorem txt_beg {ls : List Str} (h : LsOk ls) (hz : ls.length ≤ 98) : ∃ ls', TxtOk ("\n" ++ Str.join NL ls) ls' := by
  obtain ⟨ls', h1, h2, h3⟩ := txt_of' h hz
  have hh : LsOk ("" :: ls') := fun l hl => (List.mem_cons.mp hl).elim (fun e => e ▸ ln_e) (h3 l)
  refine ⟨"" :: ls', by simp, ?_, fun l hl => (hh l hl).no, fun l hl => (hh l hl).ok, by simp; omega⟩
  cases ls' with
  | nil => exact absurd rfl h1.ne
  | cons a r =>
    show ("" : Str) ++ NL ++ Str.join NL (a :: r) = _
    rw [h1.jn]
    exact str_ext (by rw [capp, capp, capp]; rfl)
/-! cuts, sums -/
theorem cut_mem {α : Type} {mk : α → D} {l : List α} (lo hi : Option Int) : ∃ ys : List α, cutD (l.map mk) lo hi = ys.map mk ∧ ys.length ≤ l.length ∧ ∀ y ∈ ys, y ∈ l := by
  refine ⟨(l.drop (HT.sIx (l.map mk).length 0 lo)).take (HT.sIx (l.map mk).length (l.map mk).length hi - HT.sIx (l.map mk).length 0 lo), ?_, ?_, ?_⟩
  · unfold cutD
    rw [List.map_take, List.map_drop]
  · rw [List.length_take, List.length_drop]; omega
  · exact fun y hy => List.mem_of_mem_drop (List.mem_of_mem_take hy)
theorem addLL (xs ys : List D) (h : xs.length ≤ 1000) (h2 : ys.length ≤ 1000) : opAdd (.lst xs) (.lst ys) = some (.nw (.lst (xs ++ ys))) := by
  rw [opAdd_l]; exact if_pos (by show _ ≤ 16777216; omega)
theorem joinL {ls : List Str} (h : LsOk ls) (hz : ls.length ≤ 98) : opJoin "\n" (.lst (strL ls)) = some (.fz (.str (Str.join NL ls))) := joinN_ok (fun x hx => (h x hx).ok.len) (by omega)

end S3
namespace S3
open PySem
/-! k04: the law -/
theorem lines_of (phi : String → List D → RC) {qs : List (List Part)} {w : WV} {a0 a1 a2 a3 a4 a5 a6 a7 a8 a9 a10 a11 a12 a13 a14 a15 a16 a17 a18 : Sl} {e0 : Env} (hw : w e0 = .ok (qs.map stD) [a0, a1, a2, a3, a4, a5, a6, a7, a8, a9, a10, a11, a12, a13, a14, a15, a16, a17, a18]) (hz : qs.length ≤ 1000)
    (hT : ∀ p ∈ qs, phi "_law_text_of" [stD p] = .ok false (.str (txP p)) []) :
    eLc [6] (.one 6) w tYesS (eCall (phi "_law_text_of") [.r] (aCons (eSlot 6) (aNil))) e0 = .ok (.nw (.lst (strL (qs.map txP)))) [a0, a1, a2, a3, a4, a5, a6, a7, a8, a9, a10, a11, a12, a13, a14, a15, a16, a17, a18] := by
  refine eLc_ok (own := [6]) hw ?_ (by rw [List.length_map]; omega)
  have := lcL_mp (t := .one 6) (c := tYesS) (f := eCall (phi "_law_text_of") [.r] (aCons (eSlot 6) (aNil))) (l := qs) (mk := stD) (e := wipeE (lock [a0, a1, a2, a3, a4, a5, a6, a7, a8, a9, a10, a11, a12, a13, a14, a15, a16, a17, a18]) [6]) (fun p => D.str (txP p)) (fun p hp => by
    have h1 := hT p hp
    generalize stD p = P at h1 ⊢
    generalize txP p = y at *
    simp [lc1, h1]) (acc := [])
  rw [this, List.nil_append]
  unfold strL
  rw [List.map_map]
  rfl
theorem qa_of {a0 a1 a2 a3 a4 a5 a6 a7 a8 a9 a10 a11 a12 a13 a14 a15 a16 a17 a18 : Sl} {w : WV} {n : Nat} (hw : w [a0, a1, a2, a3, a4, a5, a6, a7, a8, a9, a10, a11, a12, a13, a14, a15, a16, a17, a18] = .ok (rng 0 n) [a0, a1, a2, a3, a4, a5, a6, a7, a8, a9, a10, a11, a12, a13, a14, a15, a16, a17, a18]) (hz : n ≤ 100) :
    eLc [4] (.one 4) w tYesS (eDisp mkTup (aKeep (eC (.str "quit")) (aKeep (eC (.str "a")) (aNil)))) [a0, a1, a2, a3, a4, a5, a6, a7, a8, a9, a10, a11, a12, a13, a14, a15, a16, a17, a18] = .ok (.nw (.lst ((List.replicate n [Part.s "quit", .s "a"]).map stD))) [a0, a1, a2, a3, a4, a5, a6, a7, a8, a9, a10, a11, a12, a13, a14, a15, a16, a17, a18] := by
  refine eLc_ok (own := [4]) hw ?_ (by rw [rng_lenN]; omega)
  rw [lcL_rng (fun _ => stD [Part.s "quit", .s "a"]) (fun i hi => by
    show lc1 _ _ _ _ _ = some (some (D.tup [.str "quit", .str "a"]))
    simp [lc1])]
  rw [show ((n : Int) - 0).toNat = n by omega]
  congr 1
  rw [List.map_replicate]
  refine List.eq_replicate_iff.mpr ⟨by simp, fun b hb => ?_⟩
  obtain ⟨_, _, rfl⟩ := List.mem_map.mp hb
  rfl
theorem goodQ : GoodP [Part.s "quit", .s "a"] := good2 (.inr rfl) (by decide +kernel)
theorem get_of {l : List Str} {i : Int} (h0 : 0 ≤ i) (h1 : i < l.length) : ∃ x ∈ l, opIx (.lst (strL l)) (.int i) = some (.fz (.str x)) := by
  have hk : i.toNat < l.length := by omega
  refine ⟨l[i.toNat], List.getElem_mem hk, ?_⟩
  rw [opIx_l, strL_get h0 (List.getElem?_eq_getElem hk)]
  rfl
theorem getS_of {l : List (List Part)} {i : Int} (h0 : 0 ≤ i) (h1 : i < l.length) : ∃ x ∈ l, opIx (.lst (l.map stD)) (.int i) = some (.fz (stD x)) := by
  have hk : i.toNat < l.length := by omega
  refine ⟨l[i.toNat], List.getElem_mem hk, ?_⟩
  rw [opIx_l, atI_nat (x := stD l[i.toNat]) h0 (by rw [List.getElem?_map, List.getElem?_eq_getElem hk]; rfl)]
  rfl
abbrev odd8 : List Str := ["", " ", "begin", "begin A", "read a", "close", "quit a b", "close a x x"]
abbrev odd3 : List Str := ["begin  a", "open a", "begin a "]
theorem odd_ln : LsOk (odd8 ++ odd3) := by
  have c : ∀ {x : Str}, x.length ≤ 20 → x.cps.all (fun c => decide (c < 128) && decide (c ≠ 10)) = true → LnOk x := fun h1 h2 => ln_of (by omega) h2
  intro l hl
  have hl : l ∈ (["", " ", "begin", "begin A", "read a", "close", "quit a b", "close a x x", "begin  a", "open a", "begin a "] : List Str) := hl
  simp only [List.mem_cons, List.not_mem_nil, or_false] at hl
  rcases hl with rfl | rfl | rfl | rfl | rfl | rfl | rfl | rfl | rfl | rfl | rfl <;> exact c (by decide) (by decide +kernel)
abbrev odS4 : List (List Part) := [[], [.s "begin"], [.s "close", .s "a", .t ["x", "x"]], [.s "read", .s "a", .s ""]]
abbrev odS2 : List (List Part) := [[.s "begin", .s "a", .s "b"], [.s "quit", .s "9"]]
theorem odS_ok : ∀ p ∈ odS4 ++ odS2, StOk p := by
  have k : ∀ p ∈ odS4 ++ odS2, stepB p = false := by decide +kernel
  have sm : ∀ p ∈ odS4 ++ odS2, ∀ q ∈ p, Small q := by
    intro p hp q hq
    have hp : p ∈ ([[], [.s "begin"], [.s "close", .s "a", .t ["x", "x"]], [.s "read", .s "a", .s ""], [.s "begin", .s "a", .s "b"], [.s "quit", .s "9"]] : List (List Part)) := hp
    have s : ∀ {x : Str}, x.length ≤ 20 → Small (.s x) := fun h => by show _ ≤ 1000; omega
    simp only [List.mem_cons, List.not_mem_nil, or_false] at hp
    rcases hp with rfl | rfl | rfl | rfl | rfl | rfl <;> simp only [List.mem_cons, List.not_mem_nil, or_false] at hq
    · subst hq; exact s (by decide)
    · rcases hq with rfl | rfl | rfl
      · exact s (by decide)
      · exact s (by decide)
      · exact ⟨by decide, fun x hx => by
          simp only [List.mem_cons, List.not_mem_nil, or_false] at hx
          rcases hx with rfl | rfl <;> decide⟩
    · rcases hq with rfl | rfl | rfl <;> exact s (by decide)
    · rcases hq with rfl | rfl | rfl <;> exact s (by decide)
    · rcases hq with rfl | rfl <;> exact s (by decide)
  exact fun p hp => ⟨sm p hp, fun h => by rw [k p hp] at h; cases h⟩
/-! lists, held short -/
def LOk (n : Nat) (Y : List D) : Prop := ∃ ls, Y = strL ls ∧ ls.length ≤ n ∧ LsOk ls
def WOk (n : Nat) (X : List D) : Prop := ∃ qs : List (List Part), X = qs.map stD ∧ qs.length ≤ n ∧ ∀ p ∈ qs, StOk p
theorem LOk.one {x : Str} (h : LnOk x) : LOk 1 [.str x] := ⟨[x], rfl, Nat.le_refl _, .one h⟩
theorem WOk.one {p : List Part} (h : StOk p) : WOk 1 [stD p] := ⟨[p], rfl, Nat.le_refl _, fun q hq => by rw [List.mem_singleton.mp hq]; exact h⟩
theorem LOk.add {n m : Nat} {X Y : List D} (hX : LOk n X) (hY : LOk m Y) (h : n + m ≤ 500) : ∃ Z, opAdd (.lst X) (.lst Y) = some (.nw (.lst Z)) ∧ LOk (n + m) Z := by
  obtain ⟨a, rfl, ha, ga⟩ := hX
  obtain ⟨b, rfl, hb, gb⟩ := hY
  refine ⟨_, addLL _ _ (by rw [strL_len]; omega) (by rw [strL_len]; omega), a ++ b, by unfold strL; rw [List.map_append], by rw [List.length_append]; omega, ga.app gb⟩
theorem WOk.add {n m : Nat} {X Y : List D} (hX : WOk n X) (hY : WOk m Y) (h : n + m ≤ 500) : ∃ Z, opAdd (.lst X) (.lst Y) = some (.nw (.lst Z)) ∧ WOk (n + m) Z := by
  obtain ⟨a, rfl, ha, ga⟩ := hX
  obtain ⟨b, rfl, hb, gb⟩ := hY
  refine ⟨_, addLL _ _ (by rw [List.length_map]; omega) (by rw [List.length_map]; omega), a ++ b, by rw [List.map_append], by rw [List.length_append]; omega, fun p hp => (List.mem_append.mp hp).elim (ga p) (gb p)⟩
theorem LOk.hi {n : Nat} {X : List D} (hX : LOk n X) (i : Int) : ∃ Z, opCutHi (.lst X) (.int i) = some (.nw (.lst Z)) ∧ LOk n Z := by
  obtain ⟨a, rfl, ha, ga⟩ := hX
  obtain ⟨ys, h1, h2, h3⟩ := cut_mem (mk := D.str) (l := a) none (some i)
  exact ⟨_, rfl, ys, h1, by omega, fun y hy => ga y (h3 y hy)⟩
theorem LOk.lo {n : Nat} {X : List D} (hX : LOk n X) (i : Int) : ∃ Z, opCutLo (.lst X) (.int i) = some (.nw (.lst Z)) ∧ LOk n Z := by
  obtain ⟨a, rfl, ha, ga⟩ := hX
  obtain ⟨ys, h1, h2, h3⟩ := cut_mem (mk := D.str) (l := a) (some i) none
  exact ⟨_, rfl, ys, h1, by omega, fun y hy => ga y (h3 y hy)⟩
theorem WOk.hi {n : Nat} {X : List D} (hX : WOk n X) (i : Int) : ∃ Z, opCutHi (.lst X) (.int i) = some (.nw (.lst Z)) ∧ WOk n Z := by
  obtain ⟨a, rfl, ha, ga⟩ := hX
  obtain ⟨ys, h1, h2, h3⟩ := cut_mem (mk := stD) (l := a) none (some i)
  exact ⟨_, rfl, ys, h1, by omega, fun y hy => ga y (h3 y hy)⟩
theorem WOk.lo {n : Nat} {X : List D} (hX : WOk n X) (i : Int) : ∃ Z, opCutLo (.lst X) (.int i) = some (.nw (.lst Z)) ∧ WOk n Z := by
  obtain ⟨a, rfl, ha, ga⟩ := hX
  obtain ⟨ys, h1, h2, h3⟩ := cut_mem (mk := stD) (l := a) (some i) none
  exact ⟨_, rfl, ys, h1, by omega, fun y hy => ga y (h3 y hy)⟩
theorem LOk.join {n : Nat} {X : List D} (hX : LOk n X) (h : n ≤ 98) : ∃ t, opJoin "\n" (.lst X) = some (.fz (.str t)) ∧ (∃ ls, TxtOk t ls) ∧ (∃ ls, TxtOk (t ++ "\n") ls) ∧ ∃ ls, TxtOk ("\n" ++ t) ls := by
  obtain ⟨a, rfl, ha, ga⟩ := hX
  exact ⟨_, joinL ga (by omega), txt_j ga (by omega), txt_end ga (by omega), txt_beg ga (by omega)⟩
theorem LOk.get {n : Nat} {X : List D} (hX : LOk n X) {i : Int} (h0 : 0 ≤ i) (h1 : i < X.length) : ∃ x, opIx (.lst X) (.int i) = some (.fz (.str x)) ∧ LnOk x := by
  obtain ⟨a, rfl, ha, ga⟩ := hX
  obtain ⟨x, hx, e⟩ := get_of (l := a) h0 (by rw [strL_len] at h1; exact h1)
  exact ⟨x, e, ga x hx⟩
theorem WOk.get {n : Nat} {X : List D} (hX : WOk n X) {i : Int} (h0 : 0 ≤ i) (h1 : i < X.length) : ∃ p, opIx (.lst X) (.int i) = some (.fz (stD p)) ∧ StOk p := by
  obtain ⟨a, rfl, ha, ga⟩ := hX
  obtain ⟨x, hx, e⟩ := getS_of (l := a) h0 (by rw [List.length_map] at h1; exact h1)
  exact ⟨x, e, ga x hx⟩
def AllW (ds : List D) : Prop := ∀ d ∈ ds, ∃ X, d = .lst X ∧ WOk 500 X
theorem AllW.nil : AllW [] := fun d h => by cases h
theorem WOk.le {n m : Nat} {X : List D} (h : WOk n X) (hn : n ≤ m) : WOk m X := let ⟨a, h1, h2, h3⟩ := h; ⟨a, h1, by omega, h3⟩
theorem AllW.cons {n : Nat} {X : List D} {ds : List D} (h : WOk n X) (hn : n ≤ 500) (hs : AllW ds) : AllW (.lst X :: ds) := fun d hd => (List.mem_cons.mp hd).elim (fun e => ⟨X, e, h.le hn⟩) (hs d)
theorem wA13 {X : List D} {a0 a1 a2 a3 a4 a5 a6 a7 a8 a9 a10 a11 a12 a14 a15 a16 a17 a18 : Sl} : wAny (eSlot 13) [a0, a1, a2, a3, a4, a5, a6, a7, a8, a9, a10, a11, a12, .ow (.lst X), a14, a15, a16, a17, a18] = .ok X [a0, a1, a2, a3, a4, a5, a6, a7, a8, a9, a10, a11, a12, .fz (.lst X), a14, a15, a16, a17, a18] := rfl
theorem wA14 {X : List D} {a0 a1 a2 a3 a4 a5 a6 a7 a8 a9 a10 a11 a12 a13 a15 a16 a17 a18 : Sl} : wAny (eSlot 14) [a0, a1, a2, a3, a4, a5, a6, a7, a8, a9, a10, a11, a12, a13, .ow (.lst X), a15, a16, a17, a18] = .ok X [a0, a1, a2, a3, a4, a5, a6, a7, a8, a9, a10, a11, a12, a13, .fz (.lst X), a15, a16, a17, a18] := rfl
/-- the steps drawn -/
theorem sol (ns : List Int) (hn : ns.length ≤ 63) : sem tab 40 "law" [.scr (ns.map .int)] = .ok false (.bl true) [] := by
  obtain ⟨ps, h3, h4, hr, hd⟩ := draws_run (sem tab 38) ns hn
  have named : ∀ n (k s : Int), 0 ≤ k → k < 30 → 0 ≤ s → s < 65536 → sem tab (n + 1) "_law_named" [.int k, .int s] = .ok false (.str (nm5 k s)) [] := fun n k s a b c d => by
    rw [st3 n _ T__law_named rfl]; exact named_run _ a b c d
  rw [st3 39 _ T_law rfl]
  have run : T_law.run (sem tab 39) [.scr (ns.map .int)] = finish [.v] (b_law (sem tab 39) [.fz (.scr (ns.map .int)), .no, .no, .no, .no, .no, .no, .no, .no, .no, .no, .no, .no, .no, .no, .no, .no, .no, .no]) := run_is rfl
  rw [run]
  unfold b_law
  have hD : sem tab 39 "_law_draws_of" [.scr (ns.map .int)] = .ok true (lints ps) [] := by rw [st3 38 _ T__law_draws_of rfl]; exact hd
  obtain ⟨p0, p00, p01, i0⟩ := lints_get hr (i := 0) (by decide) (by omega)
  obtain ⟨p1, p10, p11, i1⟩ := lints_get hr (i := 1) (by decide) (by omega)
  obtain ⟨p2, p20, p21, i2⟩ := lints_get hr (i := 2) (by decide) (by omega)
  generalize ns.map D.int = S at hD
  have hnth : ∀ i : Nat, i < 100 → ∃ p, 0 ≤ p ∧ p < 65536 ∧ sem tab 39 "_law_nth" [lints ps, .int (3 + i)] = .ok false (.int p) [] := fun i hi => by
    rw [st3 38 _ T__law_nth rfl]; exact nth_run _ hr h3 (by omega) (by omega)
  have hgs : ∀ d : Int, 0 ≤ d → ∃ qs, GoodP qs ∧ sem tab 39 "_law_good_step" [.int d, .int (p0 / 8)] = .ok false (stD qs) [] := fun d d0 => by
    rw [st3 38 _ T__law_good_step rfl]; exact good_run _ d0 (by omega) (by omega) (named 37)
  rw [sSeq_e]
  simp [hD, -sSeq_e]
  rw [sSeq_e]
  simp [i0, -opIx_l, -sSeq_e]
  rw [sSeq_e]
  simp [-sSeq_e]
  have w1 : wR1 (eOp2 opMod (eOp1 opInt (eOp2 opIx (eSlot 1) (eC (.int 1)))) (eC (.int 21))) [.fz (.scr S), .ow (lints ps), .fz (.int (p0 / 8)), .ow (.lst []), .no, .no, .no, .no, .no, .no, .no, .no, .no, .no, .no, .no, .no, .no, .no] = .ok (rng 0 (p1 % 21)) [.fz (.scr S), .ow (lints ps), .fz (.int (p0 / 8)), .ow (.lst []), .no, .no, .no, .no, .no, .no, .no, .no, .no, .no, .no, .no, .no, .no, .no] :=
    wr1_of (by simp [i1, -opIx_l]) (by omega) (by omega)
  refine seq_for (Q := fun r => finish [.v] r = .ok false (.bl true) []) w1 (fun i e => ∃ qs : List (List Part), e = [.fz (.scr S), .ow (lints ps), .fz (.int (p0 / 8)), .ow (.lst (qs.map stD)), .no, .no, .no, .no, .no, .no, .no, .no, .no, .no, .no, .no, .no, .no, .no] ∧ qs.length = i ∧ ∀ p ∈ qs, GoodP p) ⟨[], rfl, rfl, fun p h => by cases h⟩ ?_ ?_
  · rintro R _ _ _ i d e hd ⟨qs, rfl, hl, he⟩
    obtain ⟨rfl, hi⟩ := rng0_get hd
    refine ⟨_, rfl, ?_⟩
    obtain ⟨p, q0, q1, hp⟩ := hnth i (by omega)
    obtain ⟨q, gq, hq⟩ := hgs p q0
    have ap : mAppend (.lst (qs.map stD)) [stD q] = some (.lst ((qs ++ [q]).map stD), .fz .non) := by
      rw [mApp_l, if_pos (by rw [List.length_map]; show _ < 16777216; omega), List.map_append]
      rfl
    have il : isLst (.lst (qs.map stD)) = true := rfl
    have next : ∀ X, X = (qs ++ [q]).map stD → ∃ qs' : List (List Part), X = qs'.map stD ∧ qs'.length = i + 1 ∧ ∀ p ∈ qs', GoodP p := fun X e => ⟨qs ++ [q], e, by simp; omega, fun p hp => (List.mem_append.mp hp).elim (he p) fun h => by rw [List.mem_singleton.mp h]; exact gq⟩
    generalize (qs ++ [q]).map stD = Y at ap next
    obtain ⟨qs', e1, e2, e3⟩ := next Y rfl
    generalize qs.map stD = X at *
    generalize stD q = P at *
    simp [hp, hq, ap, il]
    exact ⟨qs', e1, e2, e3⟩
  · rintro e ⟨qs, rfl, hl, he⟩
    rw [rng_len] at hl
    have q20 : qs.length ≤ 20 := by omega
    have hT : ∀ p ∈ qs, sem tab 39 "_law_text_of" [stD p] = .ok false (.str (txP p)) [] := fun p hp => text_at 38 (he p hp).stOk (he p hp).st
    have hw3 : wAny (eSlot 3) [.fz (.scr S), .ow (lints ps), .fz (.int (p0 / 8)), .ow (.lst (qs.map stD)), .no, .no, .no, .no, .no, .no, .no, .no, .no, .no, .no, .no, .no, .no, .no] = .ok (qs.map stD) [.fz (.scr S), .ow (lints ps), .fz (.int (p0 / 8)), .fz (.lst (qs.map stD)), .no, .no, .no, .no, .no, .no, .no, .no, .no, .no, .no, .no, .no, .no, .no] := by generalize qs.map stD = X; rfl
    have h5 := lines_of (sem tab 39) hw3 (by omega) hT
    have L5 : LOk 20 (strL (qs.map txP)) := ⟨_, rfl, by rw [List.length_map]; exact q20, fun l hl => by
      obtain ⟨p, hp, rfl⟩ := List.mem_map.mp hl
      exact (he p hp).ln⟩
    -- the long list
    have R0 : ∀ p ∈ qs ++ List.replicate (79 - qs.length) [Part.s "quit", .s "a"], GoodP p := fun p hp => (List.mem_append.mp hp).elim (he p) fun h => by rw [(List.mem_replicate.mp h).2]; exact goodQ
    have R1 : (qs ++ List.replicate (79 - qs.length) [Part.s "quit", .s "a"]).length = 79 := by rw [List.length_append, List.length_replicate]; omega
    have ad14 : opAdd (.lst (qs.map stD)) (.lst ((List.replicate (79 - qs.length) [Part.s "quit", .s "a"]).map stD)) = some (.nw (.lst ((qs ++ List.replicate (79 - qs.length) [Part.s "quit", .s "a"]).map stD))) := by
      rw [addLL _ _ (by rw [List.length_map]; omega) (by rw [List.length_map, List.length_replicate]; omega), List.map_append]
    have W3 : WOk 20 (qs.map stD) := ⟨qs, rfl, q20, fun p hp => (he p hp).stOk⟩
    rw [sSeq_e, sSet_e, h5]
    have n3 : opLen (.lst (qs.map stD)) = some (.fz (.int qs.length)) := by rw [opLen_l, List.length_map]
    have n5 : opLen (.lst (strL (qs.map txP))) = some (.fz (.int qs.length)) := by rw [opLen_l, strL_len, List.length_map]
    clear h5 hw3 hT
    generalize qs.map stD = X3 at *
    generalize strL (qs.map txP) = Y5 at *
    dsimp only
    rw [show setS 5 (.nw (.lst Y5)) [.fz (.scr S), .ow (lints ps), .fz (.int (p0 / 8)), .fz (.lst X3), .no, .no, .no, .no, .no, .no, .no, .no, .no, .no, .no, .no, .no, .no, .no] = some [.fz (.scr S), .ow (lints ps), .fz (.int (p0 / 8)), .fz (.lst X3), .no, .ow (.lst Y5), .no, .no, .no, .no, .no, .no, .no, .no, .no, .no, .no, .no, .no] from rfl]
    dsimp only
    obtain ⟨t7, j7, T7, T7e, T7b⟩ := L5.join (by decide)
    rw [sSeq_e]
    simp [j7, -sSeq_e]
    -- odd lines
    have ad8 : opAdd (.lst [.str "", .str " ", .str "begin", .str "begin A", .str "read a", .str "close", .str "quit a b", .str "close a x x"]) (.lst [.str "begin  a", .str "open a", .str "begin a "]) = some (.nw (.lst (strL (odd8 ++ odd3)))) := addLL _ _ (by decide) (by decide)
    have L8 : LOk 11 (strL (odd8 ++ odd3)) := ⟨_, rfl, by decide, odd_ln⟩
    have l8 : (strL (odd8 ++ odd3)).length = 11 := rfl
    generalize strL (odd8 ++ odd3) = Y8 at *
    rw [sSeq_e]
    simp [-sSeq_e]
    rw [sSeq_e]
    simp [ad8, -opAdd_l, -sSeq_e]
    clear ad8
    obtain ⟨x9, g9, o9⟩ := L8.get (i := p2 % 11) (by omega) (by omega)
    obtain ⟨x10, g10, o10⟩ := L8.get (i := p2 / 11 % 11) (by omega) (by omega)
    rw [sSeq_e]
    simp [i2, g9, -opIx_l, -sSeq_e]
    rw [sSeq_e]
    simp [i2, g10, -opIx_l, -sSeq_e]
    have om : opMod (.int (p2 / 121)) (.int ((qs.length : Int) + 1)) = some (.fz (.int (p2 / 121 % ((qs.length : Int) + 1)))) := by rw [opMod_i, if_pos (by omega)]
    generalize p2 / 121 % ((qs.length : Int) + 1) = at_ at *
    rw [sSeq_e]
    simp [i2, n5, om, -opIx_l, -opLen_l, -opMod_i, -sSeq_e]
    -- the lines with an odd one
    obtain ⟨c1, hc1, C1⟩ := L5.hi at_
    obtain ⟨c2, hc2, C2⟩ := L5.lo at_
    obtain ⟨c3, hc3, C3⟩ := C1.add (LOk.one o9) (by decide)
    obtain ⟨Y12, hY12, L12⟩ := C3.add C2 (by decide)
    rw [sSeq_e]
    simp [hc1, hc2, hc3, hY12, -opAdd_l, -sSeq_e]
    -- texts
    obtain ⟨t12, j12, T12, _, _⟩ := L12.join (by decide)
    obtain ⟨Y13, hY13, L13⟩ := L12.add (LOk.one o10) (by decide)
    obtain ⟨Y14, hY14, L14⟩ := (LOk.one o10).add L12 (by decide)
    obtain ⟨t13, j13, T13, _, _⟩ := L13.join (by decide)
    obtain ⟨t14, j14, T14, _, _⟩ := L14.join (by decide)
    have z7 : t7.length ≤ 100100 := by obtain ⟨ls, h⟩ := T7; exact h.xlen
    have nl1 : ("\n" : Str).length = 1 := rfl
    have a7 : opAdd (.str t7) (.str "\n") = some (.fz (.str (t7 ++ "\n"))) := if_pos (by rw [nl1]; show _ ≤ 16777216; omega)
    have b7 : opAdd (.str "\n") (.str t7) = some (.fz (.str ("\n" ++ t7))) := if_pos (by rw [nl1]; show _ ≤ 16777216; omega)
    generalize t7 ++ "\n" = t7e at *
    generalize "\n" ++ t7 = t7b at *
    rw [sSeq_e]
    simp [a7, b7, j12, -opAdd_s, -sSeq_e]
    have ad13 : opAdd (.lst [.str t7, .str t7e, .str t7b, .str t12]) (.lst [.str t13, .str t14]) = some (.nw (.lst [.str t7, .str t7e, .str t7b, .str t12, .str t13, .str t14])) := addLL _ _ (by show 4 ≤ 1000; decide) (by show 2 ≤ 1000; decide)
    rw [sSeq_e]
    simp [hY13, j13, hY14, j14, ad13, -opAdd_l, -sSeq_e]
    -- the long list
    have h14 := fun {a0 a1 a2 a4 a5 a6 a7 a8 a9 a10 a11 a12 a13 a14 a15 a16 a17 a18 : Sl} => qa_of (a0 := a0) (a1 := a1) (a2 := a2) (a3 := .fz (.lst X3)) (a4 := a4) (a5 := a5) (a6 := a6) (a7 := a7) (a8 := a8) (a9 := a9) (a10 := a10) (a11 := a11) (a12 := a12) (a13 := a13) (a14 := a14) (a15 := a15) (a16 := a16) (a17 := a17) (a18 := a18) (w := wR1 (eOp2 opSub (eC (.int 79)) (eOp1 opLen (eSlot 3)))) (n := 79 - qs.length) (by
      have : ((79 - qs.length : Nat) : Int) = 79 - (qs.length : Int) := by omega
      rw [this]
      exact wr1_of (by simp [n3, -opLen_l]) (by omega) (by omega)) (by omega)
    generalize (List.replicate (79 - qs.length) [Part.s "quit", .s "a"]).map stD = XQ at h14 ad14
    generalize qs ++ List.replicate (79 - qs.length) [Part.s "quit", .s "a"] = rs at *
    have hT : ∀ p ∈ rs, sem tab 39 "_law_text_of" [stD p] = .ok false (.str (txP p)) [] := fun p hp => text_at 38 (R0 p hp).stOk (R0 p hp).st
    have L15 : LOk 79 (strL (rs.map txP)) := ⟨_, rfl, by rw [List.length_map]; omega, fun l hl => by
      obtain ⟨p, hp, rfl⟩ := List.mem_map.mp hl
      exact (R0 p hp).ln⟩
    have W14 : WOk 79 (rs.map stD) := ⟨rs, rfl, by omega, fun p hp => (R0 p hp).stOk⟩
    rw [sSeq_e]
    simp [h14, ad14, -opAdd_l, -sSeq_e]
    clear h14
    have h15 := lines_of (qs := rs) (sem tab 39) (w := wAny (eSlot 14)) (e0 := [.fz (.scr S), .ow (lints ps), .fz (.int (p0 / 8)), .fz (.lst X3), .no, .ow (.lst Y5), .no, .fz (.str t7), .ow (.lst Y8), .fz (.str x9), .fz (.str x10), .fz (.int at_), .ow (.lst Y12), .ow (.lst [.str t7, .str t7e, .str t7b, .str t12, .str t13, .str t14]), .ow (.lst (rs.map stD)), .no, .no, .no, .no]) wA14 (by omega) hT
    rw [sSeq_e, sSet_e, h15]
    clear h15 hT
    generalize rs.map stD = X14 at *
    generalize strL (rs.map txP) = Y15 at *
    obtain ⟨t15, j15, T15, _, _⟩ := L15.join (by decide)
    obtain ⟨Y16, hY16, L16⟩ := L15.add (LOk.one o10) (by decide)
    obtain ⟨t16, j16, T16, _, _⟩ := L16.join (by decide)
    have ad15 : opAdd (.lst [.str t7, .str t7e, .str t7b, .str t12, .str t13, .str t14]) (.lst [.str t15, .str t16]) = some (.nw (.lst [.str t7, .str t7e, .str t7b, .str t12, .str t13, .str t14, .str t15, .str t16])) := addLL _ _ (by show 6 ≤ 1000; decide) (by show 2 ≤ 1000; decide)
    dsimp only
    simp [-sSeq_e]
    rw [sSeq_e]
    simp [j15, hY16, j16, ad15, -opAdd_l, -sSeq_e]
    have AT : AllT [.str t7, .str t7e, .str t7b, .str t12, .str t13, .str t14, .str t15, .str t16] := .cons T7 (.cons T7e (.cons T7b (.cons T12 (.cons T13 (.cons T14 (.cons T15 (.cons T16 .nil)))))))
    generalize ([.str t7, .str t7e, .str t7b, .str t12, .str t13, .str t14, .str t15, .str t16] : List D) = TS at *
    refine seq_for (Q := fun r => finish [.v] r = .ok false (.bl true) []) wA13 (fun i e => e = _) rfl ?_ ?_
    · rintro R _ _ _ i d e hd rfl
      obtain ⟨x, ls, rfl, hx⟩ := AT d (List.mem_of_getElem? hd)
      refine ⟨_, rfl, ?_⟩
      have := right_at 31 hx
      simp [this]
    rintro e rfl
    have ad17 : opAdd (.lst [.tup [], .tup [.str "begin"], .tup [.str "close", .str "a", .tup [.str "x", .str "x"]], .tup [.str "read", .str "a", .str ""]]) (.lst [.tup [.str "begin", .str "a", .str "b"], .tup [.str "quit", .str "9"]]) = some (.nw (.lst ((odS4 ++ odS2).map stD))) := addLL _ _ (by show 4 ≤ 1000; decide) (by show 2 ≤ 1000; decide)
    have W17 : WOk 6 ((odS4 ++ odS2).map stD) := ⟨_, rfl, by decide, odS_ok⟩
    have l17 : ((odS4 ++ odS2).map stD).length = 6 := rfl
    generalize (odS4 ++ odS2).map stD = X17 at *
    rw [sSeq_e]
    simp [-sSeq_e]
    rw [sSeq_e]
    simp [ad17, -opAdd_l, -sSeq_e]
    clear ad17
    obtain ⟨s9, k9, S9⟩ := W17.get (i := p2 % 6) (by omega) (by omega)
    obtain ⟨s10, k10, S10⟩ := W17.get (i := p2 / 6 % 6) (by omega) (by omega)
    have W9 := WOk.one S9
    have W10 := WOk.one S10
    generalize stD s9 = D9 at *
    generalize stD s10 = D10 at *
    rw [sSeq_e]
    simp [i2, k9, -opIx_l, -sSeq_e]
    rw [sSeq_e]
    simp [i2, k10, -opIx_l, -sSeq_e]
    obtain ⟨d1, hd1, E1⟩ := W3.hi at_
    obtain ⟨d2, hd2, E2⟩ := W3.lo at_
    obtain ⟨d3, hd3, E3⟩ := E1.add W9 (by decide)
    obtain ⟨Z12, hZ12, V12⟩ := E3.add E2 (by decide)
    rw [sSeq_e]
    simp [hd1, hd2, hd3, hZ12, -opAdd_l, -sSeq_e]
    obtain ⟨Z13, hZ13, V13⟩ := V12.add W10 (by decide)
    obtain ⟨Z14, hZ14, V14⟩ := W10.add V12 (by decide)
    obtain ⟨Z15, hZ15, V15⟩ := W14.add W10 (by decide)
    rw [sSeq_e]
    simp [hZ13, hZ14, -opAdd_l, -sSeq_e]
    have ad18 : opAdd (.lst [.lst X3, .lst Z12, .lst Z13, .lst Z14]) (.lst [.lst X14, .lst Z15]) = some (.nw (.lst [.lst X3, .lst Z12, .lst Z13, .lst Z14, .lst X14, .lst Z15])) := addLL _ _ (by show 4 ≤ 1000; decide) (by show 2 ≤ 1000; decide)
    have AW : AllW [.lst X3, .lst Z12, .lst Z13, .lst Z14, .lst X14, .lst Z15] := .cons W3 (by decide) (.cons V12 (by decide) (.cons V13 (by decide) (.cons V14 (by decide) (.cons W14 (by decide) (.cons V15 (by decide) .nil)))))
    generalize ([.lst X3, .lst Z12, .lst Z13, .lst Z14, .lst X14, .lst Z15] : List D) = WS at *
    refine seq_for (ds := WS) (Q := fun r => finish [.v] r = .ok false (.bl true) []) (by simp [ad18, hZ15, -opAdd_l]; rfl) (fun i e => e = _) rfl ?_ ?_
    · rintro R _ _ _ i d e hd rfl
      obtain ⟨X, rfl, qs', rfl, hz', hq'⟩ := AW d (List.mem_of_getElem? hd)
      refine ⟨_, rfl, ?_⟩
      have := written_at 31 (by omega) hq'
      generalize qs'.map stD = X' at this
      simp [this]
    · rintro e rfl
      simp

end S3
open PySem PySem.W PyProof.Rows
set_option maxRecDepth 100000 in
set_option maxHeartbeats 0 in
theorem hh : PySem.Challenge.rw_letforget_k04_whole_written_history.Holds := by
  w_on; o_law
  refine HandSHeadRun.head_any (r := HR.R) (q := HR.qv) (H := HR.hk) (ob := HR.ob) (M := 20000) (loose := HR.names) (d := HR.dL) (kwd := []) HR.ob_eq
    (by kernel_rfl) (fun s => by kernel_rfl) HR.run (by kernel_rfl) (by kernel_rfl) (by kernel_rfl) (by rfl) (by first | assumption | decide +kernel) (by decide +kernel) ⟨rfl, rfl, rfl, rfl, rfl, by decide +kernel⟩ ?hw ?hc
  case hw => w_witness2
  case hc =>
  refine S3.lawWalk S3.sol (K := HR.kk.heap_1) (l := PySem.Challenge.rw_letforget_k04_whole_written_history) rfl HR.dL_dfl (fun w h Y => PySem.W.kIn_of Y) ?F
  case F =>
    intro w mg fa h KX G hmg0
    have hmg : mg ("law" : PySem.Str) = some (.ref fa) := by
      rw [← HR.dL_name]
      exact hmg0
    k_fill
    refine' S3.all_mk KX G hmg S3.sol ?z_len ?z_all ?z_isinstance ?z_str ?z_tuple ?z_set ?z_super ?z_enumerate ?z_int ?z_abs ?z_range ?z_bool ?z_list ?c_LONGEST ?c_LETTERS ?c_DIGITS ?a0 ?l0 ?d0 ?k0 ?a1 ?l1 ?d1 ?k1 ?a2 ?l2 ?d2 ?k2 ?a3 ?l3 ?d3 ?k3 ?a4 ?l4 ?d4 ?k4 ?a5 ?l5 ?d5 ?k5 ?a6 ?l6 ?d6 ?k6 ?a7 ?l7 ?d7 ?k7 ?a8 ?l8 ?d8 ?k8 ?a9 ?l9 ?d9 ?k9 ?a10 ?l10 ?d10 ?k10 ?a11 ?l11 ?d11 ?k11 ?a12 ?l12 ?d12 ?k12 ?a13 ?l13 ?d13 ?k13 ?a14 ?l14 ?d14 ?k14 ?a15 ?l15 ?d15 ?k15 ?a16 ?l16 ?d16 ?k16 ?a17 ?l17 ?d17 ?k17 ?a18 ?l18 ?d18 ?k18 ?a19 ?l19 ?d19 ?k19 ?a20 ?l20 ?d20 ?k20 ?na_InvalidStep ?na_InvalidLine ?na_KeeperError ?xo ?xtop ?xhn ?xht ?xL_InvalidStep ?xbm_InvalidStep ?xsa_InvalidStep ?xbe_InvalidStep ?xty_InvalidStep ?xke_InvalidStep ?xno_InvalidStep_step ?xno_InvalidStep_number ?xno_InvalidStep_line ?xin_InvalidStep ?xfn_InvalidStep ?xti_InvalidStep ?xsu_InvalidStep ?xve_InvalidStep ?xmc_InvalidStep ?xcd_InvalidStep ?xco_InvalidStep ?xvs_InvalidStep ?xfi_InvalidStep ?xce_InvalidStep ?xga_InvalidStep ?xgt_InvalidStep ?xha_InvalidStep ?xhm_InvalidStep ?xhd_InvalidStep ?xL_InvalidLine ?xbm_InvalidLine ?xsa_InvalidLine ?xbe_InvalidLine ?xty_InvalidLine ?xke_InvalidLine ?xno_InvalidLine_number ?xno_InvalidLine_line ?xno_InvalidLine_step ?xin_InvalidLine ?xfn_InvalidLine ?xti_InvalidLine ?xsu_InvalidLine ?xve_InvalidLine ?xmc_InvalidLine ?xcd_InvalidLine ?xco_InvalidLine ?xvs_InvalidLine ?xfi_InvalidLine ?xce_InvalidLine ?xga_InvalidLine ?xgt_InvalidLine ?xha_InvalidLine ?xhm_InvalidLine ?xhd_InvalidLine ?ki_InvalidStep_InvalidStep ?ki_InvalidLine_InvalidStep ?ki_InvalidStep_KeeperError ?ki_InvalidLine_KeeperError ?eb_InvalidLine ?eh_InvalidLine ?et_InvalidLine ?es_InvalidStep_InvalidLine ?es_InvalidLine_InvalidLine ?eb_InvalidStep ?eh_InvalidStep ?et_InvalidStep ?es_InvalidStep_InvalidStep ?es_InvalidLine_InvalidStep
    (case z_len => k_is)
    (case z_all => k_is)
    (case z_isinstance => k_is)
    (case z_str => k_is)
    (case z_tuple => k_is)
    (case z_set => k_is)
    (case z_super => k_is)
    (case z_enumerate => k_is)
    (case z_int => k_is)
    (case z_abs => k_is)
    (case z_range => k_is)
    (case z_bool => k_is)
    (case z_list => k_is)
    (case c_LONGEST => k_is)
    (case c_LETTERS => k_is)
    (case c_DIGITS => k_is)
    (case a0 => k_is)
    (case l0 => k_is)
    (case d0 => k_is)
    (case k0 => k_is)
    (case a1 => k_is)
    (case l1 => k_is)
    (case d1 => k_is)
    (case k1 => k_is)
    (case a2 => k_is)
    (case l2 => k_is)
    (case d2 => k_is)
    (case k2 => k_is)
    (case a3 => k_is)
    (case l3 => k_is)
    (case d3 => k_is)
    (case k3 => k_is)
    (case a4 => k_is)
    (case l4 => k_is)
    (case d4 => k_is)
    (case k4 => k_is)
    (case a5 => k_is)
    (case l5 => k_is)
    (case d5 => k_is)
    (case k5 => k_is)
    (case a6 => k_is)
    (case l6 => k_is)
    (case d6 => k_is)
    (case k6 => k_is)
    (case a7 => k_is)
    (case l7 => k_is)
    (case d7 => k_is)
    (case k7 => k_is)
    (case a8 => k_is)
    (case l8 => k_is)
    (case d8 => k_is)
    (case k8 => k_is)
    (case a9 => k_is)
    (case l9 => k_is)
    (case d9 => k_is)
    (case k9 => k_is)
    (case a10 => k_is)
    (case l10 => k_is)
    (case d10 => k_is)
    (case k10 => k_is)
    (case a11 => k_is)
    (case l11 => k_is)
    (case d11 => k_is)
    (case k11 => k_is)
    (case a12 => k_is)
    (case l12 => k_is)
    (case d12 => k_is)
    (case k12 => k_is)
    (case a13 => k_is)
    (case l13 => k_is)
    (case d13 => k_is)
    (case k13 => k_is)
    (case a14 => k_is)
    (case l14 => k_is)
    (case d14 => k_is)
    (case k14 => k_is)
    (case a15 => k_is)
    (case l15 => k_is)
    (case d15 => k_is)
    (case k15 => k_is)
    (case a16 => k_is)
    (case l16 => k_is)
    (case d16 => k_is)
    (case k16 => k_is)
    (case a17 => k_is)
    (case l17 => k_is)
    (case d17 => k_is)
    (case k17 => k_is)
    (case a18 => k_is)
    (case l18 => k_is)
    (case d18 => k_is)
    (case k18 => k_is)
    (case a19 => k_is)
    (case l19 => k_is)
    (case d19 => k_is)
    (case k19 => k_is)
    (case a20 => k_is)
    (case l20 => k_is)
    (case d20 => k_is)
    (case k20 => k_is)
    (case na_InvalidStep => k_is)
    (case na_InvalidLine => k_is)
    (case na_KeeperError => k_is)
    (case xo => k_is)
    (case xtop => first | rfl | k_is)
    (case xhn => k_is)
    (case xht => k_is)
    (case xL_InvalidStep => k_is)
    (case xbm_InvalidStep => decide +kernel)
    (case xsa_InvalidStep => k_is)
    (case xbe_InvalidStep => k_is)
    (case xty_InvalidStep => k_is)
    (case xke_InvalidStep => k_is)
    (case xno_InvalidStep_step => k_is)
    (case xno_InvalidStep_number => k_is)
    (case xno_InvalidStep_line => k_is)
    (case xin_InvalidStep => k_is)
    (case xfn_InvalidStep => k_is)
    (case xti_InvalidStep => k_is)
    (case xsu_InvalidStep => ks_is)
    (case xve_InvalidStep => k_is)
    (case xmc_InvalidStep => k_is)
    (case xcd_InvalidStep => k_is)
    (case xco_InvalidStep => k_is)
    (case xvs_InvalidStep => first | rfl | k_is)
    (case xfi_InvalidStep => first | rfl | k_is)
    (case xce_InvalidStep => k_is)
    (case xga_InvalidStep => k_is)
    (case xgt_InvalidStep => k_is)
    (case xha_InvalidStep => k_is)
    (case xhm_InvalidStep => k_is)
    (case xhd_InvalidStep => k_is)
    (case xL_InvalidLine => k_is)
    (case xbm_InvalidLine => decide +kernel)
    (case xsa_InvalidLine => k_is)
    (case xbe_InvalidLine => k_is)
    (case xty_InvalidLine => k_is)
    (case xke_InvalidLine => k_is)
    (case xno_InvalidLine_number => k_is)
    (case xno_InvalidLine_line => k_is)
    (case xno_InvalidLine_step => k_is)
    (case xin_InvalidLine => k_is)
    (case xfn_InvalidLine => k_is)
    (case xti_InvalidLine => k_is)
    (case xsu_InvalidLine => ks_is)
    (case xve_InvalidLine => k_is)
    (case xmc_InvalidLine => k_is)
    (case xcd_InvalidLine => k_is)
    (case xco_InvalidLine => k_is)
    (case xvs_InvalidLine => first | rfl | k_is)
    (case xfi_InvalidLine => first | rfl | k_is)
    (case xce_InvalidLine => k_is)
    (case xga_InvalidLine => k_is)
    (case xgt_InvalidLine => k_is)
    (case xha_InvalidLine => k_is)
    (case xhm_InvalidLine => k_is)
    (case xhd_InvalidLine => k_is)
    (case ki_InvalidStep_InvalidStep => first | k_is | kernel_rfl | rfl)
    (case ki_InvalidLine_InvalidStep => first | k_is | kernel_rfl | rfl)
    (case ki_InvalidStep_KeeperError => first | k_is | kernel_rfl | rfl)
    (case ki_InvalidLine_KeeperError => first | k_is | kernel_rfl | rfl)
    (case eb_InvalidLine => k_is)
    (case eh_InvalidLine => k_is)
    (case et_InvalidLine => k_is)
    (case es_InvalidStep_InvalidLine => k_is)
    (case es_InvalidLine_InvalidLine => k_is)
    (case eb_InvalidStep => k_is)
    (case eh_InvalidStep => k_is)
    (case et_InvalidStep => k_is)
    (case es_InvalidStep_InvalidStep => k_is)
    (case es_InvalidLine_InvalidStep => k_is)

theorem PySem.Challenge.cw_letforget_k04_whole_written_history_holds : PySem.Challenge.rw_letforget_k04_whole_written_history.Holds := by
  exact hh
