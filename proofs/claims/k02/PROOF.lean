import PyProof.Rows.All
import Wide.All
import OpenK.AllK
import Wide.FinOn
import HandS.ForMost
import KE.DataCmp
import HandS.ForExc
import HandS.Wide
import HandS.IsInst
import HandS.More
import HandS.TupAny
import HandS.Lambda
import HandS.Flow
import HandS.Deep
import HandS.RaiseMore
import HandS.Defaults
import HandS.CallSlots
import HandS.HotCalls
import HandS.ExcInitHot
import HandS.ExcIs
import HandS.ExcField
import HandS.HeadWalk
import HandS.OwnEq
import PyProof.InstNe
import KE.KCallOwn
import HandS.Zip
import HandS.FStr
import HandS.Style
import HandS.Text
import HandS.TryOnly
import HandS.SetKeys
import HandS.Iter
import KE.DataFind
import HandS.SetFor
import HandS.Strs
import KE.KExcIs
import KE.KStateDown
import HandS.Ends
import HandS.Head0
import HandS.Head1
import HandS.Head2
import HandS.HeadEnd
import HandS.HeadHook1
import HandS.HeadHook2
import Lean
import PySem.Challenge.RW_goldslips_k02_whole_gold_melted
set_option Elab.async false
set_option linter.all false
set_option maxRecDepth 100000
/-! A small interpreter of the Python that the law's text uses: tuples are plain values, lists, dicts and instances are places. -/
namespace Vm
open PySem L2

/-- a value: glo x an object of the module by its name; ref n the n-th place -/
inductive W where
  | non | bl (b : Bool) | int (i : Int) | str (x : Str) | tup (l : List W) | ref (n : Nat) | glo (x : Str) | ty (n : String) | scr (l : List Int)
  deriving Inhabited

/-- what stands at a place; lck: what a loop has locked -/
inductive Ob where
  | lst (l : List W) | dct (l : List (Key × W)) | dtt (l : List (List Key × W)) | ins (c : Str) (fs : List (Str × W)) | lck (o : Ob) | tbl (q : Str)
  deriving Inhabited

abbrev Vs := List Ob
abbrev Rho := List (Option W)

structure Exn where
  cls : Str
  fs : List (Str × W)

/-- what stands behind an except clause's name -/
inductive HA where
  | kinds | fld (f : Str) | str (x : Str)
inductive HX where
  | at_ (a : HA) | lst (l : List HA) | ite (a : HA) (z : Str) (b c : HX)
/-- except cls as slot: tgt = e -/
structure Hd where
  cls : Str
  slot : Nat
  tgt : Nat
  e : HX
/-- the text's own exceptions: parameters (stored as fields), defaults, own classes above, the law's word for the kind -/
structure XI where
  fs : List Str
  dfl : List W
  up : List Str
  kind : Str
def xTab : List (Str × XI) := [("NoGold", ⟨["word"], [], ["NoGold", "MadeError", "GoldError"], "Made NoGold +"⟩), ("NoWeight", ⟨[], [], ["NoWeight", "MadeError", "GoldError"], "Made NoWeight +"⟩), ("NoRing", ⟨["word"], [], ["NoRing", "MadeError", "GoldError"], "Made NoRing +"⟩),
  ("NoSlip", ⟨[], [], ["NoSlip", "BookError", "GoldError"], "Book NoSlip +"⟩), ("Twice", ⟨["day", "number"], [], ["Twice", "BookError", "GoldError"], "Book Twice +"⟩), ("TooMany", ⟨[], [], ["TooMany", "BookError", "GoldError"], "Book TooMany +"⟩), ("NotThere", ⟨[], [], ["NotThere", "BookError", "GoldError"], "Book NotThere +"⟩),
  ("Nothing", ⟨[], [], ["Nothing", "BookError", "GoldError"], "Book Nothing +"⟩), ("NoText", ⟨["line"], [.non], ["NoText", "BookError", "GoldError"], "Book NoText +"⟩), ("NoRow", ⟨[], [], ["NoRow", "BookError", "GoldError"], "Book NoRow +"⟩)]
def xSub (c h : Str) : Option Bool := (xTab.lookup c).map fun i => i.up.contains h
/-- what raise C(..) makes -/
def xMake (c : Str) (ws : List W) : Option Exn := match xTab.lookup c with
  | some i => if ws.length ≤ i.fs.length ∧ i.fs.length - ws.length ≤ i.dfl.length then some ⟨c, (i.fs.zip (ws ++ i.dfl.drop (i.dfl.length - (i.fs.length - ws.length)))).reverse⟩ else none
  | none => none
def haV : HA → Exn → Option W
  | .kinds, x => (xTab.lookup x.cls).map fun i => .str i.kind
  | .fld f, x => match xTab.lookup x.cls with
    | some i => if i.fs.contains f then x.fs.lookup f else none
    | none => none
  | .str z, _ => some (.str z)
def hasV : List HA → Exn → Option (List W)
  | [], _ => some []
  | a :: l, x => match haV a x, hasV l x with
    | some w, some ws => some (w :: ws)
    | _, _ => none

inductive Out (α : Type) where
  | ok (a : α) (s : Vs) | exc (x : Exn) (s : Vs) | err

def Out.bind {α β : Type} : Out α → (α → Vs → Out β) → Out β
  | .ok a s, f => f a s
  | .exc x s, _ => .exc x s
  | .err, _ => .err

theorem bind_ok {α β : Type} (a : α) (s : Vs) (f : α → Vs → Out β) : (Out.ok a s).bind f = f a s := rfl
theorem bind_exc {α β : Type} (x : Exn) (s : Vs) (f : α → Vs → Out β) : (Out.exc x s).bind f = .exc x s := rfl
theorem bind_err {α β : Type} (f : α → Vs → Out β) : (Out.err : Out α).bind f = .err := rfl

/-- the end of a statement -/
inductive Fin where
  | nx (r : Rho) (s : Vs) | rt (w : W) (s : Vs) | bk (r : Rho) (s : Vs) | ct (r : Rho) (s : Vs) | exc (x : Exn) (r : Rho) (s : Vs) | err

inductive BOp where
  | add | sub | mul | fdiv | mod | pow
inductive COp where
  | eq | ne | lt | le | gt | ge | is_ | isn | in_ | nin
inductive Bf where
  | len | abs | min | int | str | tuple | list | sorted | all | dict | lenset | srtset
inductive Tg where
  | nm (i : Nat) | tp (l : List Nat)

mutual
inductive IE where
  | var (i : Nat) | con (w : W) | glo (x : Str)
  | bin (o : BOp) (a b : IE) | neg (a : IE) | not (a : IE) | and (a b : IE) | or (a b : IE) | ite (c a b : IE)
  | ceq (ng : Bool) (cs : List Str) (a b : IE) | cmp (o : COp) (a b : IE) | chn (o p : COp) (a b c : IE)
  | tup (l : IL) | lst (l : IL) | dic (l : IL) | dget (a k d : IE) | dpop (a k : IE) | dsetd (a k d : IE) | din (ng : Bool) (k a : IE) | lcd (e : IE) (tg : Tg) (a c : IE)
  | idx (a b : IE) | slc (a lo hi : IE) | fld (a : IE) (f : Str)
  | call (f : Str) (l : IL) | callk (f : Str) (pm : List Nat) (ks : List Str) (vs : IL) | callv (f : IE) (l : IL) | meth (a : IE) (m : Str) (l : IL) | omt (c m : Str) (a : IE) (l : IL)
  | bi (f : Bf) (l : IL) | isi (a : IE) (t : Str) | iso (a : IE) (t : Str) (cs : List Str)
  | lc (e : IE) (tg : Tg) (it : II) (c : IE) | fst (l : IL) | fmt (a : IE) | ostr (c : Str) (a : IE) | rev (a : IE) | srk (a : IE) (k : IE)
inductive IL where
  | nil | cons (a : IE) (l : IL)
inductive II where
  | val (e : IE) | rng1 (e : IE) | rng2 (a b : IE) | zip (a b : IE) | enum (a : IE) | items (a : IE)
end
mutual
inductive IS where
  | asg (i : Nat) (e : IE) | asgT (l : List Nat) (e : IE) | par (i j : Nat) (a b : IE) | sfld (o : IE) (f : Str) (e : IE) | ssub (o i e : IE) | sslc (o lo hi e : IE)
  | exp (e : IE) | ret (e : IE) | retN | ifs (c : IE) (a b : IB) | whl (c : IE) (b : IB) | fors (tg : Tg) (it : II) (b : IB) | ford (tg : Tg) (a : IE) (b : IB) | rse (c : Str) (l : IL) | tryx (b : IB) (hs : List Hd) | pass
inductive IB where
  | nil | cons (a : IS) (b : IB)
end

/-! ### operations on values -/
/-- the list at a place -/
def lstAt (s : Vs) (n : Nat) : Option (List W) := match s[n]? with
  | some (.lst l) => some l
  | _ => none
def fits (n : Nat) : Bool := decide (n ≤ sizeLine)
def mulFits (i j : Int) : Bool := decide (i.natAbs.log2 + j.natAbs.log2 < 1000000)
def newL (l : List W) (s : Vs) : Out W := .ok (.ref s.length) (s ++ [.lst l])
def binV : BOp → W → W → Vs → Out W
  | .add, .int i, .int j, s => .ok (.int (i + j)) s
  | .add, .str x, .str y, s => if fits (x.length + y.length) then .ok (.str (x ++ y)) s else .err
  | .add, .tup l, .tup m, s => if fits (l.length + m.length) then .ok (.tup (l ++ m)) s else .err
  | .add, .ref a, .ref b, s => match s[a]?, s[b]? with
    | some (.lst l), some (.lst m) => if fits (l.length + m.length) then newL (l ++ m) s else .err
    | _, _ => .err
  | .sub, .int i, .int j, s => .ok (.int (i - j)) s
  | .mul, .int i, .int j, s => if mulFits i j then .ok (.int (i * j)) s else .err
  | .mul, .ref a, .int k, s => match s[a]? with
    | some (.lst l) => if decide (-(2 ^ 63) ≤ k ∧ k < 2 ^ 63) && fits (l.length * k.toNat) then newL (List.replicate k.toNat l).flatten s else .err
    | _ => .err
  | .fdiv, .int i, .int j, s => if j == 0 then .err else if Builtin.divisionGoesByPylong i j then .err else .ok (.int (i.fdiv j)) s
  | .mod, .int i, .int j, s => if j == 0 then .err else .ok (.int (i.fmod j)) s
  | .pow, .int i, .int j, s => if decide (0 ≤ j ∧ j ≤ 1000000 ∧ i.natAbs < 2 ^ 64) then .ok (.int (i ^ j.toNat)) s else .err
  | _, _, _, _ => .err

mutual
/-- the data that a value is, lists told to a depth -/
def toD (s : Vs) : Nat → W → Option PyData
  | 0, _ => none
  | _ + 1, .non => some .none
  | _ + 1, .bl b => some (.bool b)
  | _ + 1, .int i => some (.int i)
  | _ + 1, .str x => some (.str x)
  | k + 1, .tup l => (toDs s k l).map .tuple
  | k + 1, .ref n => match lstAt s n with
    | some l => (toDs s k l).map .list
    | none => none
  | _ + 1, _ => none
def toDs (s : Vs) : Nat → List W → Option (List PyData)
  | 0, _ => none
  | _ + 1, [] => some []
  | k + 1, w :: r => match toD s k w, toDs s k r with
    | some d, some ds => some (d :: ds)
    | _, _ => none
end
/-- == of data -/
def eqD (s : Vs) (x y : W) : Option Bool := match toD s 100000 x, toD s 100000 y with
  | some d, some e => if SeqAt.shaped d && SeqAt.shaped e then some (PyData.eqv d e) else none
  | _, _ => none
def isNon : W → Bool
  | .non => true
  | _ => false
def notNoD : PyData → Bool
  | .none => false
  | _ => true
/-- < of data that are alike -/
def ltD (s : Vs) (x y : W) : Option Bool := match toD s 100000 x, toD s 100000 y with
  | some d, some e => if SeqAt.shaped d && SeqAt.shaped e && PySem.W.alike d e && notNoD d then some (PySem.W.dataLt d e) else none
  | _, _ => none
/-- x in a list -/
def memD (s : Vs) (x : W) (n : Nat) : Option Bool := match toD s 100000 x, toD s 100000 (.ref n) with
  | some d, some (.list ds) => if SeqAt.shaped d && SeqAt.shaped (.list ds) then some (ds.any fun z => PyData.eqv z d) else none
  | _, _ => none
/-- x in y: one sign in a text, an item in a list -/
def memV (s : Vs) : W → W → Option Bool
  | .str x, .str z => (match x.cps.toList with
    | [c] => some (decide (c ∈ z.cps.toList))
    | _ => none)
  | x, .ref n => memD s x n
  | _, _ => none
def cmpV : COp → W → W → Vs → Out W
  | .lt, .int i, .int j, s => .ok (.bl (decide (i < j))) s
  | .le, .int i, .int j, s => .ok (.bl (decide (i ≤ j))) s
  | .gt, .int i, .int j, s => .ok (.bl (decide (j < i))) s
  | .ge, .int i, .int j, s => .ok (.bl (decide (j ≤ i))) s
  | .lt, .str x, .str y, s => .ok (.bl (decide (x.cps.toList < y.cps.toList))) s
  | .gt, .str x, .str y, s => .ok (.bl (decide (y.cps.toList < x.cps.toList))) s
  | .eq, x, y, s => match eqD s x y with
    | some b => .ok (.bl b) s
    | none => .err
  | .ne, x, y, s => match eqD s x y with
    | some b => .ok (.bl (!b)) s
    | none => .err
  | .is_, x, .non, s => .ok (.bl (isNon x)) s
  | .isn, x, .non, s => .ok (.bl (!isNon x)) s
  | .lt, .tup l, .tup m, s => match ltD s (.tup l) (.tup m) with
    | some b => .ok (.bl b) s
    | none => .err
  | .in_, x, y, s => match memV s x y with
    | some b => .ok (.bl b) s
    | none => .err
  | .nin, x, .ref n, s => match memD s x n with
    | some b => .ok (.bl (!b)) s
    | none => .err
  | _, _, _, _ => .err
/-- a value's truth -/
def trV (s : Vs) : W → Option Bool
  | .non => some false
  | .bl b => some b
  | .int i => some (i != 0)
  | .str x => if fits x.length then some ((x.length : Int) != 0) else none
  | .tup l => some (!l.isEmpty)
  | .ref n => match s[n]? with
    | some (.lst l) => some (!l.isEmpty)
    | some (.dct l) => some (!l.isEmpty)
    | _ => none
  | _ => none
def truth (w : W) (s : Vs) : Out Bool := match trV s w with
  | some b => .ok b s
  | none => .err
/-! ### dicts -/
def keyW : W → Option Key
  | .int i => some (.inl i)
  | .str x => some (.inr x)
  | _ => none
def wOf : Key → W
  | .inl i => .int i
  | .inr x => .str x
def getK (l : List (Key × W)) (k : Key) : Option W := (l.find? fun p => decide (p.1 = k)).map (·.2)
def putD (l : List (Key × W)) (k : Key) (w : W) : List (Key × W) := if (l.any fun p => decide (p.1 = k)) = true then l.map (fun p => if p.1 = k then (p.1, w) else p) else l ++ [(k, w)]
def dropD (l : List (Key × W)) (k : Key) : List (Key × W) := l.filter fun p => decide (p.1 ≠ k)
/-- the dict at a place, to be read; to be written -/
def dctR (s : Vs) : W → Option (List (Key × W))
  | .ref n => (match s[n]? with
    | some (.dct l) => some l
    | some (.lck (.dct l)) => some l
    | _ => none)
  | _ => none
def dctW (s : Vs) : W → Option (Nat × List (Key × W))
  | .ref n => (match s[n]? with
    | some (.dct l) => some (n, l)
    | _ => none)
  | _ => none
def isDct (x : W) (s : Vs) : Bool := (dctR s x).isSome
/-- keys and values by turns -/
def pairD : List W → Option (List (Key × W))
  | [] => some []
  | k :: v :: r => match keyW k, pairD r with
    | some k, some l => some ((k, v) :: l)
    | _, _ => none
  | _ => none
def mergeD (l m : List (Key × W)) : List (Key × W) := m.foldl (fun acc p => putD acc p.1 p.2) l
def dicV (ws : List W) (s : Vs) : Out W := match pairD ws with
  | some l => if decide (l.length ≤ 15) then .ok (.ref s.length) (s ++ [.dct (mergeD [] l)]) else .err
  | none => .err
def dgetV (x y z : W) (s : Vs) : Out W := match dctR s x, keyW y with
  | some l, some k => .ok ((getK l k).getD z) s
  | _, _ => .err
def dpopV (x y : W) (s : Vs) : Out W := match dctW s x, keyW y with
  | some (n, l), some k => (match getK l k with
    | some v => .ok v (s.set n (.dct (dropD l k)))
    | none => .err)
  | _, _ => .err
def dsetdV (x y z : W) (s : Vs) : Out W := match dctW s x, keyW y with
  | some (n, l), some k => if decide (l.length < sizeLine) then (match getK l k with
    | some v => .ok v s
    | none => .ok z (s.set n (.dct (putD l k z)))) else .err
  | _, _ => .err
def dinV (ng : Bool) (y x : W) (s : Vs) : Out W := match dctR s x, keyW y with
  | some l, some k => .ok (.bl ((getK l k).isSome != ng)) s
  | _, _ => .err
def lckAt (s : Vs) (n : Nat) (l : List (Key × W)) : Prop := s[n]? = some (.lck (.dct l))
/-- which dict is walked -/
def dlock (o : Out W) (s : Vs) : Option (Nat × List (Key × W)) := match o with
  | .ok x _ => dctW s x
  | _ => none
/-- the lock is taken off -/
def unlE (n : Nat) (l : List (Key × W)) : Out W → Out W
  | .ok w s => .ok w (s.set n (.dct l))
  | _ => .err
/-- a[i] -/
def idxD (x y : W) (s : Vs) : Out W := match dctR s x, keyW y with
  | some l, some k => (match getK l k with
    | some v => .ok v s
    | none => .err)
  | _, _ => .err
def idxV : W → W → Vs → Out W
  | .scr l, .int i, s => match atI l i with
    | some j => .ok (.int j) s
    | none => .err
  | .tup l, .int i, s => match atI l i with
    | some w => .ok w s
    | none => .err
  | .ref n, .int i, s => match lstAt s n with
    | some l => (match atI l i with
      | some w => .ok w s
      | none => .err)
    | none => idxD (.ref n) (.int i) s
  | .ref n, .str y, s => idxD (.ref n) (.str y) s
  | .str z, .int i, s => if fits z.length then (match atI z.cps.toList i with
    | some c => .ok (.str ⟨#[c]⟩) s
    | none => .err) else .err
  | _, _, _ => .err
def setD (x k v : W) (s : Vs) : Option Vs := match dctW s x, keyW k with
  | some (n, l), some j => if decide (l.length < sizeLine) then some (s.set n (.dct (putD l j v))) else none
  | _, _ => none
/-- a[i] = v -/
def setV : W → W → W → Vs → Option Vs
  | .ref n, .int i, v, s => match s[n]? with
    | some (.lst l) => (match ixN l.length i with
      | some j => some (s.set n (.lst (l.set j v)))
      | none => none)
    | _ => setD (.ref n) (.int i) v s
  | .ref n, .str y, v, s => setD (.ref n) (.str y) v s
  | _, _, _, _ => none
def fldV : W → Str → Vs → Out W
  | .ref n, f, s => match s[n]? with
    | some (.ins _ fs) => (match fs.lookup f with
      | some w => .ok w s
      | none => .err)
    | _ => .err
  | _, _, _ => .err
def putW (f : Str) (v : W) : List (Str × W) → List (Str × W)
  | [] => [(f, v)]
  | (g, x) :: r => if g = f then (g, v) :: r else (g, x) :: putW f v r
def sfldV (fl : Str → List Str) : W → Str → W → Vs → Option Vs
  | .ref n, f, v, s => match s[n]? with
    | some (.ins c fs) => if decide (fs.length < 1000) && (fl c).contains f then some (s.set n (.ins c (putW f v fs))) else none
    | _ => none
  | _, _, _, _ => none
/-- the built-in type of a value, where it is one -/
def tyV : W → Vs → Option String
  | .non, _ => some "NoneType"
  | .bl _, _ => some "bool"
  | .int _, _ => some "int"
  | .str _, _ => some "str"
  | .tup _, _ => some "tuple"
  | .ref n, s => match s[n]? with
    | some (.lst _) => some "list"
    | some (.dct _) => some "dict"
    | some (.dtt _) => some "dict"
    | _ => none
  | _, _ => none
def bools : List W → Option (List Bool)
  | [] => some []
  | .bl b :: r => (bools r).map (b :: ·)
  | _ => none
def intsW : List W → Option (List Int)
  | [] => some []
  | .int i :: r => (intsW r).map (i :: ·)
  | _ => none
/-- put in, each once -/
def insI (k : Int) : List Int → List Int
  | [] => [k]
  | x :: r => if k < x then k :: x :: r else if k = x then x :: r else x :: insI k r
def sortI : List Int → List Int
  | [] => []
  | x :: r => insI x (sortI r)
def biV : Bf → List W → Vs → Out W
  | .len, [.str x], s => if fits x.length then .ok (.int x.length) s else .err
  | .len, [.tup l], s => .ok (.int l.length) s
  | .len, [.scr l], s => .ok (.int l.length) s
  | .len, [.ref n], s => match s[n]? with
    | some (.lst l) => .ok (.int l.length) s
    | some (.dct l) => .ok (.int l.length) s
    | _ => .err
  | .abs, [.int i], s => .ok (.int (if i < 0 then -i else i)) s
  | .min, [.int i, .int j], s => .ok (.int (if j < i then j else i)) s
  | .int, [.int i], s => .ok (.int i) s
  | .int, [.bl b], s => .ok (.int (if b then 1 else 0)) s
  | .str, [.str x], s => if fits x.length then .ok (.str x) s else .err
  | .str, [.int i], s => if decide (i.natAbs.log2 < 1920) then .ok (.str (Str.ofString (toString i))) s else .err
  | .tuple, [.tup l], s => .ok (.tup l) s
  | .tuple, [.ref n], s => match lstAt s n with
    | some l => .ok (.tup l) s
    | none => .err
  | .list, [.tup l], s => newL l s
  | .list, [.ref n], s => match lstAt s n with
    | some l => newL l s
    | none => .err
  | .srtset, [.ref n], s => match lstAt s n with
    | some l => (match intsW l with
      | some is => if decide (is.length < 60) then newL ((sortI is).map .int) s else .err
      | none => .err)
    | none => .err
  | .all, [.ref n], s => match lstAt s n with
    | some l => (match bools l with
      | some bs => .ok (.bl (bs.all id)) s
      | none => .err)
    | none => .err
  | _, _, _ => .err
/-- methods of built-in types -/
def appV : W → List W → Vs → Out W
  | .ref n, [w], s => (match s[n]? with
    | some (.lst l) => if decide (l.length < sizeLine) then .ok .non (s.set n (.lst (l ++ [w]))) else .err
    | _ => .err)
  | _, _, _ => .err
def insV : W → List W → Vs → Out W
  | .ref n, [.int i, w], s => (match s[n]? with
    | some (.lst l) => if decide (0 ≤ i ∧ i < 2 ^ 63) && decide (l.length < sizeLine) then .ok .non (s.set n (.lst (l.take i.toNat ++ [w] ++ l.drop i.toNat))) else .err
    | _ => .err)
  | _, _, _ => .err
def remV : W → List W → Vs → Out W
  | .ref n, [w], s => (match s[n]?, toD s 100000 w, toD s 100000 (.ref n) with
    | some (.lst l), some d, some (.list ds) => if SeqAt.shaped d && SeqAt.shaped (.list ds) then (match ds.findIdx? fun z => PyData.eqv z d with
      | some j => .ok .non (s.set n (.lst (l.eraseIdx j)))
      | none => .err) else .err
    | _, _, _ => .err)
  | _, _, _ => .err
def strsW : List W → Option (List Str)
  | [] => some []
  | .str y :: r => (strsW r).map (y :: ·)
  | _ => none
/-- y.join(l) -/
def joinL (y : Str) (l : List W) (s : Vs) : Out W := match strsW l with
  | some ys => if decide ((ys.map (·.length)).sum + ys.length * y.length ≤ 16777216) then .ok (.str (Str.join y ys)) s else .err
  | none => .err
def joinV : W → List W → Vs → Out W
  | .str y, [.ref n], s => (match lstAt s n with
    | some l => joinL y l s
    | none => .err)
  | .str y, [.tup l], s => joinL y l s
  | _, _, _ => .err
def mtV (m : Str) (x : W) (ws : List W) (s : Vs) : Out W := if m = "append" then appV x ws s else if m = "insert" then insV x ws s else if m = "remove" then remV x ws s else if m = "join" then joinV x ws s else .err
theorem mtV_append (x : W) (ws : List W) (s : Vs) : mtV "append" x ws s = appV x ws s := if_pos rfl
theorem mtV_insert (x : W) (ws : List W) (s : Vs) : mtV "insert" x ws s = insV x ws s := by
  unfold mtV
  rw [if_neg (by decide +kernel), if_pos rfl]
theorem mtV_remove (x : W) (ws : List W) (s : Vs) : mtV "remove" x ws s = remV x ws s := by
  unfold mtV
  rw [if_neg (by decide +kernel), if_neg (by decide +kernel), if_pos rfl]
theorem mtV_join (x : W) (ws : List W) (s : Vs) : mtV "join" x ws s = joinV x ws s := by
  unfold mtV
  rw [if_neg (by decide +kernel), if_neg (by decide +kernel), if_neg (by decide +kernel), if_pos rfl]
/-- an instance's class -/
def insOf (s : Vs) : W → Option Str
  | .ref n => (match s[n]? with
    | some (.ins c _) => some c
    | _ => none)
  | _ => none
/-- the same plain value -/
def sameW : W → W → Bool
  | .non, .non => true
  | .bl a, .bl b => a == b
  | .int a, .int b => decide (a = b)
  | .str a, .str b => decide (a = b)
  | _, _ => false
def isRef (w : W) (n : Nat) : Bool := match w with
  | .ref m => decide (m = n)
  | _ => false
def alikeI (al : W → W → Prop) (l m : List W) : Prop := l.length = m.length ∧ ∀ (i : Nat) (a b : W), l[i]? = some a → m[i]? = some b → al a b
/-- two tuples, two lists, alike item by item -/
def alikeT (s : Vs) (al : W → W → Prop) (x y : W) : Prop := (∃ l m, x = .tup l ∧ y = .tup m ∧ alikeI al l m) ∨ ∃ a b l m, x = .ref a ∧ y = .ref b ∧ lstAt s a = some l ∧ lstAt s b = some m ∧ alikeI al l m
/-- alike: the same, or by an own == -/
def alikeW (fe : Str → Str → List W → Vs → Out W) (cs : List Str) (s : Vs) : Nat → W → W → Prop
  | 0, x, y => sameW x y = true ∨ (x = y ∧ ∃ n, x = .ref n) ∨ ∃ c a b fs gs, c ∈ cs ∧ x = .ref a ∧ y = .ref b ∧ s[a]? = some (.ins c fs) ∧ s[b]? = some (.ins c gs) ∧ fe c "__eq__" [x, y] s = .ok (.bl true) s
  | k + 1, x, y => alikeW fe cs s k x y ∨ alikeT s (alikeW fe cs s k) x y
/-- the class whose == is asked: both are of it, or the other one is of a built-in type -/
def ownC (cs : List Str) (x y : W) (s : Vs) : Option Str := match insOf s x with
  | some c => if cs.contains c && (decide (insOf s y = some c) || (tyV y s).isSome) then some c else none
  | none => none
/-- the right one's class whose == is asked behind a built-in left one -/
def ownR (cs : List Str) (x y : W) (s : Vs) : Option Str := match insOf s y, tyV x s with
  | some c, some t => if cs.contains c && (decide (t = "NoneType") || decide (t = "int") || decide (t = "str") || decide (t = "tuple")) then some c else none
  | _, _ => none
open Classical in
noncomputable def eqoV (fe : Str → Str → List W → Vs → Out W) (ng : Bool) (cs : List Str) (x y : W) (s : Vs) : Out W := match eqD s x y with
  | some b => .ok (.bl (b != ng)) s
  | none => match ownC cs x y s with
    | some c => (fe c "__eq__" [x, y] s).bind fun w s' => (match w with
      | .bl b => .ok (.bl (b != ng)) s'
      | _ => .err)
    | none => match (if ng then none else ownR cs x y s) with
      | some c => (fe c "__eq__" [y, x] s).bind fun w s' => (match w with
        | .bl b => .ok (.bl b) s'
        | _ => .err)
      | none => if alikeT s (alikeW fe cs s 3) x y then .ok (.bl (!ng)) s else .err
/-! ### what the text does -/
/-- what a body may call (a class's name or none, a def's name); the module's constants -/
structure Wd where
  fe : Str → Str → List W → Vs → Out W
  gl : Str → Option W
  fl : Str → List Str
def isBase : Str → Option String := fun t => if t = "int" then some "int" else if t = "bool" then some "bool" else if t = "str" then some "str" else if t = "tuple" then some "tuple" else if t = "list" then some "list" else none
/-- isinstance(x, t) -/
def isiV (t : Str) (x : W) (s : Vs) : Out W := match isBase t with
  | some b => (match tyV x s with
    | some a => .ok (.bl (decide (a = b) || (decide (a = "bool") && decide (b = "int")))) s
    | none => .err)
  | none => (match x with
    | .ref n => (match s[n]? with
      | some (.ins c _) => .ok (.bl (decide (c = t))) s
      | some (.lst _) => .ok (.bl false) s
      | _ => .err)
    | .non => .ok (.bl false) s
    | .bl _ => .ok (.bl false) s
    | .int _ => .ok (.bl false) s
    | .str _ => .ok (.bl false) s
    | .tup _ => .ok (.bl false) s
    | _ => .err)
/-- isinstance(x, t) with the text's own class t, of the classes cs -/
def isoV (cs : List Str) (t : Str) (x : W) (s : Vs) : Out W := match insOf s x with
  | some c => if cs.contains c then .ok (.bl (decide (c = t))) s else .err
  | none => if (tyV x s).isSome then .ok (.bl false) s else .err
/-- what is walked: the items; the lists that must stand still -/
structure Src where
  items : List W
  chk : List (Nat × List W)
def Src.ok (c : Src) (s : Vs) : Prop := ∀ p ∈ c.chk, lstAt s p.1 = some p.2
def setT (tg : Tg) (w : W) (r : Rho) : Option Rho := match tg with
  | .nm i => some (r.set i (some w))
  | .tp l => (match w with
    | .tup ws => if l.length = ws.length then some ((l.zip ws).foldl (fun r p => r.set p.1 (some p.2)) r) else none
    | _ => none)
/-- a, b = e -/
def setTs (l : List Nat) (w : W) (r : Rho) (s : Vs) : Option Rho := match w with
  | .tup ws => if l.length = ws.length then some ((l.zip ws).foldl (fun r p => r.set p.1 (some p.2)) r) else none
  | .ref n => (match lstAt s n with
    | some ws => if l.length = ws.length then some ((l.zip ws).foldl (fun r p => r.set p.1 (some p.2)) r) else none
    | none => none)
  | _ => none
def srcV : W → Vs → Out Src
  | .tup l, s => .ok ⟨l, []⟩ s
  | .str x, s => .ok ⟨x.cps.toList.map fun c => .str ⟨#[c]⟩, []⟩ s
  | .ref n, s => match lstAt s n with
    | some l => .ok ⟨l, [(n, l)]⟩ s
    | none => .err
  | _, _ => .err
def rngV (lo hi : Int) (s : Vs) : Out Src := if decide (-(2 ^ 62) ≤ lo ∧ lo < 2 ^ 62 ∧ -(2 ^ 62) ≤ hi ∧ hi < 2 ^ 62) then .ok ⟨(List.range (hi - lo).toNat).map fun (i : Nat) => .int (lo + (i : Int)), []⟩ s else .err
def enumL : Nat → List W → List W
  | _, [] => []
  | i, w :: r => .tup [.int i, w] :: enumL (i + 1) r
/-- what zip walks over: a tuple or a list -/
def seqW (w : W) (s : Vs) : Option (Bool × List W × List (Nat × List W)) := match w with
  | .tup l => some (true, l, [])
  | .ref n => (match lstAt s n with
    | some l => some (false, l, [(n, l)])
    | none => none)
  | _ => none
def zipL (l m : List W) : List W := (l.zip m).map fun p => .tup [p.1, p.2]
def zipV (x y : W) (s : Vs) : Out Src := match seqW x s, seqW y s with
  | some p, some q => .ok ⟨zipL p.2.1 q.2.1, p.2.2 ++ q.2.2⟩ s
  | _, _ => .err
open Classical in
noncomputable def lcL (ok : Vs → Prop) (f : W → Vs → Out (Option W)) : List W → Vs → Out (List W)
  | [], s => if ok s then .ok [] s else .err
  | x :: r, s => if ok s then (match f x s with
    | .ok y s1 => (lcL ok f r s1).bind fun ys s2 => .ok (match y with | some y => y :: ys | none => ys) s2
    | _ => .err) else .err
open Classical in
noncomputable def forL (ok : Vs → Prop) (f : W → Rho → Vs → Fin) : List W → Rho → Vs → Fin
  | [], r, s => if ok s then .nx r s else .err
  | x :: l, r, s => if ok s then (match f x r s with
    | .nx r' s' => forL ok f l r' s'
    | .ct r' s' => forL ok f l r' s'
    | .bk r' s' => .nx r' s'
    | .rt w s' => .rt w s'
    | .exc x r' s' => .exc x r' s'
    | .err => .err) else .err
/-- a while, so many turns at most -/
def iter (c : Rho → Vs → Out Bool) (f : Rho → Vs → Fin) : Nat → Rho → Vs → Fin
  | 0, _, _ => .err
  | n + 1, r, s => match c r s with
    | .ok b s1 => if b then (match f r s1 with
      | .nx r' s' => iter c f n r' s'
      | .ct r' s' => iter c f n r' s'
      | .bk r' s' => .nx r' s'
      | .rt w s' => .rt w s'
      | .exc x r' s' => .exc x r' s'
      | .err => .err) else .nx r s1
    | .exc x s1 => .exc x r s1
    | .err => .err
open Classical in
noncomputable def whlL (c : Rho → Vs → Out Bool) (f : Rho → Vs → Fin) (r : Rho) (s : Vs) : Fin := if h : ∃ n, iter c f n r s ≠ .err then iter c f (choose h) r s else .err
def unlF (n : Nat) (l : List (Key × W)) : Fin → Fin
  | .nx r s => .nx r (s.set n (.dct l))
  | .rt w s => .rt w (s.set n (.dct l))
  | _ => .err
def Out.fin {α : Type} (o : Out α) (r : Rho) (f : α → Vs → Fin) : Fin := match o with
  | .ok a s => f a s
  | .exc x s => .exc x r s
  | .err => .err
def cutW (l : List W) (lo hi : Option Int) : List W := (l.drop (HT.sIx l.length 0 lo)).take (HT.sIx l.length l.length hi - HT.sIx l.length 0 lo)
def slcV (x : W) (i j : Option Int) (s : Vs) : Out W := match x with
  | .tup l => .ok (.tup (cutW l i j)) s
  | .ref n => (match lstAt s n with
    | some l => newL (cutW l i j) s
    | none => .err)
  | _ => .err
/-- a slice's part that is not written -/
def miss : IE → Bool
  | .con .non => true
  | _ => false
def intV : W → Vs → Out (Option Int)
  | .int i, s => .ok (some i) s
  | _, _ => .err
/-- the built-in type whose method it is -/
def mtTy : Str → Option String := fun m => if m = "append" then some "list" else if m = "insert" then some "list" else if m = "remove" then some "list" else if m = "join" then some "str" else none
def recvOk (m : Str) (x : W) (s : Vs) : Bool := match mtTy m, tyV x s with
  | some a, some b => decide (a = b)
  | _, _ => false
def ownOk (c m : Str) (x : W) (s : Vs) : Bool := match x with
  | .ref n => (match s[n]? with
    | some (.ins c' fs) => decide (c' = c) && (fs.lookup m).isNone
    | _ => false)
  | _ => false
/-- a part of an f-string -/
def fmtV : W → Vs → Out W
  | .str y, s => if fits y.length then .ok (.str y) s else .err
  | .int i, s => if decide (i.natAbs.log2 < 1920) then .ok (.str (Str.ofString (toString i))) s else .err
  | _, _ => .err
/-- a[::-1] -/
def revV : W → Vs → Out W
  | .ref n, s => (match lstAt s n with
    | some l => newL l.reverse s
    | none => .err)
  | _, _ => .err
def hxV : HX → Exn → Vs → Out W
  | .at_ a, x, s => (match haV a x with
    | some w => .ok w s
    | none => .err)
  | .lst l, x, s => (match hasV l x with
    | some ws => if fits ws.length then newL ws s else .err
    | none => .err)
  | .ite a z b c, x, s => (match haV a x with
    | some (.str y) => if y = z then hxV b x s else hxV c x s
    | _ => .err)
/-- the first clause that takes it -/
def handF : List Hd → Exn → Rho → Vs → Fin
  | [], x, r, s => .exc x r s
  | h :: t, x, r, s => match xSub x.cls h.cls with
    | some true => if decide (h.slot < r.length ∧ h.tgt ≠ h.slot) then (match hxV h.e x s with
      | .ok w s' => .nx ((r.set h.tgt (some w)).set h.slot none) s'
      | _ => .err) else .err
    | some false => handF t x r s
    | none => .err
noncomputable section
mutual
def den (D : Wd) : IE → Rho → Vs → Out W
  | .var i, r, s => match r[i]? with
    | some (some w) => .ok w s
    | _ => .err
  | .con w, _, s => .ok w s
  | .glo x, _, s => match D.gl x with
    | some w => .ok w s
    | none => .err
  | .bin o a b, r, s => (den D a r s).bind fun x s1 => (den D b r s1).bind fun y s2 => binV o x y s2
  | .neg a, r, s => (den D a r s).bind fun x s1 => match x with
    | .int i => .ok (.int (-i)) s1
    | _ => .err
  | .not a, r, s => (den D a r s).bind fun x s1 => (truth x s1).bind fun b s2 => .ok (.bl (!b)) s2
  | .and a b, r, s => (den D a r s).bind fun x s1 => (truth x s1).bind fun t s2 => if t then den D b r s2 else .ok x s2
  | .or a b, r, s => (den D a r s).bind fun x s1 => (truth x s1).bind fun t s2 => if t then .ok x s2 else den D b r s2
  | .ite c a b, r, s => (den D c r s).bind fun x s1 => (truth x s1).bind fun t s2 => if t then den D a r s2 else den D b r s2
  | .cmp o a b, r, s => (den D a r s).bind fun x s1 => (den D b r s1).bind fun y s2 => cmpV o x y s2
  | .ceq ng cs a b, r, s => (den D a r s).bind fun x s1 => (den D b r s1).bind fun y s2 => eqoV D.fe ng cs x y s2
  | .chn o p a b c, r, s => (den D a r s).bind fun x s1 => (den D b r s1).bind fun y s2 => (cmpV o x y s2).bind fun z s3 => match z with
    | .bl t => if t then (den D c r s3).bind fun w s4 => cmpV p y w s4 else .ok (.bl false) s3
    | _ => .err
  | .tup l, r, s => (denL D l r s).bind fun ws s1 => if fits ws.length then .ok (.tup ws) s1 else .err
  | .lst l, r, s => (denL D l r s).bind fun ws s1 => if fits ws.length then newL ws s1 else .err
  | .dic l, r, s => (denL D l r s).bind fun ws s1 => dicV ws s1
  | .dget a k d, r, s => (den D a r s).bind fun x s1 => if isDct x s1 then (den D k r s1).bind fun y s2 => (den D d r s2).bind fun z s3 => dgetV x y z s3 else .err
  | .dpop a k, r, s => (den D a r s).bind fun x s1 => if isDct x s1 then (den D k r s1).bind fun y s2 => dpopV x y s2 else .err
  | .dsetd a k d, r, s => (den D a r s).bind fun x s1 => if isDct x s1 then (den D k r s1).bind fun y s2 => (den D d r s2).bind fun z s3 => dsetdV x y z s3 else .err
  | .din ng k a, r, s => (den D k r s).bind fun y s1 => (den D a r s1).bind fun x s2 => dinV ng y x s2
  | .lcd e tg a c, r, s => match dlock (den D a r s) s with
    | some (n, l) => (den D a r (s.set n (.lck (.dct l)))).bind fun x s1 => if isRef x n && fits l.length then (lcL (fun s => lckAt s n l) (fun x s2 => match setT tg x r with
      | some r' => (den D c r' s2).bind fun t s3 => (truth t s3).bind fun b s4 => if b then (den D e r' s4).bind fun y s5 => .ok (some y) s5 else .ok none s4
      | none => .err) (l.map fun p => wOf p.1) s1).bind fun ys s6 => unlE n l (newL ys s6) else .err
    | none => .err
  | .idx a b, r, s => (den D a r s).bind fun x s1 => (den D b r s1).bind fun y s2 => idxV x y s2
  | .slc a lo hi, r, s => (den D a r s).bind fun x s1 => (if miss lo then .ok none s1 else (den D lo r s1).bind intV).bind fun l s2 => (if miss hi then .ok none s2 else (den D hi r s2).bind intV).bind fun h s3 => slcV x l h s3
  | .fld a f, r, s => (den D a r s).bind fun x s1 => fldV x f s1
  | .call f l, r, s => (denL D l r s).bind fun ws s1 => D.fe Str.empty f ws s1
  | .callk f pm ks vs, r, s => (denL D vs r s).bind fun ws s1 => if ws.length = ks.length then D.fe Str.empty f (pm.filterMap (ws[·]?)) s1 else .err
  | .callv _ _, _, _ => .err
  | .meth a m l, r, s => (den D a r s).bind fun x s1 => if recvOk m x s1 then (denL D l r s1).bind fun ws s2 => mtV m x ws s2 else .err
  | .omt c m a l, r, s => (den D a r s).bind fun x s1 => if ownOk c m x s1 then (denL D l r s1).bind fun ws s2 => D.fe c m (x :: ws) s2 else .err
  | .bi f l, r, s => (denL D l r s).bind fun ws s1 => biV f ws s1
  | .isi a t, r, s => (den D a r s).bind fun x s1 => isiV t x s1
  | .iso a t cs, r, s => (den D a r s).bind fun x s1 => isoV cs t x s1
  | .lc e tg it c, r, s => (denI D it r s).bind fun q s1 => if !fits q.items.length then .err else (lcL q.ok (fun x s2 => match setT tg x r with
    | some r' => (den D c r' s2).bind fun t s3 => (truth t s3).bind fun b s4 => if b then (den D e r' s4).bind fun y s5 => .ok (some y) s5 else .ok none s4
    | none => .err) q.items s1).bind fun ys s6 => newL ys s6
  | .fst l, r, s => denJ D l Str.empty r s
  | .fmt a, r, s => (den D a r s).bind fun x s1 => fmtV x s1
  | .ostr c a, r, s => (den D a r s).bind fun x s1 => if ownOk c "__str__" x s1 then (D.fe c "__str__" [x] s1).bind fun w s2 => (match w with
    | .str y => .ok (.str y) s2
    | _ => .err) else .err
  | .rev a, r, s => (den D a r s).bind fun x s1 => revV x s1
  | .srk _ _, _, _ => .err
def denL (D : Wd) : IL → Rho → Vs → Out (List W)
  | .nil, _, s => .ok [] s
  | .cons a l, r, s => (den D a r s).bind fun x s1 => (denL D l r s1).bind fun xs s2 => .ok (x :: xs) s2
def denJ (D : Wd) : IL → Str → Rho → Vs → Out W
  | .nil, acc, _, s => .ok (.str acc) s
  | .cons a l, acc, r, s => (den D a r s).bind fun x s1 => match x with
    | .str y => if fits (acc ++ y).length then denJ D l (acc ++ y) r s1 else .err
    | _ => .err
def denI (D : Wd) : II → Rho → Vs → Out Src
  | .val e, r, s => (den D e r s).bind fun x s1 => srcV x s1
  | .rng1 e, r, s => (den D e r s).bind fun x s1 => match x with
    | .int i => rngV 0 i s1
    | _ => .err
  | .rng2 a b, r, s => (den D a r s).bind fun x s1 => (den D b r s1).bind fun y s2 => match x, y with
    | .int i, .int j => rngV i j s2
    | _, _ => .err
  | .zip a b, r, s => (den D a r s).bind fun x s1 => (den D b r s1).bind fun y s2 => zipV x y s2
  | .enum a, r, s => (den D a r s).bind fun x s1 => match x with
    | .ref n => (match lstAt s1 n with
      | some l => .ok ⟨enumL 0 l, [(n, l)]⟩ s1
      | none => .err)
    | _ => .err
  | .items _, _, _ => .err
end
def test (D : Wd) (c : IE) (r : Rho) (s : Vs) : Out Bool := (den D c r s).bind fun x s1 => truth x s1
mutual
def denS (D : Wd) : IS → Rho → Vs → Fin
  | .asg i e, r, s => (den D e r s).fin r fun w s1 => .nx (r.set i (some w)) s1
  | .asgT l e, r, s => (den D e r s).fin r fun w s1 => match setTs l w r s1 with
    | some r' => .nx r' s1
    | none => .err
  | .par i j a b, r, s => (den D a r s).fin r fun x s1 => (den D b r s1).fin r fun y s2 => .nx ((r.set i (some x)).set j (some y)) s2
  | .sfld o f e, r, s => (den D e r s).fin r fun y s1 => (den D o r s1).fin r fun x s2 => match sfldV D.fl x f y s2 with
    | some s3 => .nx r s3
    | none => .err
  | .ssub o i e, r, s => (den D e r s).fin r fun y s1 => (den D o r s1).fin r fun x s2 => (den D i r s2).fin r fun k s3 => match setV x k y s3 with
    | some s4 => .nx r s4
    | none => .err
  | .sslc _ _ _ _, _, _ => .err
  | .exp e, r, s => (den D e r s).fin r fun _ s1 => .nx r s1
  | .ret e, r, s => (den D e r s).fin r fun w s1 => .rt w s1
  | .retN, _, s => .rt .non s
  | .ifs c a b, r, s => (test D c r s).fin r fun t s1 => if t then denB D a r s1 else denB D b r s1
  | .whl c b, r, s => whlL (test D c) (denB D b) r s
  | .fors tg it b, r, s => (denI D it r s).fin r fun q s1 => forL q.ok (fun x r' s2 => match setT tg x r' with
    | some r2 => denB D b r2 s2
    | none => .err) q.items r s1
  | .ford tg a b, r, s => match dlock (den D a r s) s with
    | some (n, l) => (den D a r (s.set n (.lck (.dct l)))).fin r fun x s1 => if isRef x n then unlF n l (forL (fun s => lckAt s n l) (fun x r' s2 => match setT tg x r' with
      | some r2 => denB D b r2 s2
      | none => .err) (l.map fun p => wOf p.1) r s1) else .err
    | none => .err
  | .rse c l, r, s => (denL D l r s).fin r fun ws s1 => match xMake c ws with
    | some x => .exc x r s1
    | none => .err
  | .tryx b hs, r, s => match denB D b r s with
    | .exc x r' s' => handF hs x r' s'
    | o => o
  | .pass, r, s => .nx r s
def denB (D : Wd) : IB → Rho → Vs → Fin
  | .nil, r, s => .nx r s
  | .cons a b, r, s => match denS D a r s with
    | .nx r' s' => denB D b r' s'
    | .rt w s' => .rt w s'
    | .bk r' s' => .bk r' s'
    | .ct r' s' => .ct r' s'
    | .exc x r' s' => .exc x r' s'
    | .err => .err
end
structure Fd where
  np : Nat
  ns : Nat
  dfl : List W
  body : IB
inductive Te where
  | fn (d : Fd) | cls
/-- the parameters' values: those told, then the last defaults -/
def argsOf (d : Fd) (ws : List W) : Option (List W) := if ws.length ≤ d.np ∧ d.np - ws.length ≤ d.dfl.length then some (ws ++ d.dfl.drop (d.dfl.length - (d.np - ws.length))) else none
def runB (D : Wd) (d : Fd) (vs : List W) (s : Vs) : Out W := match denB D d.body (vs.map some ++ List.replicate (d.ns - d.np) none) s with
  | .nx _ s' => .ok .non s'
  | .rt w s' => .ok w s'
  | .exc x _ s' => .exc x s'
  | _ => .err
/-- a call, so many calls deep at most -/
def run (T : Str → Str → Option Te) (gl : Str → Option W) (fl : Str → List Str) : Nat → Str → Str → List W → Vs → Out W
  | 0, _, _, _, _ => .err
  | n + 1, c, f, ws, s => match T c f with
    | some (.fn d) => (match argsOf d ws with
      | some vs => runB ⟨run T gl fl n, gl, fl⟩ d vs s
      | none => .err)
    | some .cls => (match run T gl fl n f "__init__" (.ref s.length :: ws) (s ++ [.ins f []]) with
      | .ok .non s' => .ok (.ref s.length) s'
      | .exc x s' => .exc x s'
      | _ => .err)
    | none => .err
end
end Vm
set_option Elab.async false
set_option linter.all false
set_option maxRecDepth 100000
set_option maxHeartbeats 1000000
/-! What the interpreter's values and places are in the layer's heap. -/
namespace Vm
open PySem L2
abbrev Fg := PySem.W.Frag
abbrev Mg := Str → Option Value

def KL (K : Fg) (a : Addr) (xs : List V) : Prop := ∃ (o : Obj) (its : Array Value) (n : Nat), K.lookup a = some o ∧ o.cls = .type "list" ∧ o.dict = none ∧ o.data = .seq its n ∧ its.size ≤ sizeLine ∧ Vals xs its.toList
section
variable (K : Fg) (mg : Mg) (io : List Addr) (H : Hp)
mutual
inductive Rep : W → V → Prop where
  | non : Rep .non .non
  | bl (b : Bool) : Rep (.bl b) (.bl b)
  | int (i : Int) : Rep (.int i) (.int i)
  | str (x : Str) : Rep (.str x) (.str x)
  | tup {l : List W} {a : Addr} {xs : List V} : SqT K H a xs → Reps l xs → Rep (.tup l) (.ref a)
  | ref {n : Nat} {a : Addr} : io[n]? = some a → Rep (.ref n) (.ref a)
  | glo {x : Str} {a : Addr} : mg x = some (.ref a) → Rep (.glo x) (.ref a)
  | ty (n : String) : Rep (.ty n) (.ty n)
  | scr {l : List Int} {a : Addr} : ((∃ o, H a = some (.frz o (.lst (l.map V.int)))) ∨ KL K a (l.map V.int)) → Rep (.scr l) (.ref a)
inductive Reps : List W → List V → Prop where
  | nil : Reps [] []
  | cons {w : W} {v : V} {l : List W} {xs : List V} : Rep w v → Reps l xs → Reps (w :: l) (v :: xs)
end
/-- pairs of a key and a value -/
inductive RepP {κ : Type} : List (κ × W) → List (κ × V) → Prop where
  | nil : RepP [] []
  | cons {k : κ} {w : W} {v : V} {l : List (κ × W)} {xs : List (κ × V)} : Rep K mg io H w v → RepP l xs → RepP ((k, w) :: l) ((k, v) :: xs)
inductive RepU : HO → Ob → Prop where
  | lst {xs : List V} {l : List W} : Reps K mg io H l xs → RepU (.lst xs) (.lst l)
  | dct {kvs : List (Key × V)} {l : List (Key × W)} : RepP K mg io H l kvs → RepU (.dK kvs) (.dct l)
  | dtt {kvs : List (List Key × V)} {l : List (List Key × W)} : RepP K mg io H l kvs → RepU (.dT kvs) (.dtt l)
  | ins {C dx : Addr} {c : Str} {fs : List (Str × V)} {fw : List (Str × W)} : mg c = some (.ref C) → Cls K C → (∀ f ∈ fw.map (·.1), NoAttr K C f) → RepP K mg io H fw fs → RepU (.ins C dx fs) (.ins c fw)
inductive At (a : Addr) : Ob → Prop where
  | mk {o : Ob} {u : HO} : H a = some u → RepU K mg io H u o → At a o
  | lck {l : List (Key × W)} {kvs : List (Key × V)} {ob : Obj} : H a = some (.frz ob (.dK kvs)) → RepP K mg io H l kvs → At a (.lck (.dct l))
  | lckT {l : List (List Key × W)} {kvs : List (List Key × V)} {ob : Obj} : H a = some (.frz ob (.dT kvs)) → RepP K mg io H l kvs → At a (.lck (.dtt l))
  | tbl {q : Str} : LamX.TabS H a q → At a (.tbl q)
structure Sim (S : Vs) : Prop where
  len : io.length = S.length
  nd : io.Nodup
  at_ : ∀ (n : Nat) (o : Ob), S[n]? = some o → ∃ a, io[n]? = some a ∧ At K mg io H a o
end
/-- later: more places; what is tracked beside the places is as it was -/
structure Ex (io : List Addr) (H : Hp) (jo : List Addr) (J : Hp) : Prop where
  pre : ∃ l, jo = io ++ l
  fr : ∀ a o, a ∉ io → H a = some o → J a = some o ∧ a ∉ jo
  lk : ∀ a ob u, H a = some (.frz ob u) → J a = some (.frz ob u)
theorem Ex.refl (io : List Addr) (H : Hp) : Ex io H io H := ⟨⟨[], (List.append_nil io).symm⟩, fun _ _ h e => ⟨e, h⟩, fun _ _ _ h => h⟩
theorem Ex.trans {io jo ko : List Addr} {H J L : Hp} (a : Ex io H jo J) (b : Ex jo J ko L) : Ex io H ko L := by
  obtain ⟨l, rfl⟩ := a.pre
  obtain ⟨m, rfl⟩ := b.pre
  exact ⟨⟨l ++ m, List.append_assoc _ _ _⟩, fun x o h e => let ⟨e1, h1⟩ := a.fr x o h e; b.fr x o h1 e1, fun x ob u h => b.lk x ob u (a.lk x ob u h)⟩
/-- nothing locked stands there -/
def NF (H : Hp) (a : Addr) : Prop := ∀ ob u, H a ≠ some (.frz ob u)
theorem nf_of {H : Hp} {a : Addr} {o : HO} (h : H a = some o) (hm : Mut (some o)) : NF H a := fun ob u z => by
  rw [h] at z
  cases z
  exact hm
theorem Ex.get {io jo : List Addr} {H J : Hp} (a : Ex io H jo J) {n : Nat} {x : Addr} (h : io[n]? = some x) : jo[n]? = some x := by
  obtain ⟨l, rfl⟩ := a.pre
  rw [List.getElem?_append_left (List.getElem?_eq_some_iff.mp h).1]
  exact h
section
variable {K : Fg} {mg : Mg} {io jo : List Addr} {H J : Hp} {S : Vs}
theorem Sim.mem (s : Sim K mg io H S) {a : Addr} (h : a ∈ io) : ∃ (n : Nat) (o : Ob), io[n]? = some a ∧ S[n]? = some o ∧ At K mg io H a o := by
  obtain ⟨n, hn⟩ := List.mem_iff_getElem?.mp h
  have hl : n < S.length := by rw [← s.len]; exact (List.getElem?_eq_some_iff.mp hn).1
  obtain ⟨b, hb, q⟩ := s.at_ n _ (List.getElem?_eq_getElem hl)
  rw [hn] at hb
  cases hb
  exact ⟨n, _, hn, List.getElem?_eq_getElem hl, q⟩
/-- at a place there is a list, a dict, an instance, or a locked dict -/
theorem At.is {a : Addr} {o : Ob} (h : At K mg io H a o) : (∃ u, H a = some u ∧ Mut (some u)) ∨ (∃ ob kvs, H a = some (.frz ob (.dK kvs))) ∨ (∃ ob kvs, H a = some (.frz ob (.dT kvs))) ∨ ∃ ps, H a = some (.tbl ps) := by
  cases h with
  | mk e r => cases r <;> exact .inl ⟨_, e, trivial⟩
  | lck e _ => exact .inr (.inl ⟨_, _, e⟩)
  | lckT e _ => exact .inr (.inr (.inl ⟨_, _, e⟩))
  | tbl t => exact .inr (.inr (.inr (let ⟨ps, e, _⟩ := t; ⟨ps, e⟩)))
theorem Sim.off (s : Sim K mg io H S) {a : Addr} {u : HO} (e : H a = some u) (h1 : ¬ Mut (some u)) (h2 : ∀ ob kvs, u ≠ .frz ob (.dK kvs)) (h3 : ∀ ob kvs, u ≠ .frz ob (.dT kvs)) (h4 : ∀ ps, u ≠ .tbl ps := by intro _; nofun) : a ∉ io := fun h => by
  obtain ⟨n, o, _, _, q⟩ := s.mem h
  rcases q.is with ⟨v, e', m⟩ | ⟨ob, kvs, e'⟩ | ⟨ob, kvs, e'⟩ | ⟨ps, e'⟩
  · rw [e] at e'; cases e'; exact h1 m
  · rw [e] at e'; cases e'; exact h2 _ _ rfl
  · rw [e] at e'; cases e'; exact h3 _ _ rfl
  · rw [e] at e'; cases e'; exact h4 _ rfl
theorem sqT_mono (s : Sim K mg io H S) (x : Ex io H jo J) {a : Addr} {xs : List V} (h : SqT K H a xs) : SqT K J a xs := by
  rcases h with (h | ⟨o, h⟩) | h
  · exact .inl (.inl (x.fr a _ (s.off h id (fun _ _ => nofun) (fun _ _ => nofun)) h).1)
  · exact .inl (.inr ⟨o, (x.fr a _ (s.off h id (fun _ _ => nofun) (fun _ _ => nofun)) h).1⟩)
  · exact .inr h
mutual
theorem Rep.mono (s : Sim K mg io H S) (x : Ex io H jo J) : ∀ {w : W} {v : V}, Rep K mg io H w v → Rep K mg jo J w v
  | _, _, .non => .non
  | _, _, .bl b => .bl b
  | _, _, .int i => .int i
  | _, _, .str y => .str y
  | _, _, .tup h r => .tup (sqT_mono s x h) (Reps.mono s x r)
  | _, _, .ref h => .ref (x.get h)
  | _, _, .glo h => .glo h
  | _, _, .ty n => .ty n
  | _, _, .scr h => .scr (match h with
    | .inl ⟨o, h⟩ => .inl ⟨o, (x.fr _ _ (s.off h id (fun _ _ => nofun) (fun _ _ => nofun)) h).1⟩
    | .inr h => .inr h)
theorem Reps.mono (s : Sim K mg io H S) (x : Ex io H jo J) : ∀ {l : List W} {xs : List V}, Reps K mg io H l xs → Reps K mg jo J l xs
  | _, _, .nil => .nil
  | _, _, .cons r t => .cons (Rep.mono s x r) (Reps.mono s x t)
end
theorem RepP.mono {κ : Type} (s : Sim K mg io H S) (x : Ex io H jo J) : ∀ {l : List (κ × W)} {xs : List (κ × V)}, RepP K mg io H l xs → RepP K mg jo J l xs
  | _, _, .nil => .nil
  | _, _, .cons r t => .cons (Rep.mono s x r) (RepP.mono s x t)
theorem RepU.mono (s : Sim K mg io H S) (x : Ex io H jo J) {u : HO} {o : Ob} (h : RepU K mg io H u o) : RepU K mg jo J u o := by
  cases h with
  | lst r => exact .lst (r.mono s x)
  | dct r => exact .dct (r.mono s x)
  | dtt r => exact .dtt (r.mono s x)
  | ins e c n r => exact .ins e c n (r.mono s x)
theorem tabS_mono {P : Addr} {q : Str} (t : LamX.TabS H P q) (e : J P = H P) (k : ∀ c, H c = some (LamX.CodeO c q) → J c = some (LamX.CodeO c q)) : LamX.TabS J P q := by
  obtain ⟨ps, h1, h2, h3⟩ := t
  refine ⟨ps, e.trans h1, h2, fun pos cv hc => ?_⟩
  obtain ⟨c, e1, e2⟩ := h3 pos cv hc
  exact ⟨c, e1, k c e2⟩
theorem Sim.offx (s : Sim K mg io H S) {a : Addr} {f : Heap → Prop} (e : H a = some (.ext f)) : a ∉ io := fun h => by
  obtain ⟨n, o, _, _, q⟩ := s.mem h
  cases q with
  | mk e' r => rw [e] at e'; cases e'; cases r
  | lck e' _ => rw [e] at e'; cases e'
  | lckT e' _ => rw [e] at e'; cases e'
  | tbl t => obtain ⟨ps, e', _⟩ := t; rw [e] at e'; cases e'
theorem codeO_mono (s : Sim K mg io H S) (x : Ex io H jo J) {c : Addr} {q : Str} (h : H c = some (LamX.CodeO c q)) : J c = some (LamX.CodeO c q) :=
  (x.fr c _ (s.offx h) h).1
/-- the object at a place is the same later -/
theorem At.mono (s : Sim K mg io H S) (x : Ex io H jo J) {a : Addr} {o : Ob} (h : At K mg io H a o) (e : J a = H a) : At K mg jo J a o := by
  cases h with
  | mk e' r => exact .mk (e.trans e') (r.mono s x)
  | lck e' r => exact .lck (e.trans e') (r.mono s x)
  | lckT e' r => exact .lckT (e.trans e') (r.mono s x)
  | tbl t => exact .tbl (tabS_mono t e fun c h => codeO_mono s x h)
/-- tuples and locked lists stand -/
structure Kt (H J : Hp) : Prop where
  tup : ∀ a xs, H a = some (.tup xs) → J a = some (.tup xs)
  ftup : ∀ a o xs, H a = some (.frz o (.tup xs)) → J a = some (.frz o (.tup xs))
  flst : ∀ a o xs, H a = some (.frz o (.lst xs)) → J a = some (.frz o (.lst xs))
  ext : ∀ a f, H a = some (.ext f) → J a = some (.ext f)
mutual
theorem Rep.keep (k : Kt H J) : ∀ {w : W} {v : V}, Rep K mg io H w v → Rep K mg io J w v
  | _, _, .non => .non
  | _, _, .bl b => .bl b
  | _, _, .int i => .int i
  | _, _, .str y => .str y
  | _, _, .tup h r => .tup (match h with
    | .inl (.inl h) => .inl (.inl (k.tup _ _ h))
    | .inl (.inr ⟨o, h⟩) => .inl (.inr ⟨o, k.ftup _ _ _ h⟩)
    | .inr h => .inr h) (Reps.keep k r)
  | _, _, .ref h => .ref h
  | _, _, .glo h => .glo h
  | _, _, .ty n => .ty n
  | _, _, .scr h => .scr (match h with
    | .inl ⟨o, h⟩ => .inl ⟨o, k.flst _ _ _ h⟩
    | .inr h => .inr h)
theorem Reps.keep (k : Kt H J) : ∀ {l : List W} {xs : List V}, Reps K mg io H l xs → Reps K mg io J l xs
  | _, _, .nil => .nil
  | _, _, .cons r t => .cons (Rep.keep k r) (Reps.keep k t)
end
theorem RepP.keep {κ : Type} (k : Kt H J) : ∀ {l : List (κ × W)} {xs : List (κ × V)}, RepP K mg io H l xs → RepP K mg io J l xs
  | _, _, .nil => .nil
  | _, _, .cons r t => .cons (Rep.keep k r) (RepP.keep k t)
theorem At.keep (k : Kt H J) {a : Addr} {o : Ob} (h : At K mg io H a o) (e : J a = H a) : At K mg io J a o := by
  cases h with
  | mk e' r =>
    refine .mk (e.trans e') ?_
    cases r with
    | lst r => exact .lst (r.keep k)
    | dct r => exact .dct (r.keep k)
    | dtt r => exact .dtt (r.keep k)
    | ins e c n r => exact .ins e c n (r.keep k)
  | lck e' r => exact .lck (e.trans e') (r.keep k)
  | lckT e' r => exact .lckT (e.trans e') (r.keep k)
  | tbl t => exact .tbl (tabS_mono t e fun c h => k.ext _ _ h)
/-- a list beside the places is changed -/
theorem Kt.side {p : Addr} {xs : List V} {u : HO} (h : H p = some (.lst xs)) : Kt H (upd H p u) where
  tup := fun a ys e => by rw [upd_ne]; exact e; intro z; subst z; rw [h] at e; cases e
  ftup := fun a o ys e => by rw [upd_ne]; exact e; intro z; subst z; rw [h] at e; cases e
  flst := fun a o ys e => by rw [upd_ne]; exact e; intro z; subst z; rw [h] at e; cases e
  ext := fun a f e => by rw [upd_ne]; exact e; intro z; subst z; rw [h] at e; cases e
theorem Sim.side (s : Sim K mg io H S) {p : Addr} {xs : List V} {u : HO} (h : H p = some (.lst xs)) (hp : p ∉ io) : Sim K mg io (upd H p u) S := ⟨s.len, s.nd, fun n ob e => by
  obtain ⟨a, ha, q⟩ := s.at_ n ob e
  have hm : a ∈ io := List.mem_iff_getElem?.mpr ⟨n, ha⟩
  exact ⟨a, ha, q.keep (Kt.side h) (by rw [upd_ne]; intro z; subst z; exact hp hm)⟩⟩
theorem Reps.length : ∀ {l : List W} {xs : List V}, Reps K mg io H l xs → l.length = xs.length
  | _, _, .nil => rfl
  | _, _, .cons _ t => congrArg (· + 1) (Reps.length t)
theorem Reps.get : ∀ {l : List W} {xs : List V}, Reps K mg io H l xs → ∀ {i : Nat} {w : W}, l[i]? = some w → ∃ v, xs[i]? = some v ∧ Rep K mg io H w v
  | _, _, .nil, i, w, h => by simp at h
  | _, _, .cons r t, 0, w, h => by simp at h; subst h; exact ⟨_, rfl, r⟩
  | _, _, .cons r t, i + 1, w, h => by
    obtain ⟨v, h1, h2⟩ := Reps.get t (i := i) (w := w) (by simpa using h)
    exact ⟨v, by simpa using h1, h2⟩
theorem Reps.append : ∀ {l : List W} {xs : List V} {m : List W} {ys : List V}, Reps K mg io H l xs → Reps K mg io H m ys → Reps K mg io H (l ++ m) (xs ++ ys)
  | _, _, _, _, .nil, h => h
  | _, _, _, _, .cons r t, h => .cons r (Reps.append t h)
theorem Reps.take : ∀ {l : List W} {xs : List V} (n : Nat), Reps K mg io H l xs → Reps K mg io H (l.take n) (xs.take n)
  | _, _, 0, _ => by simp; exact .nil
  | _, _, n + 1, .nil => .nil
  | _, _, n + 1, .cons r t => .cons r (Reps.take n t)
theorem Reps.drop : ∀ {l : List W} {xs : List V} (n : Nat), Reps K mg io H l xs → Reps K mg io H (l.drop n) (xs.drop n)
  | _, _, 0, h => h
  | _, _, n + 1, .nil => .nil
  | _, _, n + 1, .cons r t => Reps.drop n t
theorem Reps.set {w : W} {v : V} (r : Rep K mg io H w v) : ∀ {l : List W} {xs : List V} (i : Nat), Reps K mg io H l xs → Reps K mg io H (l.set i w) (xs.set i v)
  | _, _, _, .nil => .nil
  | _, _, 0, .cons _ t => .cons r t
  | _, _, i + 1, .cons q t => .cons q (Reps.set r i t)
theorem Reps.flat : ∀ (k : Nat) {l : List W} {xs : List V}, Reps K mg io H l xs → Reps K mg io H (List.replicate k l).flatten (List.replicate k xs).flatten
  | 0, _, _, _ => .nil
  | k + 1, _, _, h => by
    rw [List.replicate_succ, List.replicate_succ, List.flatten_cons, List.flatten_cons]
    exact h.append (Reps.flat k h)
theorem nodup_ixA : ∀ {l : List Addr}, l.Nodup → ∀ {i j : Nat} {x : Addr}, l[i]? = some x → l[j]? = some x → i = j
  | [], _, i, j, x, h, _ => by simp at h
  | a :: l, nd, 0, 0, x, _, _ => rfl
  | a :: l, nd, 0, j + 1, x, h, g => by
    simp at h g
    subst h
    exact absurd (List.mem_iff_getElem?.mpr ⟨j, g⟩) (List.nodup_cons.mp nd).1
  | a :: l, nd, i + 1, 0, x, h, g => by
    simp at h g
    subst g
    exact absurd (List.mem_iff_getElem?.mpr ⟨i, h⟩) (List.nodup_cons.mp nd).1
  | a :: l, nd, i + 1, j + 1, x, h, g => by
    simp at h g
    exact congrArg (· + 1) (nodup_ixA (List.nodup_cons.mp nd).2 h g)
/-- a new place -/
theorem Ex.push {p : Addr} {o : HO} (h : H p = none) : Ex io H (io ++ [p]) (upd H p o) := ⟨⟨[p], rfl⟩, fun a u ha e => by
  have hne : a ≠ p := ne_of_none e h
  exact ⟨by rw [upd_ne hne]; exact e, fun m => by rcases List.mem_append.mp m with m | m; exact ha m; exact hne (List.mem_singleton.mp m)⟩, fun a ob u e => by rw [upd_ne (ne_of_none e h)]; exact e⟩
/-- a new object beside the places -/
theorem Ex.new {p : Addr} {o : HO} (h : H p = none) : Ex io H io (upd H p o) := ⟨⟨[], (List.append_nil io).symm⟩, fun a u ha e => ⟨by rw [upd_ne (ne_of_none e h)]; exact e, ha⟩, fun a ob u e => by rw [upd_ne (ne_of_none e h)]; exact e⟩
theorem Sim.there (s : Sim K mg io H S) {a : Addr} (h : a ∈ io) : ∃ u, H a = some u := by
  obtain ⟨n, o, _, _, q⟩ := s.mem h
  rcases q.is with ⟨u, e, _⟩ | ⟨_, _, e⟩ | ⟨_, _, e⟩ | ⟨_, e⟩ <;> exact ⟨_, e⟩
theorem Sim.fresh (s : Sim K mg io H S) {p : Addr} (h : H p = none) : p ∉ io := fun m => by
  obtain ⟨u, e⟩ := s.there m
  rw [h] at e; cases e
theorem Sim.new (s : Sim K mg io H S) {p : Addr} {o : HO} (h : H p = none) : Sim K mg io (upd H p o) S := ⟨s.len, s.nd, fun n ob e => by
  obtain ⟨a, ha, q⟩ := s.at_ n ob e
  have hm : a ∈ io := List.mem_iff_getElem?.mpr ⟨n, ha⟩
  exact ⟨a, ha, q.mono s (Ex.new h) (by rw [upd_ne]; intro z; subst z; exact s.fresh h hm)⟩⟩
theorem Sim.push (s : Sim K mg io H S) {p : Addr} {u : HO} {o : Ob} (h : H p = none) (r : RepU K mg io H u o) : Sim K mg (io ++ [p]) (upd H p u) (S ++ [o]) := by
  have hp := s.fresh h
  refine ⟨by simp [s.len], ?_, fun n ob e => ?_⟩
  · rw [List.nodup_append]
    exact ⟨s.nd, by simp, fun a ha b hb => by rw [List.mem_singleton.mp hb]; exact fun z => hp (z ▸ ha)⟩
  · by_cases hn : n < S.length
    · rw [List.getElem?_append_left hn] at e
      obtain ⟨a, ha, q⟩ := s.at_ n ob e
      have hm : a ∈ io := List.mem_iff_getElem?.mpr ⟨n, ha⟩
      exact ⟨a, (Ex.push (o := u) h).get ha, q.mono s (Ex.push h) (by rw [upd_ne]; intro z; subst z; exact hp hm)⟩
    · have hl : n < (S ++ [o]).length := (List.getElem?_eq_some_iff.mp e).1
      have hn2 : n = S.length := by simp at hl; omega
      subst hn2
      simp at e
      subst e
      exact ⟨p, by rw [← s.len]; simp, .mk upd_same (r.mono s (Ex.push h))⟩
theorem Ex.write {a : Addr} {u : HO} (h : a ∈ io) (nf : NF H a) : Ex io H io (upd H a u) := ⟨⟨[], (List.append_nil io).symm⟩, fun b o hb e => ⟨by rw [upd_ne]; exact e; intro z; subst z; exact hb h, hb⟩, fun b ob v e => by rw [upd_ne]; exact e; intro z; subst z; exact nf _ _ e⟩
theorem Sim.write (s : Sim K mg io H S) {n : Nat} {a : Addr} {u : HO} {o : Ob} (ha : io[n]? = some a) (nf : NF H a) (r : RepU K mg io H u o) : Sim K mg io (upd H a u) (S.set n o) := by
  have hm : a ∈ io := List.mem_iff_getElem?.mpr ⟨n, ha⟩
  have hn : n < S.length := by rw [← s.len]; exact (List.getElem?_eq_some_iff.mp ha).1
  refine ⟨by rw [List.length_set]; exact s.len, s.nd, fun m ob e => ?_⟩
  by_cases hmn : n = m
  · subst hmn
    rw [List.getElem?_set_self hn] at e
    cases e
    exact ⟨a, ha, .mk upd_same (r.mono s (Ex.write hm nf))⟩
  · rw [List.getElem?_set_ne hmn] at e
    obtain ⟨b, hb, q⟩ := s.at_ m ob e
    refine ⟨b, hb, q.mono s (Ex.write hm nf) ?_⟩
    rw [upd_ne]
    intro z
    subst z
    exact hmn (nodup_ixA s.nd ha hb)
/-- the place of a value -/
theorem Sim.lst (s : Sim K mg io H S) {n : Nat} {a : Addr} {l : List W} (ha : io[n]? = some a) (e : S[n]? = some (.lst l)) : ∃ xs, H a = some (.lst xs) ∧ Reps K mg io H l xs := by
  obtain ⟨b, hb, q⟩ := s.at_ n _ e
  rw [ha] at hb
  cases hb
  cases q with
  | mk e' r =>
    cases r with
    | lst r => exact ⟨_, e', r⟩
theorem Sim.ins (s : Sim K mg io H S) {n : Nat} {a : Addr} {c : Str} {fw : List (Str × W)} (ha : io[n]? = some a) (e : S[n]? = some (.ins c fw)) : ∃ C dx fs, H a = some (.ins C dx fs) ∧ mg c = some (.ref C) ∧ Cls K C ∧ (∀ f ∈ fw.map (·.1), NoAttr K C f) ∧ RepP K mg io H fw fs := by
  obtain ⟨b, hb, q⟩ := s.at_ n _ e
  rw [ha] at hb
  cases hb
  cases q with
  | mk e' r =>
    cases r with
    | ins e2 c n r => exact ⟨_, _, _, e', e2, c, n, r⟩
mutual
theorem Rep.more (hp : ∀ {n : Nat} {a : Addr}, io[n]? = some a → jo[n]? = some a) : ∀ {w : W} {v : V}, Rep K mg io H w v → Rep K mg jo H w v
  | _, _, .non => .non
  | _, _, .bl b => .bl b
  | _, _, .int i => .int i
  | _, _, .str y => .str y
  | _, _, .tup h r => .tup h (Reps.more hp r)
  | _, _, .ref h => .ref (hp h)
  | _, _, .glo h => .glo h
  | _, _, .ty n => .ty n
  | _, _, .scr h => .scr h
theorem Reps.more (hp : ∀ {n : Nat} {a : Addr}, io[n]? = some a → jo[n]? = some a) : ∀ {l : List W} {xs : List V}, Reps K mg io H l xs → Reps K mg jo H l xs
  | _, _, .nil => .nil
  | _, _, .cons r t => .cons (Rep.more hp r) (Reps.more hp t)
end
theorem RepP.more {κ : Type} (hp : ∀ {n : Nat} {a : Addr}, io[n]? = some a → jo[n]? = some a) : ∀ {l : List (κ × W)} {xs : List (κ × V)}, RepP K mg io H l xs → RepP K mg jo H l xs
  | _, _, .nil => .nil
  | _, _, .cons r t => .cons (Rep.more hp r) (RepP.more hp t)
theorem RepU.more (hp : ∀ {n : Nat} {a : Addr}, io[n]? = some a → jo[n]? = some a) {u : HO} {o : Ob} (h : RepU K mg io H u o) : RepU K mg jo H u o := by
  cases h with
  | lst r => exact .lst (r.more hp)
  | dct r => exact .dct (r.more hp)
  | dtt r => exact .dtt (r.more hp)
  | ins e c n r => exact .ins e c n (r.more hp)
theorem At.more (hp : ∀ {n : Nat} {a : Addr}, io[n]? = some a → jo[n]? = some a) {a : Addr} {o : Ob} (h : At K mg io H a o) : At K mg jo H a o := by
  cases h with
  | mk e' r => exact .mk e' (r.more hp)
  | lck e' r => exact .lck e' (r.more hp)
  | lckT e' r => exact .lckT e' (r.more hp)
  | tbl t => exact .tbl t
/-- an object that is tracked beside the places becomes one -/
theorem Sim.adopt2 (s : Sim K mg io H S) {p : Addr} {u : HO} {o : Ob} (h : H p = some u) (hp : p ∉ io) (r : RepU K mg io H u o) : Sim K mg (io ++ [p]) H (S ++ [o]) := by
  have hm : ∀ {n : Nat} {a : Addr}, io[n]? = some a → (io ++ [p])[n]? = some a := fun h => by
    rw [List.getElem?_append_left (List.getElem?_eq_some_iff.mp h).1]
    exact h
  refine ⟨by simp [s.len], ?_, fun n ob e => ?_⟩
  · rw [List.nodup_append]
    exact ⟨s.nd, by simp, fun a ha b hb => by rw [List.mem_singleton.mp hb]; exact fun z => hp (z ▸ ha)⟩
  · by_cases hn : n < S.length
    · rw [List.getElem?_append_left hn] at e
      obtain ⟨a, ha, q⟩ := s.at_ n ob e
      exact ⟨a, hm ha, q.more hm⟩
    · have hl : n < (S ++ [o]).length := (List.getElem?_eq_some_iff.mp e).1
      have hn2 : n = S.length := by simp at hl; omega
      subst hn2
      simp at e
      subst e
      exact ⟨p, by rw [← s.len]; simp, .mk h (r.more hm)⟩
end
end Vm
set_option Elab.async false
set_option linter.all false
set_option maxRecDepth 100000
set_option maxHeartbeats 1000000
/-! Expressions: the interpreter's answer is the machine's. -/
namespace Vm
open PySem L2
/-- an exception as the machine has it -/
def RepX (K : Fg) (mg : Mg) (io : List Addr) (H : Hp) (x : Exn) (cls : Value) (d : Option Addr) : Prop :=
  ∃ C, mg x.cls = some (.ref C) ∧ cls = .ref C ∧ ((x.fs = [] ∧ d = none) ∨ ∃ dd fs, d = some dd ∧ H dd = some (.xd fs) ∧ RepP K mg io H x.fs fs ∧ dd ∉ io)
/-- what is wanted behind the interpreter's answer -/
def Po {α β : Type} (K : Fg) (mg : Mg) (Wx : WX) (R : List Addr → Hp → α → β → Prop) (o : Out α) (io : List Addr) (H : Hp) (σ : L2.St) (Q : β → Hp → Prop) : Prop := match o with
  | .ok a S' => ∀ io' b H', Ex io H io' H' → Sim K mg io' H' S' → R io' H' a b → Q b H'
  | .exc x S' => ∀ io' H' cls d, Ex io H io' H' → Sim K mg io' H' S' → RepX K mg io' H' x cls d → Wx cls d σ H'
  | .err => False
structure RepE (K : Fg) (mg : Mg) (io : List Addr) (H : Hp) (r : Rho) (σ : L2.St) : Prop where
  len : r.length = σ.length
  at_ : ∀ (i : Nat) (w : W), r[i]? = some (some w) → ∃ v, σ[i]? = some (some v) ∧ Rep K mg io H w v
section
variable {K : Fg} {mg : Mg} {Wx : WX} {io jo : List Addr} {H J : Hp} {S : Vs} {σ : L2.St} {r : Rho}
theorem RepE.mono (s : Sim K mg io H S) (x : Ex io H jo J) (e : RepE K mg io H r σ) : RepE K mg jo J r σ := ⟨e.len, fun i w h => let ⟨v, h1, h2⟩ := e.at_ i w h; ⟨v, h1, h2.mono s x⟩⟩
theorem RepE.set (e : RepE K mg io H r σ) {w : W} {v : V} (h : Rep K mg io H w v) (i : Nat) : RepE K mg io H (r.set i (some w)) (σ.set i (some v)) := by
  refine ⟨by rw [List.length_set, List.length_set, e.len], fun j u hj => ?_⟩
  by_cases hij : i = j
  · subst hij
    by_cases hl : i < r.length
    · rw [List.getElem?_set_self hl] at hj
      cases hj
      exact ⟨v, List.getElem?_set_self (by rw [← e.len]; exact hl), h⟩
    · rw [List.getElem?_eq_none (by simpa using hl)] at hj
      cases hj
  · rw [List.getElem?_set_ne hij] at hj
    obtain ⟨x, h1, h2⟩ := e.at_ j u hj
    exact ⟨x, by rw [List.getElem?_set_ne hij]; exact h1, h2⟩
theorem Po.ext {α β : Type} {R : List Addr → Hp → α → β → Prop} {o : Out α} {Q : β → Hp → Prop} (x : Ex io H jo J) (p : Po K mg Wx R o io H σ Q) : Po K mg Wx R o jo J σ Q := by
  cases o with
  | ok a S' => exact fun io' b H' x' => p io' b H' (x.trans x')
  | exc y S' => exact fun io' H' cls d x' => p io' H' cls d (x.trans x')
  | err => exact p
theorem Po.bind {α β γ δ : Type} {R : List Addr → Hp → α → β → Prop} {R2 : List Addr → Hp → γ → δ → Prop} {o : Out α} {f : α → Vs → Out γ} {Q : δ → Hp → Prop} {Y : β → Hp → Prop} (p : Po K mg Wx R2 (o.bind f) io H σ Q)
    (h : ∀ a S1 io1 b H1, o = .ok a S1 → Ex io H io1 H1 → Sim K mg io1 H1 S1 → R io1 H1 a b → Po K mg Wx R2 (f a S1) io1 H1 σ Q → Y b H1) : Po K mg Wx R o io H σ Y := by
  cases o with
  | ok a S' => exact fun io' b H' x s q => h a S' io' b H' rfl x s q (Po.ext x p)
  | exc y S' => exact p
  | err => exact p
theorem Po.now {α β : Type} {R : List Addr → Hp → α → β → Prop} {a : α} {b : β} {Q : β → Hp → Prop} (p : Po K mg Wx R (.ok a S) io H σ Q) (s : Sim K mg io H S) (q : R io H a b) : Q b H := p io b H (Ex.refl io H) s q
end
def tr (K : Fg) (mg : Mg) (Wx : WX) (m : Rho → Vs → Out W) : TE := fun σ H Q => ∃ io S r, Sim K mg io H S ∧ RepE K mg io H r σ ∧ Po K mg Wx (Rep K mg) (m r S) io H σ Q
def trA (K : Fg) (mg : Mg) (Wx : WX) (m : Rho → Vs → Out (List W)) : TA := fun σ H Q => ∃ io S r, Sim K mg io H S ∧ RepE K mg io H r σ ∧ Po K mg Wx (Reps K mg) (m r S) io H σ Q
def trT (K : Fg) (mg : Mg) (Wx : WX) (m : Rho → Vs → Out Bool) : TT := fun σ H Q => ∃ io S r, Sim K mg io H S ∧ RepE K mg io H r σ ∧ Po K mg Wx (fun _ _ a b => a = b) (m r S) io H σ Q
section
variable {X : Cx} {e : Expr}
theorem peMono {t t' : TE} (h : PE X e t) (k : ∀ σ H Q, t' σ H Q → t σ H Q) : PE X e t' := ⟨fun pins s σ H Q I q => h.run pins s σ H Q I (k σ H Q q)⟩
theorem ptMono {t t' : TT} (h : PT X e t) (k : ∀ σ H Q, t' σ H Q → t σ H Q) : PT X e t' := ⟨fun pins s σ H Q I q => h.run pins s σ H Q I (k σ H Q q)⟩
theorem paMono {es : List Expr} {t t' : TA} (h : PA X es t) (k : ∀ σ H Q, t' σ H Q → t σ H Q) : PA X es t' := ⟨fun pos pins s σ H Q I q => h.run pos pins s σ H Q I (k σ H Q q)⟩
/-- one of several readings -/
theorem peAny {ι : Type} {t : ι → TE} (h : ∀ i, PE X e (t i)) : PE X e (fun σ H Q => ∃ i, t i σ H Q) := ⟨fun pins s σ H Q I ⟨i, q⟩ => (h i).run pins s σ H Q I q⟩
theorem peOr {t u : TE} (h : PE X e t) (g : PE X e u) : PE X e (fun σ H Q => t σ H Q ∨ u σ H Q) := ⟨fun pins s σ H Q I q => q.elim (h.run pins s σ H Q I) (g.run pins s σ H Q I)⟩
end
/-- PV: the expression is the interpreter's ir -/
abbrev PV (X : Cx) (D : Wd) (Wx : WX) (e : Expr) (i : IE) : Prop := PE X e (tr X.K X.mg Wx (den D i))
abbrev PVs (X : Cx) (D : Wd) (Wx : WX) (es : List Expr) (l : IL) : Prop := PA X es (trA X.K X.mg Wx (denL D l))
section
variable {X : Cx} {D : Wd} {Wx : WX} {e a b c : Expr} {ia ib ic : IE} {pos : Pos}
theorem pv_var {i : Nat} {x : Str} (hN : X.N[i]? = some x) (hv : Vis X.env.scope x) (hd : (x == ("__debug__" : Str)) = false) (hcd : (x == ("__classdict__" : Str)) = false) : PV X D Wx (.Name x pos) (.var i) :=
  peMono (pe_var hN hv hd hcd) fun σ H Q ⟨io, S, r, s, e, p⟩ => by
    rw [den] at p
    cases h : r[i]? with
    | none => rw [h] at p; exact p.elim
    | some o =>
      cases o with
      | none => rw [h] at p; exact p.elim
      | some w =>
        rw [h] at p
        obtain ⟨v, h1, h2⟩ := e.at_ i w h
        exact ⟨v, h1, p.now s h2⟩
theorem pv_con {w : W} {v : V} (h : PE X e (tC v)) (hr : ∀ io H, Rep X.K X.mg io H w v) : PV X D Wx e (.con w) :=
  peMono h fun σ H Q ⟨io, S, r, s, e, p⟩ => by
    rw [den] at p
    exact p.now s (hr io H)
/-- a constant of the module -/
theorem pv_glo {x : Str} {v : V} (h : PE X (.Name x pos) (tC v)) (hr : ∀ w, D.gl x = some w → ∀ io H, Rep X.K X.mg io H w v) : PV X D Wx (.Name x pos) (.glo x) :=
  peMono h fun σ H Q ⟨io, S, r, s, e, p⟩ => by
    rw [den] at p
    cases h : D.gl x with
    | none => rw [h] at p; exact p.elim
    | some w => rw [h] at p; exact p.now s (hr w h io H)
/-- two expressions, then what is done with their values -/
theorem two {f : W → W → Vs → Out W} {R : R2} (hf : ∀ (io : List Addr) (H : Hp) (S : Vs) (σ : L2.St) (x y : W) (v u : V) (Q : VK), Sim X.K X.mg io H S → Rep X.K X.mg io H x v → Rep X.K X.mg io H y u → Po X.K X.mg Wx (Rep X.K X.mg) (f x y S) io H σ Q → R v u H Q)
    {σ : L2.St} {H : Hp} {Q : VK} (h : tr X.K X.mg Wx (fun r s => (den D ia r s).bind fun x s1 => (den D ib r s1).bind fun y s2 => f x y s2) σ H Q) : tOp R (tr X.K X.mg Wx (den D ia)) (tr X.K X.mg Wx (den D ib)) σ H Q := by
  obtain ⟨io, S, r, s, e, p⟩ := h
  exact ⟨io, S, r, s, e, p.bind fun x S1 io1 v H1 _ x1 s1 r1 p1 => ⟨io1, S1, r, s1, e.mono s x1, p1.bind fun y S2 io2 u H2 _ x2 s2 r2 p2 => hf io2 H2 S2 σ x y v u Q s2 (r1.mono s1 x2) r2 p2⟩⟩
theorem one {f : W → Vs → Out W} {R : V → Hp → VK → Prop} (hf : ∀ (io : List Addr) (H : Hp) (S : Vs) (σ : L2.St) (x : W) (v : V) (Q : VK), Sim X.K X.mg io H S → Rep X.K X.mg io H x v → Po X.K X.mg Wx (Rep X.K X.mg) (f x S) io H σ Q → R v H Q)
    {σ : L2.St} {H : Hp} {Q : VK} (h : tr X.K X.mg Wx (fun r s => (den D ia r s).bind fun x s1 => f x s1) σ H Q) : tUn R (tr X.K X.mg Wx (den D ia)) σ H Q := by
  obtain ⟨io, S, r, s, e, p⟩ := h
  exact ⟨io, S, r, s, e, p.bind fun x S1 io1 v H1 _ x1 s1 r1 p1 => hf io1 H1 S1 σ x v Q s1 r1 p1⟩
end

/-! ### the operators -/
section
variable {X : Cx} {Wx : WX} {io : List Addr} {H : Hp} {S : Vs} {σ : L2.St} {x y : W} {v u : V} {Q : VK}
abbrev VOk (K : Fg) (mg : Mg) (Wx : WX) (f : W → W → Vs → Out W) (R : R2) : Prop := ∀ (io : List Addr) (H : Hp) (S : Vs) (σ : L2.St) (x y : W) (v u : V) (Q : VK), Sim K mg io H S → Rep K mg io H x v → Rep K mg io H y u → Po K mg Wx (Rep K mg) (f x y S) io H σ Q → R v u H Q
def rCatS : R2 := fun x y H Q => ∃ i j, x = .str i ∧ y = .str j ∧ i.length + j.length ≤ sizeLine ∧ Q (.str (i ++ j)) H
def rAddA (K : Fg) : R2 := fun x y H Q => (((rI0 fun i j => .int (i + j)) x y H Q ∨ rCatS x y H Q) ∨ rCatA K x y H Q) ∨ rCat x y H Q
theorem op_addA : OpR X (binaryOp .Add) (rAddA X.K) := ((op_add.or op_add_str).or op_catA).or op_cat
theorem fits_le {n : Nat} (h : fits n = true) : n ≤ sizeLine := of_decide_eq_true h
theorem Sim.nu (s : Sim X.K X.mg io H S) (l : List W) (xs : List V) (r : Reps X.K X.mg io H l xs) {Q : VK} (p : Po X.K X.mg Wx (Rep X.K X.mg) (newL l S) io H σ Q) (q : Addr) (hq : H q = none) : Q (.ref q) (upd H q (.lst xs)) :=
  p _ _ _ (Ex.push hq) (s.push hq (.lst r)) (.ref (by rw [← s.len]; simp))
theorem Sim.tupNew (s : Sim X.K X.mg io H S) {l : List W} {xs : List V} (r : Reps X.K X.mg io H l xs) {Q : VK} (p : Po X.K X.mg Wx (Rep X.K X.mg) (.ok (.tup l) S) io H σ Q) (q : Addr) (hq : H q = none) : Q (.ref q) (upd H q (.tup xs)) :=
  p _ _ _ (Ex.new hq) (s.new hq) (.tup (SqT.of upd_same) (r.mono s (Ex.new hq)))
theorem add_ok : VOk X.K X.mg Wx (binV .add) (rAddA X.K) := fun io H S σ x y v u Q s rx ry p => by
  cases rx with
  | int i =>
    cases ry with
    | int j => exact .inl (.inl (.inl ⟨i, j, rfl, rfl, p.now s (.int _)⟩))
    | _ => exact p.elim
  | str i =>
    cases ry with
    | str j =>
      have p : Po X.K X.mg Wx (Rep X.K X.mg) (if fits (i.length + j.length) then .ok (.str (i ++ j)) S else .err) io H σ Q := p
      by_cases hf : fits (i.length + j.length) = true
      · rw [if_pos hf] at p
        exact .inl (.inl (.inr ⟨i, j, rfl, rfl, fits_le hf, p.now s (.str _)⟩))
      · rw [if_neg hf] at p
        exact p.elim
    | _ => exact p.elim
  | tup h r =>
    rename_i l a xs
    cases ry with
    | tup h2 r2 =>
      rename_i m b ys
      have p : Po X.K X.mg Wx (Rep X.K X.mg) (if fits (l.length + m.length) then .ok (.tup (l ++ m)) S else .err) io H σ Q := p
      by_cases hf : fits (l.length + m.length) = true
      · rw [if_pos hf] at p
        refine .inl (.inr ⟨a, b, xs, ys, rfl, rfl, h, h2, by rw [← r.length, ← r2.length]; exact fits_le hf, ?_⟩)
        exact ⟨fun e => by subst e; cases r; exact p.now s (.tup h2 r2), fun _ e => by subst e; cases r2; exact p.now s (.tup h (by simpa using r)), fun _ _ q hq => s.tupNew (r.append r2) p q hq⟩
      · rw [if_neg hf] at p
        exact p.elim
    | _ => exact p.elim
  | ref h =>
    rename_i n a
    cases ry with
    | ref h2 =>
      rename_i m b
      have p : Po X.K X.mg Wx (Rep X.K X.mg) (match S[n]?, S[m]? with
        | some (.lst l), some (.lst m) => if fits (l.length + m.length) then newL (l ++ m) S else .err
        | _, _ => .err) io H σ Q := p
      split at p
      · rename_i l m2 e1 e2
        obtain ⟨xs, hx, r1⟩ := s.lst h e1
        obtain ⟨ys, hy, r2⟩ := s.lst h2 e2
        by_cases hf : fits (l.length + m2.length) = true
        · rw [if_pos hf] at p
          exact .inr ⟨a, b, xs, ys, rfl, rfl, hx, hy, by rw [← r1.length, ← r2.length]; exact fits_le hf, fun q hq => s.nu _ _ (r1.append r2) p q hq⟩
        · rw [if_neg hf] at p
          exact p.elim
      · exact p.elim
    | _ => exact p.elim
  | _ => exact p.elim
theorem sub_ok : VOk X.K X.mg Wx (binV .sub) (rI0 fun i j => .int (i - j)) := fun io H S σ x y v u Q s rx ry p => by
  cases rx with
  | int i =>
    cases ry with
    | int j => exact ⟨i, j, rfl, rfl, p.now s (.int _)⟩
    | _ => exact p.elim
  | _ => exact p.elim
def rMulA : R2 := fun x y H Q => rI CMulW (fun i j => .int (i * j)) x y H Q ∨ rRep x y H Q
theorem op_mulA : OpR X (binaryOp .Mult) rMulA := op_mulW.or op_rep
theorem mul_ok : VOk X.K X.mg Wx (binV .mul) rMulA := fun io H S σ x y v u Q s rx ry p => by
  cases rx with
  | int i =>
    cases ry with
    | int j =>
      have p : Po X.K X.mg Wx (Rep X.K X.mg) (if mulFits i j then .ok (.int (i * j)) S else .err) io H σ Q := p
      by_cases hf : mulFits i j = true
      · rw [if_pos hf] at p
        exact .inl ⟨i, j, rfl, rfl, (show i.natAbs.log2 + j.natAbs.log2 < 1000000 from of_decide_eq_true hf), p.now s (.int _)⟩
      · rw [if_neg hf] at p
        exact p.elim
    | _ => exact p.elim
  | ref h =>
    rename_i n a
    cases ry with
    | int k =>
      have p : Po X.K X.mg Wx (Rep X.K X.mg) (match S[n]? with
        | some (.lst l) => if decide (-(2 ^ 63) ≤ k ∧ k < 2 ^ 63) && fits (l.length * k.toNat) then newL (List.replicate k.toNat l).flatten S else .err
        | _ => .err) io H σ Q := p
      split at p
      · rename_i l e1
        obtain ⟨xs, hx, r1⟩ := s.lst h e1
        by_cases hf : (decide (-(2 ^ 63) ≤ k ∧ k < 2 ^ 63) && fits (l.length * k.toNat)) = true
        · rw [if_pos hf] at p
          rw [Bool.and_eq_true] at hf
          obtain ⟨h1, h2⟩ := of_decide_eq_true hf.1
          exact .inr ⟨a, k, xs, rfl, rfl, hx, h1, h2, by rw [← r1.length]; exact fits_le hf.2, fun q hq => s.nu _ _ (Reps.flat k.toNat r1) p q hq⟩
        · rw [if_neg hf] at p
          exact p.elim
      · exact p.elim
    | _ => exact p.elim
  | _ => exact p.elim
def CFd (i j : Int) : Prop := j ≠ 0 ∧ Builtin.divisionGoesByPylong i j = false
theorem op_fdivA : OpR X (binaryOp .FloorDiv) (rI CFd fun i j => .int (i.fdiv j)) := opI fun i j _ _ _ _ _ hc q => PyProof.Rows.floordiv_int hc.1 q (.inl hc.2)
theorem fdiv_ok : VOk X.K X.mg Wx (binV .fdiv) (rI CFd fun i j => .int (i.fdiv j)) := fun io H S σ x y v u Q s rx ry p => by
  cases rx with
  | int i =>
    cases ry with
    | int j =>
      have p : Po X.K X.mg Wx (Rep X.K X.mg) (if j == 0 then .err else if Builtin.divisionGoesByPylong i j then .err else .ok (.int (i.fdiv j)) S) io H σ Q := p
      by_cases h0 : (j == 0) = true
      · rw [if_pos h0] at p; exact p.elim
      · rw [if_neg h0] at p
        by_cases h1 : Builtin.divisionGoesByPylong i j = true
        · rw [if_pos h1] at p; exact p.elim
        · rw [if_neg h1] at p
          exact ⟨i, j, rfl, rfl, ⟨by simpa using h0, by simpa using h1⟩, p.now s (.int _)⟩
    | _ => exact p.elim
  | _ => exact p.elim
theorem mod_ok : VOk X.K X.mg Wx (binV .mod) (rI (fun _ j => j ≠ 0) fun i j => .int (i.fmod j)) := fun io H S σ x y v u Q s rx ry p => by
  cases rx with
  | int i =>
    cases ry with
    | int j =>
      have p : Po X.K X.mg Wx (Rep X.K X.mg) (if j == 0 then .err else .ok (.int (i.fmod j)) S) io H σ Q := p
      by_cases h0 : (j == 0) = true
      · rw [if_pos h0] at p; exact p.elim
      · rw [if_neg h0] at p
        exact ⟨i, j, rfl, rfl, by simpa using h0, p.now s (.int _)⟩
    | _ => exact p.elim
  | _ => exact p.elim
theorem pow_ok : VOk X.K X.mg Wx (binV .pow) (rI CPow fun i j => .int (i ^ j.toNat)) := fun io H S σ x y v u Q s rx ry p => by
  cases rx with
  | int i =>
    cases ry with
    | int j =>
      have p : Po X.K X.mg Wx (Rep X.K X.mg) (if decide (0 ≤ j ∧ j ≤ 1000000 ∧ i.natAbs < 2 ^ 64) then .ok (.int (i ^ j.toNat)) S else .err) io H σ Q := p
      by_cases h0 : decide (0 ≤ j ∧ j ≤ 1000000 ∧ i.natAbs < 2 ^ 64) = true
      · rw [if_pos h0] at p
        exact ⟨i, j, rfl, rfl, (show 0 ≤ j ∧ j ≤ 1000000 ∧ i.natAbs < 2 ^ 64 from of_decide_eq_true h0), p.now s (.int _)⟩
      · rw [if_neg h0] at p; exact p.elim
    | _ => exact p.elim
  | _ => exact p.elim
end
def opOf : BOp → Operator
  | .add => .Add | .sub => .Sub | .mul => .Mult | .fdiv => .FloorDiv | .mod => .Mod | .pow => .Pow
section
variable {X : Cx} {D : Wd} {Wx : WX} {e a b c : Expr} {ia ib ic : IE} {pos : Pos}
theorem pv_bin {o : BOp} (ha : PV X D Wx a ia) (hb : PV X D Wx b ib) : PV X D Wx (.BinOp a (opOf o) b pos) (.bin o ia ib) := by
  have k : ∀ {R : R2}, OpR X (binaryOp (opOf o)) R → VOk X.K X.mg Wx (binV o) R → PV X D Wx (.BinOp a (opOf o) b pos) (.bin o ia ib) := fun ho hv =>
    peMono (pe_op ho ha hb) fun σ H Q h => two hv (by
      obtain ⟨io, S, r, s, e, p⟩ := h
      rw [den] at p
      exact ⟨io, S, r, s, e, p⟩)
  cases o with
  | add => exact k op_addA add_ok
  | sub => exact k op_sub sub_ok
  | mul => exact k op_mulA mul_ok
  | fdiv => exact k op_fdivA fdiv_ok
  | mod => exact k op_modN mod_ok
  | pow => exact k op_pow pow_ok
end
end Vm
set_option Elab.async false
set_option linter.all false
set_option maxRecDepth 100000
set_option maxHeartbeats 1000000
/-! Tests, comparisons, tuples, lists, items, fields. -/
namespace Vm
open PySem L2
section
variable {X : Cx} {D : Wd} {Wx : WX} {io : List Addr} {H : Hp} {S : Vs} {σ : L2.St} {x y : W} {v u : V} {Q : VK}
/-! ### a value's truth -/
theorem emp {l : List W} {xs : List V} (r : Reps X.K X.mg io H l xs) : (!l.isEmpty) = !xs.isEmpty := by cases r <;> rfl
theorem empP {κ : Type} {l : List (κ × W)} {xs : List (κ × V)} (r : RepP X.K X.mg io H l xs) : (!l.isEmpty) = !xs.isEmpty := by cases r <;> rfl
theorem truth_get {α : Type} {R : List Addr → Hp → Bool → α → Prop} {Q : α → Hp → Prop} (p : Po X.K X.mg Wx R (truth x S) io H σ Q) : ∃ b, trV S x = some b ∧ Po X.K X.mg Wx R (.ok b S) io H σ Q := by
  unfold truth at p
  cases h : trV S x with
  | none => rw [h] at p; exact p.elim
  | some b => rw [h] at p; exact ⟨b, rfl, p⟩
theorem truth_some {b : Bool} (h : trV S x = some b) : truth x S = .ok b S := by
  unfold truth
  rw [h]
theorem trV_ok {b : Bool} (s : Sim X.K X.mg io H S) (r : Rep X.K X.mg io H x v) (h : trV S x = some b) : TruV X.K v H b := by
  cases r with
  | non => cases h; rfl
  | bl c => cases h; rfl
  | int i => cases h; rfl
  | str y =>
    have h : (if fits y.length then some ((y.length : Int) != 0) else none) = some b := h
    by_cases hf : fits y.length = true
    · rw [if_pos hf] at h; cases h; exact ⟨fits_le hf, rfl⟩
    · rw [if_neg hf] at h; cases h
  | tup h1 r => cases h; exact .inr (.inl ⟨_, h1, emp r⟩)
  | ref h1 =>
    rename_i n a
    have h : (match S[n]? with
      | some (.lst l) => some (!l.isEmpty)
      | some (.dct l) => some (!l.isEmpty)
      | _ => none) = some b := h
    split at h
    · rename_i l e1
      cases h
      obtain ⟨xs, hx, r1⟩ := s.lst h1 e1
      exact .inl ⟨xs, SqL.of hx, emp r1⟩
    · rename_i l e1
      cases h
      obtain ⟨b, hb, q⟩ := s.at_ n _ e1
      rw [h1] at hb
      cases hb
      cases q with
      | mk e' r => cases r with | dct r => exact .inr (.inr ⟨_, e', empP r⟩)
    · cases h
  | glo _ => cases h
  | ty _ => cases h
  | scr _ => cases h
theorem truth_ok {Q : Bool → Hp → Prop} (s : Sim X.K X.mg io H S) (r : Rep X.K X.mg io H x v) (p : Po X.K X.mg Wx (fun _ _ a b => a = b) (truth x S) io H σ Q) : ∃ k, TruV X.K v H k ∧ Q k H := by
  obtain ⟨b, h, p⟩ := truth_get p
  exact ⟨b, trV_ok s r h, p.now s rfl⟩
abbrev PTV (X : Cx) (D : Wd) (Wx : WX) (e : Expr) (i : IE) : Prop := PT X e (trT X.K X.mg Wx (test D i))
theorem Po.assoc {α β γ δ : Type} {K : Fg} {mg : Mg} {R2 : List Addr → Hp → γ → δ → Prop} {o : Out α} {f : α → Vs → Out β} {g : β → Vs → Out γ} {Q : δ → Hp → Prop} (p : Po K mg Wx R2 ((o.bind f).bind g) io H σ Q) : Po K mg Wx R2 (o.bind fun a s => (f a s).bind g) io H σ Q := by
  cases o <;> exact p
/-- the value's own truth: any expression but a comparison, not, and, or, .. if .. else -/
theorem ptv_plain {e : Expr} {i : IE} (h : PV X D Wx e i) (he : ∀ whole, isTrue e X.env whole = (do let v ← whole; standAt e.pos; holding [v] (truthy v))) : PTV X D Wx e i :=
  ptMono (pt_truth h he) fun σ H Q ⟨io, S, r, s, e, p⟩ => ⟨io, S, r, s, e, Po.bind p fun x S1 io1 v H1 _ x1 s1 r1 p1 => truth_ok s1 r1 p1⟩
theorem pv_not {a : Expr} {ia : IE} {pos : Pos} (h : PV X D Wx a ia) : PV X D Wx (.UnaryOp .Not a pos) (.not ia) :=
  peMono (pe_notT h) fun σ H Q ⟨io, S, r, s, e, p⟩ => ⟨io, S, r, s, e, by
    rw [den] at p
    refine p.bind fun x S1 io1 v H1 _ x1 s1 r1 p1 => ?_
    exact truth_ok s1 r1 (p1.bind fun b S2 io2 b' H2 _ x2 s2 hb p2 => by subst hb; exact p2.now s2 (.bl _))⟩
theorem ptv_not {a : Expr} {ia : IE} {pos : Pos} (h : PTV X D Wx a ia) : PTV X D Wx (.UnaryOp .Not a pos) (.not ia) :=
  ptMono (pt_not h) fun σ H Q ⟨io, S, r, s, e, p⟩ => ⟨io, S, r, s, e, by
    unfold test at p ⊢
    rw [den] at p
    have p := Po.assoc p
    cases ha : den D ia r S with
    | ok x S1 =>
      rw [ha] at p
      have p : Po X.K X.mg Wx (fun _ _ a b => a = b) (((truth x S1).bind fun b s2 => .ok (.bl (!b)) s2).bind fun x s1 => truth x s1) io H σ Q := p
      show Po X.K X.mg Wx (fun _ _ a b => a = b) (truth x S1) io H σ _
      cases ht : trV S1 x with
      | none =>
        have e0 : truth x S1 = .err := by unfold truth; rw [ht]
        rw [e0] at p ⊢; exact p
      | some b =>
        rw [truth_some ht] at p ⊢
        intro io' b' H' x' s' hb
        subst hb
        exact p io' _ H' x' s' rfl
    | exc y S1 => rw [ha] at p; exact p
    | err => rw [ha] at p; exact p⟩
/-- (a and ..) as a test: a's answer, then the rest's -/
theorem test_and {ia ib : IE} {r : Rho} {Q : Bool → Hp → Prop} (p : Po X.K X.mg Wx (fun _ _ a b => a = b) (test D (.and ia ib) r S) io H σ Q) (s : Sim X.K X.mg io H S) (e : RepE X.K X.mg io H r σ) :
    Po X.K X.mg Wx (fun _ _ a b => a = b) (test D ia r S) io H σ (fun c H1 => if c = true then trT X.K X.mg Wx (test D ib) σ H1 Q else Q false H1) := by
  unfold test at p ⊢
  rw [den] at p
  have p := Po.assoc p
  cases ha : den D ia r S with
  | ok x S1 =>
    rw [ha] at p
    have p : Po X.K X.mg Wx (fun _ _ a b => a = b) (((truth x S1).bind fun t s2 => if t then den D ib r s2 else .ok x s2).bind fun x s1 => truth x s1) io H σ Q := p
    show Po X.K X.mg Wx (fun _ _ a b => a = b) (truth x S1) io H σ _
    cases ht : trV S1 x with
    | none =>
      have e0 : truth x S1 = .err := by unfold truth; rw [ht]
      rw [e0] at p ⊢; exact p
    | some b =>
      rw [truth_some ht] at p ⊢
      intro io' b' H' x' s' hb
      subst hb
      cases b with
      | true =>
        show trT X.K X.mg Wx (test D ib) σ H' Q
        exact ⟨io', S1, r, s', e.mono s x', Po.ext x' p⟩
      | false =>
        show Q false H'
        have p : Po X.K X.mg Wx (fun _ _ a b => a = b) (truth x S1) io H σ Q := p
        rw [truth_some ht] at p
        exact p io' _ H' x' s' rfl
  | exc y S1 => rw [ha] at p; exact p
  | err => rw [ha] at p; exact p
theorem test_or {ia ib : IE} {r : Rho} {Q : Bool → Hp → Prop} (p : Po X.K X.mg Wx (fun _ _ a b => a = b) (test D (.or ia ib) r S) io H σ Q) (s : Sim X.K X.mg io H S) (e : RepE X.K X.mg io H r σ) :
    Po X.K X.mg Wx (fun _ _ a b => a = b) (test D ia r S) io H σ (fun c H1 => if c = true then Q true H1 else trT X.K X.mg Wx (test D ib) σ H1 Q) := by
  unfold test at p ⊢
  rw [den] at p
  have p := Po.assoc p
  cases ha : den D ia r S with
  | ok x S1 =>
    rw [ha] at p
    have p : Po X.K X.mg Wx (fun _ _ a b => a = b) (((truth x S1).bind fun t s2 => if t then .ok x s2 else den D ib r s2).bind fun x s1 => truth x s1) io H σ Q := p
    show Po X.K X.mg Wx (fun _ _ a b => a = b) (truth x S1) io H σ _
    cases ht : trV S1 x with
    | none =>
      have e0 : truth x S1 = .err := by unfold truth; rw [ht]
      rw [e0] at p ⊢; exact p
    | some b =>
      rw [truth_some ht] at p ⊢
      intro io' b' H' x' s' hb
      subst hb
      cases b with
      | false =>
        show trT X.K X.mg Wx (test D ib) σ H' Q
        exact ⟨io', S1, r, s', e.mono s x', Po.ext x' p⟩
      | true =>
        show Q true H'
        have p : Po X.K X.mg Wx (fun _ _ a b => a = b) (truth x S1) io H σ Q := p
        rw [truth_some ht] at p
        exact p io' _ H' x' s' rfl
  | exc y S1 => rw [ha] at p; exact p
  | err => rw [ha] at p; exact p
abbrev PWV (X : Cx) (D : Wd) (Wx : WX) (e : Expr) (i : IE) : Prop := PW X e (trT X.K X.mg Wx (test D i))
theorem pwMono {e : Expr} {t t' : TT} (h : PW X e t) (k : ∀ σ H Q, t' σ H Q → t σ H Q) : PW X e t' := ⟨fun w pins s σ H Q I q => h.run w pins s σ H Q I (k σ H Q q)⟩
theorem pwv_and1 {a : Expr} {ia : IE} {pos : Pos} (ha : PTV X D Wx a ia) : PWV X D Wx (.BoolOp .And [a] pos) ia := pw_and1 ha
theorem pwv_or1 {a : Expr} {ia : IE} {pos : Pos} (ha : PTV X D Wx a ia) : PWV X D Wx (.BoolOp .Or [a] pos) ia := pw_or1 ha
theorem pwv_and {a b : Expr} {l : List Expr} {ia ib : IE} {pos : Pos} (ha : PTV X D Wx a ia) (hb : PWV X D Wx (.BoolOp .And (b :: l) pos) ib) : PWV X D Wx (.BoolOp .And (a :: b :: l) pos) (.and ia ib) :=
  pwMono (pw_and ha hb) fun σ H Q ⟨io, S, r, s, e, p⟩ => ⟨io, S, r, s, e, test_and p s e⟩
theorem pwv_or {a b : Expr} {l : List Expr} {ia ib : IE} {pos : Pos} (ha : PTV X D Wx a ia) (hb : PWV X D Wx (.BoolOp .Or (b :: l) pos) ib) : PWV X D Wx (.BoolOp .Or (a :: b :: l) pos) (.or ia ib) :=
  pwMono (pw_or ha hb) fun σ H Q ⟨io, S, r, s, e, p⟩ => ⟨io, S, r, s, e, test_or p s e⟩
/-- as values -/
theorem pv_one {o : BoolOp} {a : Expr} {ia : IE} {pos : Pos} (h : PV X D Wx a ia) : PV X D Wx (.BoolOp o [a] pos) ia := pe_one h
theorem truth_two {ia : IE} {r : Rho} {f : Bool → W → Vs → Out W} {P : V → Bool → Hp → Prop} (p : Po X.K X.mg Wx (Rep X.K X.mg) ((den D ia r S).bind fun x s1 => (truth x s1).bind fun t s2 => f t x s2) io H σ Q)
    (k : ∀ t x S1 io1 v H1, Ex io H io1 H1 → Sim X.K X.mg io1 H1 S1 → Rep X.K X.mg io1 H1 x v → Po X.K X.mg Wx (Rep X.K X.mg) (f t x S1) io1 H1 σ Q → P v t H1) :
    Po X.K X.mg Wx (Rep X.K X.mg) (den D ia r S) io H σ (fun v H1 => ∃ k, TruV X.K v H1 k ∧ P v k H1) :=
  p.bind fun x S1 io1 v H1 _ x1 s1 r1 p1 => by
    cases h : trV S1 x with
    | none =>
      have e : truth x S1 = .err := by unfold truth; rw [h]
      rw [e] at p1
      exact p1.elim
    | some b =>
      rw [truth_some h] at p1
      exact ⟨b, trV_ok s1 r1 h, k b x S1 io1 v H1 x1 s1 r1 p1⟩
theorem pv_and {a b : Expr} {l : List Expr} {ia ib : IE} {pos : Pos} (ha : PV X D Wx a ia) (hb : PV X D Wx (.BoolOp .And (b :: l) pos) ib) : PV X D Wx (.BoolOp .And (a :: b :: l) pos) (.and ia ib) :=
  peMono (pe_andT ha hb) fun σ H Q ⟨io, S, r, s, e, p⟩ => ⟨io, S, r, s, e, by
    rw [den] at p
    refine truth_two (f := fun t x s2 => if t then den D ib r s2 else .ok x s2) p fun t x S1 io1 v H1 x1 s1 r1 p1 => ?_
    cases t with
    | true => exact ⟨io1, S1, r, s1, e.mono s x1, p1⟩
    | false => exact p1.now s1 r1⟩
theorem pv_or {a b : Expr} {l : List Expr} {ia ib : IE} {pos : Pos} (ha : PV X D Wx a ia) (hb : PV X D Wx (.BoolOp .Or (b :: l) pos) ib) : PV X D Wx (.BoolOp .Or (a :: b :: l) pos) (.or ia ib) :=
  peMono (pe_orT ha hb) fun σ H Q ⟨io, S, r, s, e, p⟩ => ⟨io, S, r, s, e, by
    rw [den] at p
    refine truth_two (f := fun t x s2 => if t then .ok x s2 else den D ib r s2) p fun t x S1 io1 v H1 x1 s1 r1 p1 => ?_
    cases t with
    | true => exact p1.now s1 r1
    | false => exact ⟨io1, S1, r, s1, e.mono s x1, p1⟩⟩
theorem pv_ite {c a b : Expr} {ic ia ib : IE} {pos : Pos} (hc : PTV X D Wx c ic) (ha : PV X D Wx a ia) (hb : PV X D Wx b ib) : PV X D Wx (.IfExp c a b pos) (.ite ic ia ib) :=
  peMono (pe_ifExp hc ha hb) fun σ H Q ⟨io, S, r, s, e, p⟩ => ⟨io, S, r, s, e, by
    rw [den] at p
    unfold test
    cases hx : den D ic r S with
    | ok x S1 =>
      rw [hx] at p
      have p : Po X.K X.mg Wx (Rep X.K X.mg) ((truth x S1).bind fun t s2 => if t then den D ia r s2 else den D ib r s2) io H σ Q := p
      show Po X.K X.mg Wx (fun _ _ a b => a = b) (truth x S1) io H σ _
      refine p.bind fun t S2 io2 t' H2 _ x2 s2 ht p2 => ?_
      subst ht
      cases t with
      | true => exact ⟨io2, S2, r, s2, e.mono s x2, p2⟩
      | false => exact ⟨io2, S2, r, s2, e.mono s x2, p2⟩
    | exc y S1 => rw [hx] at p; exact p
    | err => rw [hx] at p; exact p⟩
end
end Vm
set_option Elab.async false
set_option linter.all false
set_option maxRecDepth 100000
set_option maxHeartbeats 1000000
/-! Comparisons, tuples, lists, items, slices, fields, built-ins. -/
namespace Vm
open PySem L2
/-! ### what is read off the syntax -/
def notStar : Expr → Bool | .Starred _ _ => false | _ => true
def notComp : Expr → Bool | .ListComp _ _ _ _ => false | .SetComp _ _ _ _ => false | .DictComp _ _ _ _ _ => false | _ => true
def notSet : Expr → Bool | .Set _ _ _ => false | _ => true
def notSlice : Expr → Bool | .Slice _ _ _ _ => false | _ => true
def plainT : Expr → Bool | .UnaryOp _ _ _ => false | .BoolOp _ _ _ => false | .IfExp _ _ _ _ => false | .Compare _ _ _ _ => false | _ => true
def baseOk : Expr → Bool | .Call (.Name id _) [] [] _ => id != "super" | _ => true
theorem star_of {e : Expr} {es : List Expr} {env : Env} (h : notStar e = true) : starEach (e :: es) env = (false, eval e env) :: starEach es env := by cases e <;> first | rfl | cases h
theorem comp_of {e : Expr} {t : Option Expr} {l : Nat} {env : Env} (h : notComp e = true) : swapsWith e t l env = pure false := by cases e <;> first | rfl | cases h
theorem set_of {e : Expr} {env : Env} (h : notSet e = true) (x : Value) : foldedSetIterable e env x = pure x := by cases e <;> first | rfl | cases h
theorem slice_of {e : Expr} (h : notSlice e = true) : PlainIx e := fun o i => by cases e <;> first | rfl | cases h
theorem marks_of {e : Expr} {o : CmpOp} (h : notSet e = true) : behindInMarks o e = false := by cases e <;> first | rfl | cases h
theorem plain_of {e : Expr} {env : Env} (h : plainT e = true) (whole : Sem Value) : isTrue e env whole = (do let v ← whole; standAt e.pos; holding [v] (truthy v)) := by cases e <;> first | rfl | cases h
theorem base_of {e : Expr} {f : Str} {env : Env} (h : baseOk e = true) (w : Sem Value) : attributeBase e f env w = w := by
  unfold attributeBase
  split
  · rename_i id p pos
    have h2 : (id != "super") = true := h
    rw [h2] <;> rfl
  · rfl
section
variable {X : Cx} {D : Wd} {Wx : WX} {io : List Addr} {H : Hp} {S : Vs} {σ : L2.St} {x y : W} {v u : V} {Q : VK}
/-! ### == of data -/
theorem lstAt_of {s : Vs} {n : Nat} {l : List W} (h : lstAt s n = some l) : s[n]? = some (.lst l) := by
  unfold lstAt at h
  split at h
  · cases h; assumption
  · cases h
theorem map_some {α β : Type} {o : Option α} {f : α → β} {b : β} (h : o.map f = some b) : ∃ a, o = some a ∧ f a = b := by
  cases o with
  | none => cases h
  | some a => exact ⟨a, rfl, Option.some.inj h⟩
mutual
theorem toD_ok (s : Sim X.K X.mg io H S) : ∀ (k : Nat) {x : W} {v : V} {d : PyData}, Rep X.K X.mg io H x v → toD S k x = some d → Dp X.K H v d
  | 0, _, _, _, _, h => by cases h
  | k + 1, _, _, _, .non, h => by cases h; exact .non
  | k + 1, _, _, _, .bl b, h => by cases h; exact .bl b
  | k + 1, _, _, _, .int i, h => by cases h; exact .int i
  | k + 1, _, _, _, .str y, h => by cases h; exact .str y
  | k + 1, _, _, _, .tup h1 r, h => by
    obtain ⟨ds, e, rfl⟩ := map_some (show (toDs S k _).map PyData.tuple = some _ from h)
    exact .tup h1 (toDs_ok s k r e)
  | k + 1, _, _, d, .ref (n := n) h1, h => by
    have h : (match lstAt S n with
      | some l => (toDs S k l).map .list
      | none => none) = some d := h
    split at h
    · rename_i l e1
      obtain ⟨xs, hx, r⟩ := s.lst h1 (lstAt_of e1)
      obtain ⟨ds, e, rfl⟩ := map_some h
      exact .lst (SqL.of hx) (toDs_ok s k r e)
    · cases h
  | k + 1, _, _, _, .glo _, h => by cases h
  | k + 1, _, _, _, .ty _, h => by cases h
  | k + 1, _, _, _, .scr _, h => by cases h
theorem toDs_ok (s : Sim X.K X.mg io H S) : ∀ (k : Nat) {l : List W} {xs : List V} {ds : List PyData}, Reps X.K X.mg io H l xs → toDs S k l = some ds → DpAll X.K H xs ds
  | 0, _, _, _, _, h => by cases h
  | k + 1, _, _, _, .nil, h => by cases h; exact .nil
  | k + 1, _, _, ds, .cons (w := w) (l := l) r t, h => by
    have h : (match toD S k w, toDs S k l with
      | some d, some ds => some (d :: ds)
      | _, _ => none) = some ds := h
    split at h
    · rename_i d es e1 e2
      cases h
      exact .cons (toD_ok s k r e1) (toDs_ok s k t e2)
    · cases h
end
theorem eqD_ok (s : Sim X.K X.mg io H S) (rx : Rep X.K X.mg io H x v) (ry : Rep X.K X.mg io H y u) {b : Bool} (h : eqD S x y = some b) : ∃ d e, Dp X.K H v d ∧ Dp X.K H u e ∧ SeqAt.shaped d = true ∧ SeqAt.shaped e = true ∧ b = PyData.eqv d e := by
  unfold eqD at h
  split at h
  · rename_i d e e1 e2
    split at h
    · rename_i hs
      rw [Bool.and_eq_true] at hs
      cases h
      exact ⟨d, e, toD_ok s _ rx e1, toD_ok s _ ry e2, hs.1, hs.2, rfl⟩
    · cases h
  · cases h
theorem eq_ok : VOk X.K X.mg Wx (cmpV .eq) (rEqD X.K) := fun io H S σ x y v u Q s rx ry p => by
  have p : Po X.K X.mg Wx (Rep X.K X.mg) (match eqD S x y with
    | some b => .ok (.bl b) S
    | none => .err) io H σ Q := p
  split at p
  · rename_i b e
    obtain ⟨d, e, h1, h2, h3, h4, rfl⟩ := eqD_ok s rx ry e
    exact ⟨d, _, h1, h2, h3, h4, p.now s (.bl _)⟩
  · exact p.elim
theorem ne_ok : VOk X.K X.mg Wx (cmpV .ne) (rNeD X.K) := fun io H S σ x y v u Q s rx ry p => by
  have p : Po X.K X.mg Wx (Rep X.K X.mg) (match eqD S x y with
    | some b => .ok (.bl (!b)) S
    | none => .err) io H σ Q := p
  split at p
  · rename_i b e
    obtain ⟨d, e, h1, h2, h3, h4, rfl⟩ := eqD_ok s rx ry e
    exact ⟨d, _, h1, h2, h3, h4, p.now s (.bl _)⟩
  · exact p.elim
def rLtD (K : Fg) : R2 := fun x y H Q => ∃ d e, Dp K H x d ∧ Dp K H y e ∧ SeqAt.shaped d = true ∧ SeqAt.shaped e = true ∧ PySem.W.alike d e = true ∧ d ≠ .none ∧ Q (.bl (PySem.W.dataLt d e)) H
theorem op_ltD (hu : X.A.units + 65 < cLine) : OpR X (compareOp .Lt) (rLtD X.K) := by
  intro pins s σ H x y v u Q I rx ry h
  obtain ⟨d, e, hd, he, sd, se, al, hn, q⟩ := h
  obtain ⟨as, r1⟩ := Dp.reads I d x v hd rx
  obtain ⟨bs, r2⟩ := Dp.reads I e y u he ry
  have hdep : d.depth ≤ 64 := by
    have := sd
    unfold SeqAt.shaped at this
    rw [Bool.and_eq_true] at this
    exact of_decide_eq_true this.2
  exact PySem.W.lt_data r1 r2 al hn (by omega) ⟨.bl _, H, I, rfl, q⟩
def rLtS : R2 := fun x y H Q => ∃ i j, x = .str i ∧ y = .str j ∧ Q (.bl (decide (i.cps.toList < j.cps.toList))) H
def rGtS : R2 := fun x y H Q => ∃ i j, x = .str i ∧ y = .str j ∧ Q (.bl (decide (j.cps.toList < i.cps.toList))) H
def rLtA (K : Fg) : R2 := fun x y H Q => ((rI0 fun i j => .bl (decide (i < j))) x y H Q ∨ rLtD K x y H Q) ∨ rLtS x y H Q
def rGtA : R2 := fun x y H Q => (rI0 fun i j => .bl (decide (j < i))) x y H Q ∨ rGtS x y H Q
theorem ltD_ok (s : Sim X.K X.mg io H S) (rx : Rep X.K X.mg io H x v) (ry : Rep X.K X.mg io H y u) {b : Bool} (h : ltD S x y = some b) : ∃ d e, Dp X.K H v d ∧ Dp X.K H u e ∧ SeqAt.shaped d = true ∧ SeqAt.shaped e = true ∧ PySem.W.alike d e = true ∧ d ≠ .none ∧ b = PySem.W.dataLt d e := by
  unfold ltD at h
  split at h
  · rename_i d e e1 e2
    split at h
    · rename_i hs
      simp only [Bool.and_eq_true] at hs
      cases h
      refine ⟨d, e, toD_ok s _ rx e1, toD_ok s _ ry e2, hs.1.1.1, hs.1.1.2, hs.1.2, fun z => ?_, rfl⟩
      have h2 := hs.2
      rw [z] at h2
      cases h2
    · cases h
  · cases h
theorem memD_ok {n : Nat} {q : Addr} (s : Sim X.K X.mg io H S) (rx : Rep X.K X.mg io H x v) (hn : io[n]? = some q) {b : Bool} (h : memD S x n = some b) : ∃ d ds, Dp X.K H v d ∧ Dp X.K H (.ref q) (.list ds) ∧ SeqAt.shaped d = true ∧ SeqAt.shaped (.list ds) = true ∧ b = ds.any fun z => PyData.eqv z d := by
  unfold memD at h
  split at h
  · rename_i d ds e1 e2
    split at h
    · rename_i hs
      rw [Bool.and_eq_true] at hs
      cases h
      exact ⟨d, ds, toD_ok s _ rx e1, toD_ok s _ (.ref hn) e2, hs.1, hs.2, rfl⟩
    · cases h
  · cases h
def rInA (K : Fg) : R2 := fun x y H Q => (∃ (c : Nat) (z : Str), x = .str ⟨#[c]⟩ ∧ y = .str z ∧ Q (.bl (decide (c ∈ z.cps.toList))) H) ∨ rInD K x y H Q
theorem memV_ok {Wx : WX} {f : Bool → Bool} (s : Sim X.K X.mg io H S) (rx : Rep X.K X.mg io H x v) (ry : Rep X.K X.mg io H y u) (p : Po X.K X.mg Wx (Rep X.K X.mg) (match memV S x y with
    | some b => .ok (.bl (f b)) S
    | none => .err) io H σ Q) : (∃ (c : Nat) (z : Str), v = .str ⟨#[c]⟩ ∧ u = .str z ∧ Q (.bl (f (decide (c ∈ z.cps.toList)))) H) ∨
    ∃ d ds, Dp X.K H v d ∧ Dp X.K H u (.list ds) ∧ SeqAt.shaped d = true ∧ SeqAt.shaped (.list ds) = true ∧ Q (.bl (f (ds.any fun z => PyData.eqv z d))) H := by
  split at p
  · rename_i b e
    unfold memV at e
    split at e
    · rename_i a z
      split at e
      · rename_i c ec
        cases e
        cases rx
        cases ry
        refine .inl ⟨c, z, ?_, rfl, p.now s (.bl _)⟩
        congr
        cases a
        congr
        exact Array.ext' ec
      · cases e
    · cases ry with
      | ref hn =>
        obtain ⟨d, ds, h1, h2, h3, h4, rfl⟩ := memD_ok s rx hn e
        exact .inr ⟨d, ds, h1, h2, h3, h4, p.now s (.bl _)⟩
    · cases e
  · exact p.elim
theorem in_ok : VOk X.K X.mg Wx (cmpV .in_) (rInA X.K) := fun io H S σ x y v u Q s rx ry p => memV_ok (f := id) s rx ry (by
  have p : Po X.K X.mg Wx (Rep X.K X.mg) (match memV S x y with
    | some b => .ok (.bl b) S
    | none => .err) io H σ Q := p
  exact p)
theorem nin_ok : VOk X.K X.mg Wx (cmpV .nin) (rNotInD X.K) := fun io H S σ x y v u Q s rx ry p => by
  cases ry with
  | @ref n q hn =>
    have p : Po X.K X.mg Wx (Rep X.K X.mg) (match memD S x n with
      | some b => .ok (.bl (!b)) S
      | none => .err) io H σ Q := p
    split at p
    · rename_i b e
      obtain ⟨d, ds, h1, h2, h3, h4, rfl⟩ := memD_ok s rx hn e
      exact ⟨d, ds, h1, h2, h3, h4, p.now s (.bl _)⟩
    · exact p.elim
  | _ => cases x <;> exact p.elim
theorem lt_ok : VOk X.K X.mg Wx (cmpV .lt) (rLtA X.K) := fun io H S σ x y v u Q s rx ry p => by
  have tt : ∀ {l m : List W}, x = .tup l → y = .tup m → rLtD X.K v u H Q := fun {l m} e1 e2 => by
    subst e1 e2
    have p : Po X.K X.mg Wx (Rep X.K X.mg) (match ltD S (.tup l) (.tup m) with
      | some b => .ok (.bl b) S
      | none => .err) io H σ Q := p
    split at p
    · rename_i b e
      obtain ⟨d, e', h1, h2, h3, h4, h5, h6, rfl⟩ := ltD_ok s rx ry e
      exact ⟨d, e', h1, h2, h3, h4, h5, h6, p.now s (.bl _)⟩
    · exact p.elim
  cases rx with
  | int i =>
    cases ry with
    | int j => exact .inl (.inl ⟨i, j, rfl, rfl, p.now s (.bl _)⟩)
    | _ => exact p.elim
  | str i =>
    cases ry with
    | str j => exact .inr ⟨i, j, rfl, rfl, p.now s (.bl _)⟩
    | _ => exact p.elim
  | tup _ _ =>
    cases ry with
    | tup _ _ => exact .inl (.inr (tt rfl rfl))
    | _ => exact p.elim
  | _ => exact p.elim
theorem le_ok : VOk X.K X.mg Wx (cmpV .le) (rI0 fun i j => .bl (decide (i ≤ j))) := fun io H S σ x y v u Q s rx ry p => by
  cases rx with
  | int i =>
    cases ry with
    | int j => exact ⟨i, j, rfl, rfl, p.now s (.bl _)⟩
    | _ => exact p.elim
  | _ => exact p.elim
theorem gt_ok : VOk X.K X.mg Wx (cmpV .gt) rGtA := fun io H S σ x y v u Q s rx ry p => by
  cases rx with
  | int i =>
    cases ry with
    | int j => exact .inl ⟨i, j, rfl, rfl, p.now s (.bl _)⟩
    | _ => exact p.elim
  | str i =>
    cases ry with
    | str j => exact .inr ⟨i, j, rfl, rfl, p.now s (.bl _)⟩
    | _ => exact p.elim
  | _ => exact p.elim
theorem ge_ok : VOk X.K X.mg Wx (cmpV .ge) (rI0 fun i j => .bl (decide (j ≤ i))) := fun io H S σ x y v u Q s rx ry p => by
  cases rx with
  | int i =>
    cases ry with
    | int j => exact ⟨i, j, rfl, rfl, p.now s (.bl _)⟩
    | _ => exact p.elim
  | _ => exact p.elim
theorem non_is (r : Rep X.K X.mg io H x v) : isNon x = decide (v = .non) := by cases r <;> rfl
theorem is_ok : VOk X.K X.mg Wx (cmpV .is_) (fun x y H Q => y = .non ∧ Q (.bl (decide (x = .non))) H) := fun io H S σ x y v u Q s rx ry p => by
  cases ry with
  | non =>
    have p : Po X.K X.mg Wx (Rep X.K X.mg) (.ok (.bl (isNon x)) S) io H σ Q := p
    exact ⟨rfl, p.now s (by rw [non_is rx]; exact .bl _)⟩
  | _ => exact p.elim
theorem isn_ok : VOk X.K X.mg Wx (cmpV .isn) (fun x y H Q => y = .non ∧ Q (.bl (!decide (x = .non))) H) := fun io H S σ x y v u Q s rx ry p => by
  cases ry with
  | non =>
    have p : Po X.K X.mg Wx (Rep X.K X.mg) (.ok (.bl (!isNon x)) S) io H σ Q := p
    exact ⟨rfl, p.now s (by rw [non_is rx]; exact .bl _)⟩
  | _ => exact p.elim
def cmpOf : COp → CmpOp
  | .eq => .Eq | .ne => .NotEq | .lt => .Lt | .le => .LtE | .gt => .Gt | .ge => .GtE | .is_ => .Is | .isn => .IsNot | .in_ => .In | .nin => .NotIn
/-- each comparison has its rule -/
theorem cmp_rule (hu : X.A.units + 65 < cLine) (o : COp) : ∃ R : R2, OpR X (compareOp (cmpOf o)) R ∧ VOk X.K X.mg Wx (cmpV o) R := by
  cases o with
  | eq => exact ⟨_, op_eqD (by omega), eq_ok⟩
  | ne => exact ⟨_, op_neD (by omega), ne_ok⟩
  | lt => exact ⟨_, (op_lt.or (op_ltD hu)).or op_lt_str, lt_ok⟩
  | le => exact ⟨_, op_le, le_ok⟩
  | gt => exact ⟨_, op_gt.or op_gt_str, gt_ok⟩
  | ge => exact ⟨_, op_ge, ge_ok⟩
  | is_ => exact ⟨_, op_isN, is_ok⟩
  | isn => exact ⟨_, op_notN, isn_ok⟩
  | in_ => exact ⟨_, op_in_sign.or (op_inD hu), in_ok⟩
  | nin => exact ⟨_, op_notInD hu, nin_ok⟩
theorem cmpV_bl {o : COp} {s s' : Vs} {x y w : W} (h : cmpV o x y s = .ok w s') : ∃ b, w = .bl b := by
  unfold cmpV at h
  split at h
  all_goals first
    | (cases h; done)
    | (cases h; exact ⟨_, rfl⟩)
    | (split at h <;> first | (cases h; done) | (cases h; exact ⟨_, rfl⟩))
/-- an expression that is True or False, as a test -/
theorem test_bl {i : IE} {r : Rho} {Q : Bool → Hp → Prop} (hb : ∀ w s', den D i r S = .ok w s' → ∃ b, w = .bl b) (p : Po X.K X.mg Wx (fun _ _ a b => a = b) (test D i r S) io H σ Q) :
    Po X.K X.mg Wx (Rep X.K X.mg) (den D i r S) io H σ (fun v H' => ∃ k, v = .bl k ∧ Q k H') := by
  unfold test at p
  cases h : den D i r S with
  | ok w s' =>
    obtain ⟨b, rfl⟩ := hb w s' h
    rw [h] at p
    intro io' v H' x' s'' r'
    cases r'
    exact ⟨b, rfl, p io' b H' x' s'' rfl⟩
  | exc y s' => rw [h] at p; exact p
  | err => rw [h] at p; exact p
variable {a b c : Expr} {ia ib ic : IE} {pos : Pos}
theorem pv_cmp {o : COp} (hu : X.A.units + 65 < cLine) (hs : notSet b = true) (ha : PV X D Wx a ia) (hb : PV X D Wx b ib) : PV X D Wx (.Compare a [cmpOf o] [b] pos) (.cmp o ia ib) := by
  obtain ⟨R, ho, hv⟩ := cmp_rule (Wx := Wx) hu o
  exact peMono (pe_cmpR ho ha hb (marks_of hs)) fun σ H Q h => two hv (by
    obtain ⟨io, S, r, s, e, p⟩ := h
    rw [den] at p
    exact ⟨io, S, r, s, e, p⟩)
theorem bind_get {α β : Type} {o : Out α} {f : α → Vs → Out β} {w : β} {s : Vs} (h : o.bind f = .ok w s) : ∃ a s1, o = .ok a s1 ∧ f a s1 = .ok w s := by
  cases o with
  | ok a s1 => exact ⟨a, s1, rfl, h⟩
  | exc x s1 => cases h
  | err => cases h
theorem ptv_cmp {o : COp} (hu : X.A.units + 65 < cLine) (hs : notSet b = true) (ha : PV X D Wx a ia) (hb : PV X D Wx b ib) : PTV X D Wx (.Compare a [cmpOf o] [b] pos) (.cmp o ia ib) := by
  obtain ⟨R, ho, hv⟩ := cmp_rule (Wx := Wx) hu o
  exact ptMono (pt_cmpR ho ha hb (marks_of hs)) fun σ H Q h => by
    obtain ⟨io, S, r, s, e, p⟩ := h
    have p := test_bl (fun w s' h => by
      rw [den] at h
      obtain ⟨x, s1, _, h⟩ := bind_get h
      obtain ⟨y, s2, _, h⟩ := bind_get h
      exact cmpV_bl h) p
    rw [den] at p
    exact two hv ⟨io, S, r, s, e, p⟩
theorem chn_rd {o o' : COp} {R R' : R2} (hv : VOk X.K X.mg Wx (cmpV o) R) (hv' : VOk X.K X.mg Wx (cmpV o') R') {Q : VK} (h : tr X.K X.mg Wx (den D (.chn o o' ia ib ic)) σ H Q) :
    tChain R R' (tr X.K X.mg Wx (den D ia)) (tr X.K X.mg Wx (den D ib)) (tr X.K X.mg Wx (den D ic)) σ H Q := by
  obtain ⟨io, S, r, s, e, p⟩ := h
  rw [den] at p
  refine ⟨io, S, r, s, e, p.bind fun x S1 io1 v H1 _ x1 s1 r1 p1 => ⟨io1, S1, r, s1, e.mono s x1, p1.bind fun y S2 io2 u H2 _ x2 s2 r2 p2 => ?_⟩⟩
  refine hv io2 H2 S2 σ x y v u _ s2 (r1.mono s1 x2) r2 (p2.bind fun z S3 io3 z' H3 ez x3 s3 r3 p3 => ?_)
  obtain ⟨k, rfl⟩ := cmpV_bl ez
  cases r3
  refine ⟨k, rfl, ?_⟩
  cases k with
  | false => exact p3.now s3 (.bl _)
  | true =>
    exact ⟨io3, S3, r, s3, ((e.mono s x1).mono s1 x2).mono s2 x3, Po.bind (f := fun w s4 => cmpV o' y w s4) p3 fun w S4 io4 w' H4 _ x4 s4 r4 p4 => hv' io4 H4 S4 σ y w u w' Q s4 ((r2.mono s2 x3).mono s3 x4) r4 p4⟩
theorem pv_chn {o o' : COp} (hu : X.A.units + 65 < cLine) (hs : notSet c = true) (ha : PV X D Wx a ia) (hb : PV X D Wx b ib) (hc : PV X D Wx c ic) : PV X D Wx (.Compare a [cmpOf o, cmpOf o'] [b, c] pos) (.chn o o' ia ib ic) := by
  obtain ⟨R, ho, hv⟩ := cmp_rule (Wx := Wx) hu o
  obtain ⟨R', ho', hv'⟩ := cmp_rule (Wx := Wx) hu o'
  exact peMono (pe_chain ho ho' ha hb hc (show behindInMarks _ c = false from marks_of hs)) fun σ H Q h => chn_rd hv hv' h
theorem chn_bl {o o' : COp} {r : Rho} {w : W} {s' : Vs} (h : den D (.chn o o' ia ib ic) r S = .ok w s') : ∃ b, w = .bl b := by
  rw [den] at h
  obtain ⟨x, s1, _, h⟩ := bind_get h
  obtain ⟨y, s2, _, h⟩ := bind_get h
  obtain ⟨z, s3, hz, h⟩ := bind_get h
  obtain ⟨k, rfl⟩ := cmpV_bl hz
  cases k with
  | false => cases h; exact ⟨_, rfl⟩
  | true =>
    have h : (den D ic r s3).bind (fun w s4 => cmpV o' y w s4) = .ok w s' := h
    obtain ⟨w2, s4, _, h⟩ := bind_get h
    exact cmpV_bl h
theorem ptv_chn {o o' : COp} (hu : X.A.units + 65 < cLine) (hs : notSet c = true) (ha : PV X D Wx a ia) (hb : PV X D Wx b ib) (hc : PV X D Wx c ic) : PTV X D Wx (.Compare a [cmpOf o, cmpOf o'] [b, c] pos) (.chn o o' ia ib ic) := by
  obtain ⟨R, ho, hv⟩ := cmp_rule (Wx := Wx) hu o
  obtain ⟨R', ho', hv'⟩ := cmp_rule (Wx := Wx) hu o'
  exact ptMono (pt_chain ho ho' ha hb hc (show behindInMarks _ c = false from marks_of hs)) fun σ H Q ⟨io, S, r, s, e, p⟩ => chn_rd hv hv' ⟨io, S, r, s, e, test_bl (fun w s' h => chn_bl h) p⟩
/-! ### arguments, tuples, lists -/
theorem pvs_nil : PVs X D Wx [] .nil := paMono pa_nil fun σ H Q ⟨io, S, r, s, e, p⟩ => by
  rw [denL] at p
  exact p.now s .nil
theorem pvs_cons {es : List Expr} {l : IL} (hs : notStar a = true) (ha : PV X D Wx a ia) (hl : PVs X D Wx es l) : PVs X D Wx (a :: es) (.cons ia l) := paMono (pa_cons ha hl (star_of hs)) fun σ H Q ⟨io, S, r, s, e, p⟩ => by
  rw [denL] at p
  exact ⟨io, S, r, s, e, p.bind fun x S1 io1 v H1 _ x1 s1 r1 p1 => ⟨io1, S1, r, s1, e.mono s x1, p1.bind fun xs S2 io2 vs H2 _ x2 s2 r2 p2 => p2.now s2 (.cons (r1.mono s1 x2) r2)⟩⟩
theorem pv_tup {es : List Expr} {l : IL} {k : Nat} (h : PVs X D Wx es l) : PV X D Wx (.Tuple es k pos) (.tup l) := peMono (pe_tup h) fun σ H Q ⟨io, S, r, s, e, p⟩ => by
  rw [den] at p
  refine ⟨io, S, r, s, e, p.bind fun xs S1 io1 vs H1 _ x1 s1 r1 p1 => ?_⟩
  by_cases hf : fits xs.length = true
  · rw [if_pos hf] at p1
    exact ⟨by rw [← r1.length]; exact fits_le hf, fun q hq => s1.tupNew r1 p1 q hq⟩
  · rw [if_neg hf] at p1; exact p1.elim
theorem pv_lst {es : List Expr} {l : IL} (h : PVs X D Wx es l) : PV X D Wx (.List es pos) (.lst l) := peMono (pe_lst h) fun σ H Q ⟨io, S, r, s, e, p⟩ => by
  rw [den] at p
  refine ⟨io, S, r, s, e, p.bind fun xs S1 io1 vs H1 _ x1 s1 r1 p1 => ?_⟩
  by_cases hf : fits xs.length = true
  · rw [if_pos hf] at p1
    exact ⟨by rw [← r1.length]; exact fits_le hf, fun q hq => s1.nu _ _ r1 p1 q hq⟩
  · rw [if_neg hf] at p1; exact p1.elim
/-! ### a[i] -/
theorem atI_rep {l : List W} {xs : List V} (r : Reps X.K X.mg io H l xs) {i : Int} {w : W} (h : atI l i = some w) : ∃ v, atI xs i = some v ∧ Rep X.K X.mg io H w v := by
  unfold atI at h ⊢
  rw [← r.length]
  cases e : ixN l.length i with
  | none => rw [e] at h; cases h
  | some j =>
    rw [e] at h
    exact r.get h
theorem scr_sq {l : List Int} {q : Addr} (h : (∃ o, H q = some (.frz o (.lst (l.map V.int)))) ∨ KL X.K q (l.map V.int)) : SqL X.K H q (l.map V.int) := by
  rcases h with ⟨o, h⟩ | h
  · exact .inl (.inr ⟨o, h⟩)
  · exact .inr h
/-! ### dicts, to be read -/
theorem keyW_rep {k : Key} (r : Rep X.K X.mg io H x v) (h : keyW x = some k) : v = kV k := by
  cases r <;> first | (cases h; done) | (cases h; rfl)
theorem getK_rep {l : List (Key × W)} {xs : List (Key × V)} (r : RepP X.K X.mg io H l xs) (k : Key) : (∀ w, getK l k = some w → ∃ v, valV xs k = some v ∧ Rep X.K X.mg io H w v) ∧ (getK l k = none → valV xs k = none) := by
  induction r with
  | nil => exact ⟨fun w h => (by cases h), fun _ => rfl⟩
  | @cons k' w v l xs q t ih =>
    by_cases e : k' = k
    · have e1 : getK ((k', w) :: l) k = some w := by unfold getK; rw [List.find?_cons_of_pos (by simp [e])]; rfl
      refine ⟨fun z h => ?_, fun h => ?_⟩
      · rw [e1] at h
        cases h
        exact ⟨v, valV_pos e, q⟩
      · rw [e1] at h; cases h
    · have e1 : getK ((k', w) :: l) k = getK l k := by unfold getK; rw [List.find?_cons_of_neg (by simp [e])]
      have e2 : valV ((k', v) :: xs) k = valV xs k := valV_neg e
      rw [e1, e2]
      exact ih
theorem getK_some {l : List (Key × W)} {xs : List (Key × V)} (r : RepP X.K X.mg io H l xs) (k : Key) : (getK l k).isSome = (valV xs k).isSome := by
  have h := getK_rep r k
  cases e : getK l k with
  | none => rw [h.2 e]; rfl
  | some w =>
    obtain ⟨v, e2, _⟩ := h.1 w e
    rw [e2]
    rfl
theorem dctR_rep (s : Sim X.K X.mg io H S) (r : Rep X.K X.mg io H x v) {l : List (Key × W)} (h : dctR S x = some l) : ∃ a kvs, v = .ref a ∧ Rd H a (.dK kvs) ∧ RepP X.K X.mg io H l kvs := by
  cases r with
  | @ref n a ha =>
    have h : (match S[n]? with
      | some (.dct l) => some l
      | some (.lck (.dct l)) => some l
      | _ => none) = some l := h
    split at h
    · rename_i l' e1
      cases h
      obtain ⟨b, hb, q⟩ := s.at_ n _ e1
      rw [ha] at hb
      cases hb
      cases q with
      | mk e' r => cases r with | dct r => exact ⟨a, _, rfl, .inl e', r⟩
    · rename_i l' e1
      cases h
      obtain ⟨b, hb, q⟩ := s.at_ n _ e1
      rw [ha] at hb
      cases hb
      cases q with
      | mk e' r => cases r
      | lck e' r => exact ⟨a, _, rfl, .inr ⟨_, e'⟩, r⟩
    · cases h
  | _ => cases h
theorem dctW_rep (s : Sim X.K X.mg io H S) (r : Rep X.K X.mg io H x v) {n : Nat} {l : List (Key × W)} (h : dctW S x = some (n, l)) : x = .ref n ∧ S[n]? = some (.dct l) ∧ ∃ a kvs, v = .ref a ∧ io[n]? = some a ∧ H a = some (.dK kvs) ∧ RepP X.K X.mg io H l kvs := by
  cases r with
  | @ref m a ha =>
    have h : (match S[m]? with
      | some (.dct l) => some (m, l)
      | _ => none) = some (n, l) := h
    split at h
    · rename_i l' e1
      cases h
      obtain ⟨b, hb, q⟩ := s.at_ n _ e1
      rw [ha] at hb
      cases hb
      cases q with
      | mk e' r => cases r with | dct r => exact ⟨rfl, e1, a, _, rfl, ha, e', r⟩
    · cases h
  | _ => cases h
theorem idx_ok : VOk X.K X.mg Wx (fun x y s => if isDct x s = true then .err else idxV x y s) (rIx X.K) := fun io H S σ x y v u Q s rx ry p => by
  change Po X.K X.mg Wx (Rep X.K X.mg) (if isDct x S = true then .err else idxV x y S) io H σ Q at p
  by_cases hd : isDct x S = true
  · rw [if_pos hd] at p; exact p.elim
  rw [if_neg hd] at p
  cases rx with
  | scr h =>
    rename_i l q
    cases ry with
    | int i =>
      have p : Po X.K X.mg Wx (Rep X.K X.mg) (match atI l i with
        | some j => .ok (.int j) S
        | none => .err) io H σ Q := p
      split at p
      · rename_i j e
        refine .inl ⟨q, _, i, .int j, rfl, rfl, scr_sq h, ?_, p.now s (.int _)⟩
        unfold atI at e ⊢
        rw [List.length_map]
        cases e2 : ixN l.length i with
        | none => rw [e2] at e; cases e
        | some k =>
          rw [e2] at e
          have e : l[k]? = some j := e
          show (l.map V.int)[k]? = some (.int j)
          rw [List.getElem?_map, e]
          rfl
      · exact p.elim
    | _ => exact p.elim
  | tup h r =>
    rename_i l q xs
    cases ry with
    | int i =>
      have p : Po X.K X.mg Wx (Rep X.K X.mg) (match atI l i with
        | some w => .ok w S
        | none => .err) io H σ Q := p
      split at p
      · rename_i w e
        obtain ⟨v, h1, h2⟩ := atI_rep r e
        exact .inr (.inl ⟨q, xs, i, v, rfl, rfl, h, h1, p.now s h2⟩)
      · exact p.elim
    | _ => exact p.elim
  | ref h =>
    rename_i n q
    cases ry with
    | int i =>
      have p : Po X.K X.mg Wx (Rep X.K X.mg) (match lstAt S n with
        | some l => (match atI l i with
          | some w => .ok w S
          | none => .err)
        | none => idxD (.ref n) (.int i) S) io H σ Q := p
      split at p
      · rename_i l e1
        obtain ⟨xs, hx, r⟩ := s.lst h (lstAt_of e1)
        split at p
        · rename_i w e
          obtain ⟨v, h1, h2⟩ := atI_rep r e
          exact .inl ⟨q, xs, i, v, rfl, rfl, SqL.of hx, h1, p.now s h2⟩
        · exact p.elim
      · unfold idxD at p
        have e : dctR S (.ref n) = none := by
          unfold isDct at hd
          simpa using hd
        rw [e] at p
        exact p.elim
    | str z =>
      have p : Po X.K X.mg Wx (Rep X.K X.mg) (idxD (.ref n) (.str z) S) io H σ Q := p
      unfold idxD at p
      have e : dctR S (.ref n) = none := by
        unfold isDct at hd
        simpa using hd
      rw [e] at p
      exact p.elim
    | _ => exact p.elim
  | str z =>
    cases ry with
    | int i =>
      have p : Po X.K X.mg Wx (Rep X.K X.mg) (if fits z.length then (match atI z.cps.toList i with
        | some c => .ok (.str ⟨#[c]⟩) S
        | none => .err) else .err) io H σ Q := p
      by_cases hf : fits z.length = true
      · rw [if_pos hf] at p
        split at p
        · rename_i c e
          exact .inr (.inr ⟨z, i, c, rfl, rfl, fits_le hf, e, p.now s (.str _)⟩)
        · exact p.elim
      · rw [if_neg hf] at p; exact p.elim
    | _ => exact p.elim
  | _ => exact p.elim
def rDGet : R2 := fun x y H Q => ∃ a v, x = .ref a ∧ DGet H a y (some v) ∧ Q v H
theorem idxd_ok : VOk X.K X.mg Wx (fun x y s => if isDct x s = true then idxV x y s else .err) rDGet := fun io H S σ x y v u Q s rx ry p => by
  have p : Po X.K X.mg Wx (Rep X.K X.mg) (if isDct x S = true then idxV x y S else .err) io H σ Q := p
  by_cases hd : isDct x S = true
  · rw [if_pos hd] at p
    obtain ⟨l, hl⟩ := Option.isSome_iff_exists.mp hd
    have p : Po X.K X.mg Wx (Rep X.K X.mg) (idxD x y S) io H σ Q := by
      cases x with
      | ref n =>
        cases y with
        | int i =>
          have p : Po X.K X.mg Wx (Rep X.K X.mg) (match lstAt S n with
            | some l => (match atI l i with
              | some w => .ok w S
              | none => .err)
            | none => idxD (.ref n) (.int i) S) io H σ Q := p
          have e : lstAt S n = none := by
            have hl : (match S[n]? with
              | some (.dct l) => some l
              | some (.lck (.dct l)) => some l
              | _ => none) = some l := hl
            unfold lstAt
            split at hl <;> first | (rename_i e; rw [e]) | cases hl
          rw [e] at p
          exact p
        | str z => exact p
        | _ => exact p.elim
      | _ => cases hl
    obtain ⟨a, kvs, rfl, hr, r⟩ := dctR_rep s rx hl
    unfold idxD at p
    rw [hl] at p
    cases hk : keyW y with
    | none => rw [hk] at p; exact p.elim
    | some k =>
      rw [hk] at p
      have p : Po X.K X.mg Wx (Rep X.K X.mg) (match getK l k with
        | some v => .ok v S
        | none => .err) io H σ Q := p
      split at p
      · rename_i w e
        obtain ⟨v, e1, r1⟩ := (getK_rep r k).1 w e
        refine ⟨a, v, rfl, .inl ⟨kvs, k, hr, keyW_rep ry hk, e1.symm⟩, p.now s r1⟩
      · exact p.elim
  · rw [if_neg hd] at p; exact p.elim
/-- by what the values are: the one rule or the other -/
theorem two_or {f : W → W → Vs → Out W} {R R' : R2} {g : W → W → Vs → Bool} (h1 : VOk X.K X.mg Wx (fun x y s => if g x y s = true then .err else f x y s) R) (h2 : VOk X.K X.mg Wx (fun x y s => if g x y s = true then f x y s else .err) R')
    {σ : L2.St} {H : Hp} {Q : VK} (h : tr X.K X.mg Wx (fun r s => (den D ia r s).bind fun x s1 => (den D ib r s1).bind fun y s2 => f x y s2) σ H Q) : tOp R (tr X.K X.mg Wx (den D ia)) (tr X.K X.mg Wx (den D ib)) σ H Q ∨ tOp R' (tr X.K X.mg Wx (den D ia)) (tr X.K X.mg Wx (den D ib)) σ H Q := by
  obtain ⟨io, S, r, s, e, p⟩ := h
  have left : (∀ x S1 y S2, den D ia r S = .ok x S1 → den D ib r S1 = .ok y S2 → g x y S2 = false) → tOp R (tr X.K X.mg Wx (den D ia)) (tr X.K X.mg Wx (den D ib)) σ H Q := fun hg =>
    ⟨io, S, r, s, e, p.bind fun x S1 io1 v H1 ex x1 s1 r1 p1 => ⟨io1, S1, r, s1, e.mono s x1, p1.bind fun y S2 io2 u H2 ey x2 s2 r2 p2 => h1 io2 H2 S2 σ x y v u Q s2 (r1.mono s1 x2) r2 (by show Po _ _ _ _ (if g x y S2 = true then .err else f x y S2) _ _ _ _; rw [if_neg (by rw [hg x S1 y S2 ex ey]; exact Bool.false_ne_true)]; exact p2)⟩⟩
  have right : (∀ x S1 y S2, den D ia r S = .ok x S1 → den D ib r S1 = .ok y S2 → g x y S2 = true) → tOp R' (tr X.K X.mg Wx (den D ia)) (tr X.K X.mg Wx (den D ib)) σ H Q := fun hg =>
    ⟨io, S, r, s, e, p.bind fun x S1 io1 v H1 ex x1 s1 r1 p1 => ⟨io1, S1, r, s1, e.mono s x1, p1.bind fun y S2 io2 u H2 ey x2 s2 r2 p2 => h2 io2 H2 S2 σ x y v u Q s2 (r1.mono s1 x2) r2 (by show Po _ _ _ _ (if g x y S2 = true then f x y S2 else .err) _ _ _ _; rw [if_pos (hg x S1 y S2 ex ey)]; exact p2)⟩⟩
  cases ha : den D ia r S with
  | ok x S1 =>
    cases hb : den D ib r S1 with
    | ok y S2 =>
      cases hg : g x y S2 with
      | false => exact .inl (left fun x' S1' y' S2' h1 h2 => by rw [ha] at h1; cases h1; rw [hb] at h2; cases h2; exact hg)
      | true => exact .inr (right fun x' S1' y' S2' h1 h2 => by rw [ha] at h1; cases h1; rw [hb] at h2; cases h2; exact hg)
    | exc z S2 => exact .inl (left fun x' S1' y' S2' h1 h2 => by rw [ha] at h1; cases h1; rw [hb] at h2; cases h2)
    | err => exact .inl (left fun x' S1' y' S2' h1 h2 => by rw [ha] at h1; cases h1; rw [hb] at h2; cases h2)
  | exc z S1 => exact .inl (left fun x' S1' y' S2' h1 h2 => by rw [ha] at h1; cases h1)
  | err => exact .inl (left fun x' S1' y' S2' h1 h2 => by rw [ha] at h1; cases h1)
theorem nosl_of {e : Expr} (h : notSlice e = true) : NoSl e := fun o i => by cases e <;> first | rfl | cases h
theorem pv_idx (hu : X.A.units + 64 < cLine) (hs : notSlice b = true) (ha : PV X D Wx a ia) (hb : PV X D Wx b ib) : PV X D Wx (.Subscript a b pos) (.idx ia ib) :=
  peMono (peOr (pe_ix ix_seq ha hb (slice_of hs)) (pe_dget (by omega) ha hb (nosl_of hs))) fun σ H Q h => two_or (g := fun x y s => isDct x s) idx_ok idxd_ok (by
    obtain ⟨io, S, r, s, e, p⟩ := h
    rw [den] at p
    exact ⟨io, S, r, s, e, p⟩)
/-! ### a[lo:hi] -/
def trO (K : Fg) (mg : Mg) (Wx : WX) (m : Rho → Vs → Out (Option Int)) : TO := fun σ H Q => ∃ io S r, Sim K mg io H S ∧ RepE K mg io H r σ ∧ Po K mg Wx (fun _ _ a b => a = b) (m r S) io H σ Q
noncomputable def denO (D : Wd) (i : IE) (r : Rho) (s : Vs) : Out (Option Int) := if miss i then .ok none s else (den D i r s).bind intV
abbrev POV (X : Cx) (D : Wd) (Wx : WX) (e : Option Expr) (i : IE) : Prop := PO X e (trO X.K X.mg Wx (denO D i))
theorem poMono {e : Option Expr} {t t' : TO} (h : PO X e t) (k : ∀ σ H Q, t' σ H Q → t σ H Q) : PO X e t' := ⟨fun pins s σ H Q I q => h.run pins s σ H Q I (k σ H Q q)⟩
theorem pov_none : POV X D Wx none (.con .non) := poMono po_none fun σ H Q ⟨io, S, r, s, e, p⟩ => p.now s rfl
theorem pov_some {i : IE} (hm : miss i = false) (h : PV X D Wx a i) : POV X D Wx (some a) i := poMono (po_some h) fun σ H Q ⟨io, S, r, s, e, p⟩ => ⟨io, S, r, s, e, by
  unfold denO at p
  rw [hm] at p
  refine Po.bind (f := intV) p fun x S1 io1 v H1 _ x1 s1 r1 p1 => ?_
  cases r1 with
  | int i => exact ⟨i, rfl, p1.now s1 rfl⟩
  | _ => exact p1.elim⟩
theorem cut_rep {l : List W} {xs : List V} (r : Reps X.K X.mg io H l xs) (i j : Option Int) : Reps X.K X.mg io H (cutW l i j) (cutV xs i j) := by
  unfold cutW cutV
  rw [← r.length]
  exact Reps.take _ (Reps.drop _ r)
theorem cut_whole {α : Type} {l : List α} {i j : Option Int} (h1 : HT.sIx l.length 0 i = 0) (h2 : HT.sIx l.length l.length j = l.length) : (l.drop (HT.sIx l.length 0 i)).take (HT.sIx l.length l.length j - HT.sIx l.length 0 i) = l := by
  rw [h1, h2]
  simp
def rSlB2 (K : Fg) : V → Option Int → Option Int → Hp → VK → Prop := fun x lo hi H Q => rSlA K x lo hi H Q ∨ rSlL K x lo hi H Q
theorem sl_two : SlR X (rSlB2 X.K) := sl_tupA.or sl_list
theorem slc_ok {x : W} {v : V} {i j : Option Int} (s : Sim X.K X.mg io H S) (rx : Rep X.K X.mg io H x v) (p : Po X.K X.mg Wx (Rep X.K X.mg) (slcV x i j S) io H σ Q) : rSlB2 X.K v i j H Q := by
  cases rx with
  | tup h r =>
    rename_i l q xs
    have p : Po X.K X.mg Wx (Rep X.K X.mg) (.ok (.tup (cutW l i j)) S) io H σ Q := p
    refine .inl ⟨q, xs, rfl, h, fun ⟨h1, h2⟩ => ?_, fun _ t ht => s.tupNew (cut_rep r i j) p t ht⟩
    rw [← r.length] at h1 h2
    have e : cutW l i j = l := cut_whole h1 h2
    rw [e] at p
    exact p.now s (.tup h r)
  | ref h =>
    rename_i n q
    have p : Po X.K X.mg Wx (Rep X.K X.mg) (match lstAt S n with
      | some l => newL (cutW l i j) S
      | none => .err) io H σ Q := p
    split at p
    · rename_i l e1
      obtain ⟨xs, hx, r⟩ := s.lst h (lstAt_of e1)
      exact .inr ⟨q, xs, rfl, SqL.of hx, fun t ht => s.nu _ _ (cut_rep r i j) p t ht⟩
    · exact p.elim
  | _ => exact p.elim
theorem pv_slc {lo hi : Option Expr} {il ih : IE} {p2 : Pos} (ha : PV X D Wx a ia) (hl : POV X D Wx lo il) (hh : POV X D Wx hi ih) : PV X D Wx (.Subscript a (.Slice lo hi none p2) pos) (.slc ia il ih) :=
  peMono (pe_slice sl_two ha hl hh) fun σ H Q ⟨io, S, r, s, e, p⟩ => by
    rw [den] at p
    refine ⟨io, S, r, s, e, p.bind fun x S1 io1 v H1 _ x1 s1 r1 p1 => ⟨io1, S1, r, s1, e.mono s x1, ?_⟩⟩
    refine Po.bind (o := denO D il r S1) p1 fun i S2 io2 i' H2 _ x2 s2 hi p2 => ?_
    subst hi
    refine ⟨io2, S2, r, s2, (e.mono s x1).mono s1 x2, Po.bind (o := denO D ih r S2) p2 fun j S3 io3 j' H3 _ x3 s3 hj p3 => ?_⟩
    subst hj
    exact slc_ok s3 ((r1.mono s1 x2).mono s2 x3) p3
/-! ### e.f -/
theorem repP_look {l : List (Str × W)} {xs : List (Str × V)} (r : RepP X.K X.mg io H l xs) {f : Str} {w : W} (h : l.lookup f = some w) : ∃ v, xs.lookup f = some v ∧ Rep X.K X.mg io H w v ∧ f ∈ l.map (·.1) := by
  induction r with
  | nil => cases h
  | cons q _ ih =>
    rename_i k w' v' l xs t
    rw [List.lookup_cons] at h ⊢
    cases e : f == k with
    | true =>
      rw [e] at h
      cases h
      exact ⟨v', rfl, q, by simp at e; simp [e]⟩
    | false =>
      rw [e] at h
      obtain ⟨v, h1, h2, h3⟩ := ih h
      exact ⟨v, h1, h2, List.mem_cons_of_mem _ h3⟩
theorem pv_fld {f : Str} (hb : baseOk a = true) (ha : PV X D Wx a ia) : PV X D Wx (.Attribute a f pos) (.fld ia f) :=
  peMono (pe_fld ha (base_of hb _)) fun σ H Q ⟨io, S, r, s, e, p⟩ => by
    rw [den] at p
    refine ⟨io, S, r, s, e, p.bind fun x S1 io1 v H1 _ x1 s1 r1 p1 => ?_⟩
    cases r1 with
    | @ref n q h =>
      have p1 : Po X.K X.mg Wx (Rep X.K X.mg) (match S1[n]? with
        | some (.ins _ fs) => (match fs.lookup f with
          | some w => .ok w S1
          | none => .err)
        | _ => .err) io1 H1 σ Q := p1
      split at p1
      · rename_i c fs e1
        split at p1
        · rename_i w e2
          obtain ⟨C, dx, fv, h1, h2, h3, h4, h5⟩ := s1.ins h e1
          obtain ⟨v, h6, h7, h8⟩ := repP_look h5 e2
          exact ⟨q, C, dx, fv, v, rfl, h1, h3, h4 f h8, h6, p1.now s1 h7⟩
        · exact p1.elim
      · exact p1.elim
    | _ => exact p1.elim
/-! ### built-ins -/
theorem lenS : CallR X (.builtin "len") (fun xs H Q => (∃ x n, xs = [x] ∧ LenV X.K x H n ∧ Q (.int n) H) ∨ ∃ d kvs, xs = [.ref d] ∧ H d = some (.dK kvs) ∧ Q (.int kvs.length) H) := fun pins s σ H xs us Q I r h => by
  rcases h with h | ⟨d, kvs, rfl, e, q⟩
  · exact call_len pins s σ H xs us Q I r h
  · obtain ⟨u, rfl, ru⟩ := vals1 r
    cases ru
    exact d_len I (.inl e) fun t s' I' => ⟨.int kvs.length, H, I', ⟨t, rfl⟩, q⟩
theorem bools_rep : ∀ {l : List W} {xs : List V}, Reps X.K X.mg io H l xs → ∀ {bs : List Bool}, bools l = some bs → xs = bs.map V.bl
  | _, _, .nil, bs, h => by cases h; rfl
  | _, _, .cons q t, bs, h => by
    cases q with
    | bl b =>
      obtain ⟨bs', e, rfl⟩ := map_some (show (bools _).map (b :: ·) = some bs from h)
      rw [bools_rep t e]
      rfl
    | _ => cases h
/-- the rule of a built-in, over its values -/
abbrev BOk (K : Fg) (mg : Mg) (Wx : WX) (f : List W → Vs → Out W) (R : List V → Hp → VK → Prop) : Prop := ∀ (io : List Addr) (H : Hp) (S : Vs) (σ : L2.St) (ws : List W) (vs : List V) (Q : VK), Sim K mg io H S → Reps K mg io H ws vs → Po K mg Wx (Rep K mg) (f ws S) io H σ Q → R vs H Q
theorem repP_len {κ : Type} {l : List (κ × W)} {xs : List (κ × V)} (r : RepP X.K X.mg io H l xs) : l.length = xs.length := by
  induction r with
  | nil => rfl
  | cons _ _ ih => simp [ih]
def rLenA (K : Fg) : List V → Hp → VK → Prop := fun xs H Q => (∃ x n, xs = [x] ∧ LenV K x H n ∧ Q (.int n) H) ∨ ∃ d kvs, xs = [.ref d] ∧ H d = some (.dK kvs) ∧ Q (.int kvs.length) H
theorem len_ok : BOk X.K X.mg Wx (biV .len) (rLenA X.K) := fun io H S σ ws vs Q s r p => by
  cases r with
  | nil => exact p.elim
  | cons q t =>
    cases t with
    | cons _ _ => cases q <;> exact p.elim
    | nil =>
      cases q with
      | str x =>
        have p : Po X.K X.mg Wx (Rep X.K X.mg) (if fits x.length then .ok (.int x.length) S else .err) io H σ Q := p
        by_cases hf : fits x.length = true
        · rw [if_pos hf] at p
          exact .inl ⟨_, x.length, rfl, ⟨fits_le hf, rfl⟩, p.now s (.int _)⟩
        · rw [if_neg hf] at p; exact p.elim
      | @tup l a xs h r => exact .inl ⟨_, xs.length, rfl, .inr ⟨_, h, rfl⟩, by rw [← r.length]; exact p.now s (.int _)⟩
      | @scr l a h => exact .inl ⟨_, (l.map V.int).length, rfl, .inl ⟨_, scr_sq h, rfl⟩, by rw [List.length_map]; exact p.now s (.int _)⟩
      | @ref n a h =>
        have p : Po X.K X.mg Wx (Rep X.K X.mg) (match S[n]? with
          | some (.lst l) => .ok (.int l.length) S
          | some (.dct l) => .ok (.int l.length) S
          | _ => .err) io H σ Q := p
        split at p
        · rename_i l e1
          obtain ⟨xs, hx, r1⟩ := s.lst h e1
          exact .inl ⟨_, xs.length, rfl, .inl ⟨xs, SqL.of hx, rfl⟩, by rw [← r1.length]; exact p.now s (.int _)⟩
        · rename_i l e1
          obtain ⟨b, hb, q⟩ := s.at_ _ _ e1
          rw [h] at hb
          cases hb
          cases q with
          | mk e' r => cases r with | dct r => exact .inr ⟨_, _, rfl, e', by rw [← repP_len r]; exact p.now s (.int _)⟩
        · exact p.elim
      | _ => exact p.elim
theorem abs_ok : BOk X.K X.mg Wx (biV .abs) (fun xs H Q => ∃ i, xs = [.int i] ∧ Q (.int (if i < 0 then -i else i)) H) := fun io H S σ ws vs Q s r p => by
  cases r with
  | nil => exact p.elim
  | cons q t =>
    cases t with
    | cons _ _ => cases q <;> exact p.elim
    | nil =>
      cases q with
      | int i => exact ⟨i, rfl, p.now s (.int _)⟩
      | _ => exact p.elim
theorem min_ok : BOk X.K X.mg Wx (biV .min) (fun xs H Q => ∃ i j, xs = [.int i, .int j] ∧ Q (.int (if j < i then j else i)) H) := fun io H S σ ws vs Q s r p => by
  cases r with
  | nil => exact p.elim
  | cons q t =>
    cases t with
    | nil => cases q <;> exact p.elim
    | cons q2 t2 =>
      cases t2 with
      | cons _ _ => cases q <;> cases q2 <;> exact p.elim
      | nil =>
        cases q with
        | int i =>
          cases q2 with
          | int j => exact ⟨i, j, rfl, p.now s (.int _)⟩
          | _ => exact p.elim
        | _ => exact p.elim
theorem int_ok : BOk X.K X.mg Wx (biV .int) (fun xs H Q => (∃ i, xs = [.int i] ∧ Q (.int i) H) ∨ ∃ k, xs = [.bl k] ∧ Q (.int (if k then 1 else 0)) H) := fun io H S σ ws vs Q s r p => by
  cases r with
  | nil => exact p.elim
  | cons q t =>
    cases t with
    | cons _ _ => cases q <;> exact p.elim
    | nil =>
      cases q with
      | int i => exact .inl ⟨i, rfl, p.now s (.int _)⟩
      | bl b => exact .inr ⟨b, rfl, p.now s (.int _)⟩
      | _ => exact p.elim
theorem str_ok : BOk X.K X.mg Wx (biV .str) (fun xs H Q => (∃ i, xs = [.int i] ∧ i.natAbs.log2 < 1920 ∧ Q (.str (toString i)) H) ∨ ∃ a, xs = [.str a] ∧ Q (.str a) H) := fun io H S σ ws vs Q s r p => by
  cases r with
  | nil => exact p.elim
  | cons q t =>
    cases t with
    | cons _ _ => cases q <;> exact p.elim
    | nil =>
      cases q with
      | int i =>
        have p : Po X.K X.mg Wx (Rep X.K X.mg) (if decide (i.natAbs.log2 < 1920) then .ok (.str (Str.ofString (toString i))) S else .err) io H σ Q := p
        by_cases hf : decide (i.natAbs.log2 < 1920) = true
        · rw [if_pos hf] at p
          exact .inl ⟨i, rfl, of_decide_eq_true hf, p.now s (.str _)⟩
        · rw [if_neg hf] at p; exact p.elim
      | str y =>
        have p : Po X.K X.mg Wx (Rep X.K X.mg) (if fits y.length then .ok (.str y) S else .err) io H σ Q := p
        by_cases hf : fits y.length = true
        · rw [if_pos hf] at p
          exact .inr ⟨y, rfl, p.now s (.str _)⟩
        · rw [if_neg hf] at p; exact p.elim
      | _ => exact p.elim
theorem tuple_ok : BOk X.K X.mg Wx (biV .tuple) (fun xs H Q => ∃ p ys, xs = [.ref p] ∧ ((SqL X.K H p ys ∧ ∀ l, H l = none → Q (.ref l) (upd H l (.tup ys))) ∨ (SqT X.K H p ys ∧ Q (.ref p) H))) := fun io H S σ ws vs Q s r p => by
  cases r with
  | nil => exact p.elim
  | cons q t =>
    cases t with
    | cons _ _ => cases q <;> exact p.elim
    | nil =>
      cases q with
      | @tup l a xs h r => exact ⟨_, xs, rfl, .inr ⟨h, p.now s (.tup h r)⟩⟩
      | @ref n a h =>
        have p : Po X.K X.mg Wx (Rep X.K X.mg) (match lstAt S n with
          | some l => .ok (.tup l) S
          | none => .err) io H σ Q := p
        split at p
        · rename_i l e1
          obtain ⟨xs, hx, r1⟩ := s.lst h (lstAt_of e1)
          exact ⟨_, xs, rfl, .inl ⟨SqL.of hx, fun q hq => s.tupNew r1 p q hq⟩⟩
        · exact p.elim
      | _ => exact p.elim
theorem list_ok : BOk X.K X.mg Wx (biV .list) (fun xs H Q => ∃ p ys, xs = [.ref p] ∧ (SqL X.K H p ys ∨ SqT X.K H p ys) ∧ ∀ l, H l = none → Q (.ref l) (upd H l (.lst ys))) := fun io H S σ ws vs Q s r p => by
  cases r with
  | nil => exact p.elim
  | cons q t =>
    cases t with
    | cons _ _ => cases q <;> exact p.elim
    | nil =>
      cases q with
      | @tup l a xs h r => exact ⟨_, xs, rfl, .inr h, fun q hq => s.nu _ _ r p q hq⟩
      | @ref n a h =>
        have p : Po X.K X.mg Wx (Rep X.K X.mg) (match lstAt S n with
          | some l => newL l S
          | none => .err) io H σ Q := p
        split at p
        · rename_i l e1
          obtain ⟨xs, hx, r1⟩ := s.lst h (lstAt_of e1)
          exact ⟨_, xs, rfl, .inl (SqL.of hx), fun q hq => s.nu _ _ r1 p q hq⟩
        · exact p.elim
      | _ => exact p.elim
theorem all_ok : BOk X.K X.mg Wx (biV .all) (rAll X.K) := fun io H S σ ws vs Q s r p => by
  cases r with
  | nil => exact p.elim
  | cons q t =>
    cases t with
    | cons _ _ => cases q <;> exact p.elim
    | nil =>
      cases q with
      | @ref n a h =>
        have p : Po X.K X.mg Wx (Rep X.K X.mg) (match lstAt S n with
          | some l => (match bools l with
            | some bs => .ok (.bl (bs.all id)) S
            | none => .err)
          | none => .err) io H σ Q := p
        split at p
        · rename_i l e1
          obtain ⟨xs, hx, r1⟩ := s.lst h (lstAt_of e1)
          split at p
          · rename_i bs e2
            have e3 := bools_rep r1 e2
            subst e3
            exact ⟨a, bs, rfl, SqL.of hx, p.now s (.bl _)⟩
          · exact p.elim
        · exact p.elim
      | _ => exact p.elim
/-- the built-in's name, and whether it is a class -/
def biName : Bf → Str
  | .len => "len" | .abs => "abs" | .min => "min" | .int => "int" | .str => "str" | .tuple => "tuple" | .list => "list" | .sorted => "sorted" | .all => "all" | .dict => "dict" | .lenset => "len" | .srtset => "sorted"
theorem no_rule {f : Value} : CallR X f (fun _ _ _ => False) := fun _ _ _ _ _ _ _ _ _ h => h.elim
/-- a built-in of the table, called by its name -/
def biHas : Bf → Bool
  | .len => true | .abs => true | .min => true | .int => true | .str => true | .tuple => true | .list => true | .all => true | _ => false
theorem pv_bi {f : Bf} {es : List Expr} {l : IL} {p : Pos} (hc : X.calm = true) (hh : biHas f = true) (hg : Gl X (biName f)) (hm : X.mg (biName f) = none) (hs : notStar a = true) (hst : (starEach es X.env).any (·.1) = false)
    (ha : PVs X D Wx (a :: es) l) : PV X D Wx (.Call (.Name (biName f) p) (a :: es) [] pos) (.bi f l) := by
  have hpl : (backTo pos (starEach es X.env)).any (·.1) = false := by
    unfold backTo
    rw [List.any_map]
    exact hst
  have k : ∀ {R : List V → Hp → VK → Prop}, BOk X.K X.mg Wx (biV f) R → PE X (.Call (.Name (biName f) p) (a :: es) [] pos) (tCB R (trA X.K X.mg Wx (denL D l))) → PV X D Wx (.Call (.Name (biName f) p) (a :: es) [] pos) (.bi f l) := fun hv he =>
    peMono he fun σ H Q ⟨io, S, r, s, e, p⟩ => by
      rw [den] at p
      exact ⟨io, S, r, s, e, Po.bind p fun ws S1 io1 vs H1 _ x1 s1 r1 p1 => hv io1 H1 S1 σ ws vs Q s1 r1 p1⟩
  cases f with
  | len => exact k len_ok (pe_callB lenS hg hm boot_len ha (by decide) (by decide) (star_of hs) hpl)
  | abs => exact k abs_ok (pe_callB call_abs hg hm (by decide +kernel) ha (by decide) (by decide) (star_of hs) hpl)
  | min => exact k min_ok (pe_callB (call_min2 hc) hg hm (by decide +kernel) ha (by decide) (by decide) (star_of hs) hpl)
  | int => exact k int_ok (pe_callTy call_int1 hg hm (by decide +kernel) ha (by decide) (by decide) (star_of hs) hpl)
  | str => exact k str_ok (pe_callTy (call_str_int.or SkE.call_str_str) hg hm (by decide +kernel) ha (by decide) (by decide) (star_of hs) hpl)
  | tuple => exact k tuple_ok (pe_callTy call_tuple_of hg hm (by decide +kernel) ha (by decide) (by decide) (star_of hs) hpl)
  | list => exact k list_ok (pe_callTy call_list_of hg hm (by decide +kernel) ha (by decide) (by decide) (star_of hs) hpl)
  | all => exact k all_ok (pe_callB (cr_all hc) hg hm (by decide +kernel) ha (by decide) (by decide) (star_of hs) hpl)
  | _ => cases hh
end
end Vm
set_option Elab.async false
set_option linter.all false
set_option maxRecDepth 100000
set_option maxHeartbeats 4000000
/-! Calls of classes and methods from which exceptions come, wished for at the slots of the place of the call. -/
namespace Vm
open PySem PySem.Spec PyProof.Rows L2
section
variable {X : Cx} {CX : CXT} {k : Nat} {f C : Addr} {fd : FuncData} {ps : List Str} {sp : Sp} {dvs : List V} {ds : List Value} {F : L2.St → XK} {x m : Str} {p pos apos : Pos} {e o : Expr} {es : List Expr} {t : TA} {ta : TE}
theorem xmk_run {pins : List (Addr × Obj)} {σ : L2.St} {H : Hp} {s : Shared} {Q : VK} {us : List Value} {vs : List V} (M : Mk X.K C f) (FO : FnOk X.prog X.w X.K X.mg X.base CX k f fd ps sp) (hr : Room (k + 1) X.A) (hb : Binds X.K fd ps ds) (hd : Vals dvs ds)
    (hx : ∀ σ, PassesAt CX X σ (F σ)) (I : Inv X pins σ H s) (r : Vals vs us)
    (h : ∀ a b, H a = none → H b = none → b ≠ a → sp (V.ref a :: (vs ++ dvs)) (upd (upd H b (.own a)) a (.ins C b [])) (fun v H2 => v = .non ∧ Q (.ref a) H2) (F σ)) : wpAny (model X.prog X.w) X.A (call (.ref C) us) (EP X pins σ Q) X.xe s := by
  generalize hn : s.heap.objs.size = n
  have J : Inv X pins σ (upd (upd H n (.own (n + 1))) (n + 1) (.ins C n [])) { s with heap := (s.heap.push PySem.W.emptyDict).push (PySem.W.instObj C n) } := by
    subst hn
    exact I.made
  have g := h (n + 1) n (I.hok.fresh (hn ▸ Nat.le_succ _)) (I.hok.fresh (Nat.le_of_eq hn)) (Nat.ne_of_lt n.lt_succ_self)
  have rr : Vals (V.ref (n + 1) :: (vs ++ dvs)) (Value.ref (n + 1) :: us ++ ds) := .cons rfl (r.append hd)
  have ln : (Value.ref (n + 1) :: us ++ ds).length = ps.length := rr.length.symm.trans (FO.len _ _ _ _ g)
  have body := FO.run _ X.stack _ _ ⟨Value.ref (n + 1) :: us, []⟩ _ _ _ _ (hr.make C us []) (J.env0.make C us []) (hb _ (Value.ref (n + 1) :: us) J.kIn ln) rr g
  subst hn
  refine wpAny_call (make_map (f := f) I.kIn M.makes M.init (eq_of_beq M.fn) (codeAny_mono body fun z s1 hz => ?_))
  match z, hz with
  | .error y, hz => exact hx σ pins _ _ y s1 J hz
  | .ok (.ret y), hz =>
    obtain ⟨v, H1, J1, ry, ev, q⟩ := J.after hz
    subst ev
    exact ⟨ry, V.ref (s.heap.objs.size + 1), H1, J1, rfl, q⟩
  | .ok .next, hz => exact hz.elim
  | .ok .brk, hz => exact hz.elim
  | .ok .cont, hz => exact hz.elim
/-- C(..), what flies told at the slots -/
def tMakeX (C : Addr) (sp : Sp) (dvs : List V) (F : L2.St → XK) (t : TA) : TE := fun σ H Q => t σ H fun vs H1 => ∀ a b, H1 a = none → H1 b = none → b ≠ a →
  sp (V.ref a :: (vs ++ dvs)) (upd (upd H1 b (.own a)) a (.ins C b [])) (fun v H2 => v = .non ∧ Q (.ref a) H2) (F σ)
theorem xpe_make (M : Mk X.K C f) (FO : FnOk X.prog X.w X.K X.mg X.base CX k f fd ps sp) (hr : Room (k + 1) X.A) (hg : Gl X x) (hm : X.mg x = some (.ref C)) (hb : Binds X.K fd ps ds) (hd : Vals dvs ds) (hx : ∀ σ, PassesAt CX X σ (F σ))
    (ha : PA X (e :: es) t) (hdb : (x == ("__debug__" : Str)) = false) (he : starEach (e :: es) X.env = (false, eval e X.env) :: starEach es X.env) (hpl : (backTo pos (starEach es X.env)).any (·.1) = false) : PE X (.Call (.Name x p) (e :: es) [] pos) (tMakeX C sp dvs F t) :=
  ⟨fun pins s σ H Q I h => wpAny_Call_Name_kw (ld_glob I hg hm (PySem.W.callWith_K (h₀ := X.base) I.ok.mod.kin M.kp (thn (ha.run pos pins s σ H _ I h) fun us s1 ⟨vs, H1, I1, r, q⟩ => ⟨I1.kIn, xmk_run M FO hr hb hd hx I1 r q⟩) he hpl) hdb)⟩
/-- C() -/
theorem xpe_make0 (M : Mk X.K C f) (FO : FnOk X.prog X.w X.K X.mg X.base CX k f fd ps sp) (hr : Room (k + 1) X.A) (hg : Gl X x) (hm : X.mg x = some (.ref C)) (hb : Binds X.K fd ps ds) (hd : Vals dvs ds) (hx : ∀ σ, PassesAt CX X σ (F σ))
    (hdb : (x == ("__debug__" : Str)) = false) : PE X (.Call (.Name x p) [] [] pos) (tMakeX C sp dvs F tNil) :=
  ⟨fun pins s σ H Q I h => wpAny_Call_Name_kw (ld_glob I hg hm (PySem.W.callWith_K0 I.kIn M.kp (xmk_run (us := []) (vs := []) M FO hr hb hd hx I .nil h)) hdb)⟩
/-- C(k = v, ..) -/
theorem xmkK_run {pins : List (Addr × Obj)} {σ : L2.St} {H : Hp} {s : Shared} {Q : VK} {ws : List Value} {zs : List V} {ks : List Str} {g : List Value → List Value → List Value} {gV : List V → List V → List V} (M : Mk X.K C f) (FO : FnOk X.prog X.w X.K X.mg X.base CX k f fd ps sp) (hr : Room (k + 1) X.A)
    (hb : KBn X.K fd ps 1 ks g gV) (hx : ∀ σ, PassesAt CX X σ (F σ)) (I : Inv X pins σ H s) (rz : Vals zs ws) (l2 : zs.length = ks.length)
    (h : ∀ a b, H a = none → H b = none → b ≠ a → sp (gV [.ref a] zs) (upd (upd H b (.own a)) a (.ins C b [])) (fun v H2 => v = .non ∧ Q (.ref a) H2) (F σ)) : wpAny (model X.prog X.w) X.A (call (.ref C) [] (ks.zip ws)) (EP X pins σ Q) X.xe s := by
  have hq := h (s.heap.objs.size + 1) s.heap.objs.size (I.hok.fresh (Nat.le_succ _)) (I.hok.fresh (Nat.le_refl _)) (Nat.ne_of_lt (Nat.lt_succ_self _))
  have I2 := Inv.made (C := C) I
  have r1 : Vals [V.ref (s.heap.objs.size + 1)] [Value.ref (s.heap.objs.size + 1)] := .cons rfl .nil
  have r2 := hb.rel r1 rz
  refine wpAny_call (make_map (f := f) I.kIn M.makes M.init (beq_iff_eq.mp M.fn) (codeAny_mono (FO.run _ X.stack _ _ ⟨[Value.ref (s.heap.objs.size + 1)], ks.zip ws⟩ (g [Value.ref (s.heap.objs.size + 1)] ws) _ _ _ (hr.make C [] (ks.zip ws))
    (I2.env0.make C [] (ks.zip ws)) (hb.to _ [Value.ref (s.heap.objs.size + 1)] ws I2.kIn rfl (rz.length.symm.trans l2)) r2 hq) fun r s' hq' => ?_))
  match r, hq' with
  | .error y, hz => exact hx σ pins _ _ y s' I2 hz
  | .ok (.ret y), hz =>
    obtain ⟨v, H1, J1, ry, ev, q⟩ := I2.after hz
    subst ev
    exact ⟨ry, V.ref (s.heap.objs.size + 1), H1, J1, rfl, q⟩
  | .ok .next, hz => exact hz.elim
  | .ok .brk, hz => exact hz.elim
  | .ok .cont, hz => exact hz.elim
def tMakeKX (C : Addr) (m : Nat) (sp : Sp) (gV : List V → List V → List V) (F : L2.St → XK) (tk : TA) : TE := fun σ H Q => tk σ H fun zs H1 => zs.length = m ∧ ∀ a b, H1 a = none → H1 b = none → b ≠ a →
  sp (gV [.ref a] zs) (upd (upd H1 b (.own a)) a (.ins C b [])) (fun v H2 => v = .non ∧ Q (.ref a) H2) (F σ)
theorem xpe_makeK {ks : List Str} {kws : List Keyword} {tk : TA} {g : List Value → List Value → List Value} {gV : List V → List V → List V} (M : Mk X.K C f) (FO : FnOk X.prog X.w X.K X.mg X.base CX k f fd ps sp) (hr : Room (k + 1) X.A) (hg : Gl X x) (hm : X.mg x = some (.ref C)) (hb : KBn X.K fd ps 1 ks g gV) (hx : ∀ σ, PassesAt CX X σ (F σ))
    (hkw : PK X kws tk) (hall : (backToKw pos (keywordEach kws X.env)).all (·.1.isSome) = true) (hks : (backToKw pos (keywordEach kws X.env)).filterMap (·.1) = ks) (hdb : (x == ("__debug__" : Str)) = false)
    (hpl : ((backTo pos (starEach [] X.env)).any (·.1) || (backToKw pos (keywordEach kws X.env)).any (·.1.isNone)) = false) : PE X (.Call (.Name x p) [] kws pos) (tMakeKX C ks.length sp gV F tk) := by
  refine ⟨fun pins s σ H Q I h => wpAny_Call_Name_kw (ld_glob I hg hm ?_ hdb)⟩
  refine PySem.W.callWith_KW0 (h₀ := X.base) I.ok.mod.kin M.kp hall ?_ hpl
  refine thn (hkw.run pos pins s σ H _ I h) fun ws s2 ⟨zs, H2, I2, rz, l2, q2⟩ => ⟨I2.kIn, ?_⟩
  rw [hks]
  exact xmkK_run M FO hr hb hx I2 rz l2 q2
/-- o.m(..), what flies told at the slots -/
def tMethX (C : Addr) (m : Str) (sp : Sp) (dvs : List V) (F : L2.St → XK) (ta : TE) (t : TA) : TE := fun σ H Q => ta σ H fun x H1 => ∃ a b fs, x = .ref a ∧ H1 a = some (.ins C b fs) ∧ fs.lookup m = none ∧ t σ H1 fun vs H2 => sp (V.ref a :: (vs ++ dvs)) H2 Q (F σ)
theorem xpe_meth {pl : Sem Bool} (he : PE X o ta) (c : Cls X.K C) (hm : Meth X.K C m f) (FO : FnOk X.prog X.w X.K X.mg X.base CX k f fd ps sp) (hr : Room k X.A) (hb : Binds X.K fd ps ds) (hd : Vals dvs ds) (hx : ∀ σ, PassesAt CX X σ (F σ)) (ha : PA X (e :: es) t)
    (hst : starEach (e :: es) X.env = (false, eval e X.env) :: starEach es X.env) (hpl : (backTo pos (starEach es X.env)).any (·.1) = false)
    (ht : eval (.Call (.Attribute o m apos) (e :: es) [] pos) X.env = (do
      let ov ← eval o X.env
      standAt apos.atName
      let (g, l) ← holding [ov] (getMethod ov m pl)
      callWith pos g l (backTo pos (starEach (e :: es) X.env)) (backToKw pos (keywordEach [] X.env)))) :
    PE X (.Call (.Attribute o m apos) (e :: es) [] pos) (tMethX C m sp dvs F ta t) := by
  refine ⟨fun pins s σ H Q I h => PySem.W.methodCall_KW (pl := pl) (thn (he.run pins s σ H _ I h) fun u s1 hu => ?_) ht⟩
  obtain ⟨x, H1, I1, rx, a, b, fs, ex, ea, l, q⟩ := hu
  subst ex
  cases rx
  refine getmeth_ok I1 ea c hm l (PySem.W.callWith_K (first := [.ref a]) (h₀ := X.base) I.ok.mod.kin hm.kp (thn (ha.run pos pins s1 σ H1 _ I1 q) fun us s2 hs => ?_) hst hpl)
  obtain ⟨vs, H2, I2, r, q2⟩ := hs
  exact ⟨I2.kIn, run_fnSD (us := .ref a :: us) (vs := .ref a :: vs) FO hr hb hd (hx σ) I2 (.cons rfl r) q2⟩
theorem xpe_meth0 {pl : Sem Bool} (he : PE X o ta) (c : Cls X.K C) (hm : Meth X.K C m f) (FO : FnOk X.prog X.w X.K X.mg X.base CX k f fd ps sp) (hr : Room k X.A) (hb : Binds X.K fd ps ds) (hd : Vals dvs ds) (hx : ∀ σ, PassesAt CX X σ (F σ))
    (ht : eval (.Call (.Attribute o m apos) [] [] pos) X.env = (do
      let ov ← eval o X.env
      standAt apos.atName
      let (g, l) ← holding [ov] (getMethod ov m pl)
      callWith pos g l (backTo pos (starEach [] X.env)) (backToKw pos (keywordEach [] X.env)))) :
    PE X (.Call (.Attribute o m apos) [] [] pos) (tMethX C m sp dvs F ta tNil) := by
  refine ⟨fun pins s σ H Q I h => PySem.W.methodCall_KW (pl := pl) (thn (he.run pins s σ H _ I h) fun u s1 hu => ?_) ht⟩
  obtain ⟨x, H1, I1, rx, a, b, fs, ex, ea, l, q⟩ := hu
  subst ex
  cases rx
  exact getmeth_ok I1 ea c hm l (PySem.W.callWith_K0 (first := [.ref a]) I1.kIn hm.kp (run_fnSD (us := [.ref a]) (vs := [.ref a]) FO hr hb hd (hx σ) I1 (.cons rfl .nil) q))
end
end Vm
set_option Elab.async false
set_option linter.all false
set_option maxRecDepth 100000
set_option maxHeartbeats 1000000
/-! isinstance, calls, methods, comprehensions. -/
namespace Vm
open PySem L2
def noStars (es : List Expr) : Bool := es.all notStar
theorem stars_of {env : Env} : ∀ {es : List Expr}, noStars es = true → starEach es env = es.map fun e => (false, eval e env)
  | [], _ => rfl
  | e :: es, h => by
    unfold noStars at h
    rw [List.all_cons, Bool.and_eq_true] at h
    rw [star_of h.1, stars_of (es := es) h.2]
    rfl
theorem nostar_any {env : Env} {es : List Expr} (h : noStars es = true) : (starEach es env).any (·.1) = false := by
  rw [stars_of h, List.any_map]
  exact List.any_eq_false.mpr fun x _ => by simp
theorem nostar_anyB {env : Env} {es : List Expr} {pos : Pos} (h : noStars es = true) : (backTo pos (starEach es env)).any (·.1) = false := by
  unfold backTo
  rw [List.any_map]
  exact nostar_any h
theorem nostar_few {env : Env} {es : List Expr} {pos : Pos} (h : noStars es = true) (hl : es.length < 29) : ((backTo pos (starEach es env)).all (fun x => !x.1) && (backToKw pos (keywordEach [] env)).all (fun x => x.1.isSome)
      && decide (es.length + ([] : List Keyword).length + (if ([] : List Keyword).isEmpty then 0 else 1) < 30)) = true := by
  have h1 : (backTo pos (starEach es env)).all (fun x => !x.1) = true := by
    rw [stars_of h]
    unfold backTo
    rw [List.map_map, List.all_map]
    exact List.all_eq_true.mpr fun x _ => rfl
  rw [h1]
  simp [keywordEach, backToKw]
  omega
theorem meth_line {o : Expr} {m : Str} {apos pos : Pos} {env : Env} {es : List Expr} (hb : baseOk o = true) (h : noStars es = true) (hl : es.length < 29) (hline : (apos.endLine == pos.line) = true) :
    eval (.Call (.Attribute o m apos) es [] pos) env = (do
      let ov ← eval o env
      standAt apos.atName
      let (f, first) ← holding [ov] (getMethod ov m (plainOf o env))
      callWith pos f first (backTo pos (starEach es env)) (backToKw pos (keywordEach [] env))) := by
  have hf : methodCallForm (es.length + 0) (backTo pos (starEach es env)) (backToKw pos (keywordEach [] env)) = true := nostar_few h hl
  show (do
    let ov ← attributeBase o m env (eval o env)
    standAt apos.atName
    methodCall o m apos pos env ov (es.length + 0) (backTo pos (starEach es env)) (backToKw pos (keywordEach [] env))) = _
  rw [base_of hb]
  simp only [mcall_line hf hline]
section
variable {X : Cx} {D : Wd} {Wx : WX} {io : List Addr} {H : Hp} {S : Vs} {σ : L2.St} {x y : W} {v u : V} {Q : VK}
variable {a b c : Expr} {ia ib ic : IE} {pos : Pos}
/-! ### isinstance -/
theorem base_is {t : Str} {b : String} (h : isBase t = some b) : (t = "int" ∧ b = "int") ∨ (t = "bool" ∧ b = "bool") ∨ (t = "str" ∧ b = "str") ∨ (t = "tuple" ∧ b = "tuple") ∨ (t = "list" ∧ b = "list") := by
  unfold isBase at h
  split at h
  · cases h; exact .inl ⟨by assumption, rfl⟩
  · split at h
    · cases h; exact .inr (.inl ⟨by assumption, rfl⟩)
    · split at h
      · cases h; exact .inr (.inr (.inl ⟨by assumption, rfl⟩))
      · split at h
        · cases h; exact .inr (.inr (.inr (.inl ⟨by assumption, rfl⟩)))
        · split at h
          · cases h; exact .inr (.inr (.inr (.inr ⟨by assumption, rfl⟩)))
          · cases h
theorem boot_base {t : Str} {b : String} (h : isBase t = some b) : bootBuiltins t = some (.type b) ∧ t ≠ "__name__" ∧ (t == ("__debug__" : Str)) = false := by
  rcases base_is h with ⟨rfl, rfl⟩ | ⟨rfl, rfl⟩ | ⟨rfl, rfl⟩ | ⟨rfl, rfl⟩ | ⟨rfl, rfl⟩
  all_goals exact ⟨by decide +kernel, by decide, by decide⟩
theorem kit_base {b a : String} {t : Str} (h : isBase t = some b) (ha : a = "NoneType" ∨ a = "bool" ∨ a = "int" ∨ a = "str" ∨ a = "tuple" ∨ a = "list" ∨ a = "dict") : kitB a b = some (decide (a = b) || (decide (a = "bool") && decide (b = "int"))) := by
  rcases base_is h with ⟨_, rfl⟩ | ⟨_, rfl⟩ | ⟨_, rfl⟩ | ⟨_, rfl⟩ | ⟨_, rfl⟩
  all_goals rcases ha with rfl | rfl | rfl | rfl | rfl | rfl | rfl <;> decide +kernel
theorem tyV_ok (s : Sim X.K X.mg io H S) (r : Rep X.K X.mg io H x v) {t : String} (h : tyV x S = some t) : TyX X.K H v (.type t) ∧ (t = "NoneType" ∨ t = "bool" ∨ t = "int" ∨ t = "str" ∨ t = "tuple" ∨ t = "list" ∨ t = "dict") := by
  cases r with
  | non => cases h; exact ⟨.base .non, .inl rfl⟩
  | bl b => cases h; exact ⟨.base (.bl b), .inr (.inl rfl)⟩
  | int i => cases h; exact ⟨.base (.int i), .inr (.inr (.inl rfl))⟩
  | str y => cases h; exact ⟨.base (.str y), .inr (.inr (.inr (.inl rfl)))⟩
  | @tup l a xs h1 r =>
    cases h
    refine ⟨?_, .inr (.inr (.inr (.inr (.inl rfl))))⟩
    rcases h1 with (h1 | ⟨o, h1⟩) | ⟨o, its, n, h1, h2, _⟩
    · exact .base (.tup h1)
    · exact .fTuple h1
    · exact .kTuple h1 h2
  | @ref n a h1 =>
    have h : (match S[n]? with
      | some (.lst _) => some "list"
      | some (.dct _) => some "dict"
      | some (.dtt _) => some "dict"
      | _ => none) = some t := h
    split at h
    · rename_i l e1
      cases h
      obtain ⟨xs, hx, _⟩ := s.lst h1 e1
      exact ⟨.base (.lst hx), by simp⟩
    · rename_i l e1
      cases h
      obtain ⟨b, hb, q⟩ := s.at_ _ _ e1
      rw [h1] at hb
      cases hb
      cases q with
      | mk e' r => cases r with | dct r => exact ⟨.base (.dK e'), by simp⟩
    · rename_i l e1
      cases h
      obtain ⟨b, hb, q⟩ := s.at_ _ _ e1
      rw [h1] at hb
      cases hb
      cases q with
      | mk e' r => cases r with | dtt r => exact ⟨.base (.dT e'), by simp⟩
    · cases h
  | _ => cases h
theorem isi_ok {t : Str} {b : String} (hb : isBase t = some b) (s : Sim X.K X.mg io H S) (r : Rep X.K X.mg io H x v) (p : Po X.K X.mg Wx (Rep X.K X.mg) (isiV t x S) io H σ Q) : rIsi X.K [v, .ty b] H Q := by
  unfold isiV at p
  rw [hb] at p
  have p : Po X.K X.mg Wx (Rep X.K X.mg) (match tyV x S with
    | some a => .ok (.bl (decide (a = b) || (decide (a = "bool") && decide (b = "int")))) S
    | none => .err) io H σ Q := p
  split at p
  · rename_i a e
    obtain ⟨h1, h2⟩ := tyV_ok s r e
    exact ⟨v, .ty b, .type a, .type b, _, rfl, .ty b, h1, kit_ty (kit_base hb h2), p.now s (.bl _)⟩
  · exact p.elim
theorem pv_isi {t : Str} {bt : String} {p p2 : Pos} (hb : isBase t = some bt) (hg : Gl X "isinstance") (hm : X.mg "isinstance" = none) (hg2 : Gl X t) (hm2 : X.mg t = none) (hs : notStar a = true) (ha : PV X D Wx a ia) :
    PV X D Wx (.Call (.Name "isinstance" p) [a, .Name t p2] [] pos) (.isi ia t) := by
  obtain ⟨h1, h2, h3⟩ := boot_base hb
  refine peMono (pe_callB call_isi hg hm PyProof.Rows.boot_isinstance (pa_cons ha (pa_cons (pe_bltn (v := .ty bt) hg2 hm2 h1 rfl h2 h3) pa_nil) (star_of hs)) (by decide) (by decide) (star_of hs)) fun σ H Q ⟨io, S, r, s, e, p⟩ => ?_
  rw [den] at p
  exact ⟨io, S, r, s, e, p.bind fun x S1 io1 v H1 _ x1 s1 r1 p1 => isi_ok hb s1 r1 p1⟩
/-! ### calls of the text's own defs -/
/-- the promise of a def: the interpreter's answer -/
def spRun (K : Fg) (mg : Mg) (np : Nat) (F : List W → Vs → Out W) : Sp := fun vs H Q E => ∃ io S ws, Sim K mg io H S ∧ Reps K mg io H ws vs ∧ ws.length = np ∧ Po K mg (fun cls d _ H' => E cls d H') (Rep K mg) (F ws S) io H [] Q
/-- the constants that fill up -/
def conV : W → Option V
  | .non => some .non
  | .bl b => some (.bl b)
  | .int i => some (.int i)
  | .str x => some (.str x)
  | _ => none
def conVs : List W → Option (List V)
  | [] => some []
  | w :: l => match conV w, conVs l with
    | some v, some vs => some (v :: vs)
    | _, _ => none
theorem conV_rep {w : W} {v : V} (h : conV w = some v) {K : Fg} {mg : Mg} {io : List Addr} {H : Hp} : Rep K mg io H w v := by
  cases w <;> first | (cases h; done) | (cases h; constructor)
theorem conVs_rep : ∀ {l : List W} {vs : List V}, conVs l = some vs → ∀ {K : Fg} {mg : Mg} {io : List Addr} {H : Hp}, Reps K mg io H l vs
  | [], vs, h => by cases h; exact .nil
  | w :: l, vs, h => by
    unfold conVs at h
    split at h
    · rename_i v vs' e1 e2
      cases h
      exact .cons (conV_rep e1) (conVs_rep e2)
    · cases h
/-- how a def of d stands: its arguments bind, the last ones by default -/
structure DefOk (K : Fg) (fd : FuncData) (ps : List Str) (d : Fd) : Prop where
  len : ps.length = d.np
  bind : ∀ j, j ≤ d.np → d.np - j ≤ d.dfl.length → ∃ ds dvs, Binds K fd ps ds ∧ Vals dvs ds ∧ conVs (d.dfl.drop (d.dfl.length - (d.np - j))) = some dvs
theorem argsOf_some {d : Fd} {ws vs : List W} (h : argsOf d ws = some vs) : ws.length ≤ d.np ∧ d.np - ws.length ≤ d.dfl.length ∧ vs = ws ++ d.dfl.drop (d.dfl.length - (d.np - ws.length)) ∧ vs.length = d.np := by
  unfold argsOf at h
  split at h
  · rename_i c
    cases h
    refine ⟨c.1, c.2, rfl, ?_⟩
    rw [List.length_append, List.length_drop]
    omega
  · cases h
theorem denL_len {l : IL} {r : Rho} : ∀ {s s' : Vs} {ws : List W}, denL D l r s = .ok ws s' → True := fun _ => trivial
def lenL : IL → Nat
  | .nil => 0
  | .cons _ l => lenL l + 1
theorem lenL_ok : ∀ {l : IL} {r : Rho} {s s' : Vs} {ws : List W}, denL D l r s = .ok ws s' → ws.length = lenL l
  | .nil, r, s, s', ws, h => by rw [denL] at h; cases h; rfl
  | .cons a l, r, s, s', ws, h => by
    rw [denL] at h
    obtain ⟨x, s1, _, h⟩ := bind_get h
    obtain ⟨xs, s2, h2, h⟩ := bind_get h
    cases h
    rw [List.length_cons, lenL_ok h2]
    rfl
/-- what the call of f does, at n calls more -/
def callD (d : Fd) (F : List W → Vs → Out W) (ws : List W) (s : Vs) : Out W := match argsOf d ws with
  | some vs => F vs s
  | none => .err
theorem callD_po {d : Fd} {F : List W → Vs → Out W} {ws : List W} {α β : Type} {R : List Addr → Hp → W → β → Prop} {Q : β → Hp → Prop} (p : Po X.K X.mg Wx R (callD d F ws S) io H σ Q) : ∃ vs, argsOf d ws = some vs ∧ Po X.K X.mg Wx R (F vs S) io H σ Q := by
  unfold callD at p
  split at p
  · exact ⟨_, by assumption, p⟩
  · exact p.elim
theorem po_sp {R : List Addr → Hp → W → V → Prop} {o : Out W} (p : Po X.K X.mg Wx R o io H σ Q) : Po X.K X.mg (fun cls d _ H' => WE Wx σ cls d H') R o io H [] Q := by
  cases o <;> exact p
theorem passAtN {Wx : WX} (tk : L2N.Takes X Wx) (σ : L2.St) : PassesAt (L2N.CX X.prog X.w) X σ (WE Wx σ) := fun pins H s e s' I c => tk e s' (L2N.XE.of_call I (fun _ _ _ h => h) c)
theorem pv_call {n : Nat} {f : Str} {fa : Addr} {fd : FuncData} {ps : List Str} {d : Fd} {F : List W → Vs → Out W} {es : List Expr} {l : IL} {p : Pos}
    (FO : FnOk X.prog X.w X.K X.mg X.base (L2N.CX X.prog X.w) n fa fd ps (spRun X.K X.mg d.np F)) (dk : DefOk X.K fd ps d) (hr : Room n X.A) (tk : L2N.Takes X Wx) (hg : Gl X f) (hm : X.mg f = some (.ref fa)) (hk : PySem.W.keepIn X.K (.ref fa) = true)
    (hd : (f == ("__debug__" : Str)) = false) (hj : lenL l ≤ d.np ∧ d.np - lenL l ≤ d.dfl.length) (hF : ∀ ws s, D.fe Str.empty f ws s = callD d F ws s) (hs : noStars (a :: es) = true) (ha : PVs X D Wx (a :: es) l) : PV X D Wx (.Call (.Name f p) (a :: es) [] pos) (.call f l) := by
  have h1 : notStar a = true := by unfold noStars at hs; rw [List.all_cons, Bool.and_eq_true] at hs; exact hs.1
  have h2 : noStars es = true := by unfold noStars at hs; rw [List.all_cons, Bool.and_eq_true] at hs; exact hs.2
  obtain ⟨ds, dvs, hb, hv, hc⟩ := dk.bind (lenL l) hj.1 hj.2
  refine peMono (pe_callSD FO hr hg hm hk hb hv (fun σ => passAtN tk σ) ha hd (star_of h1) (nostar_anyB h2)) fun σ H Q ⟨io, S, r, s, e, p⟩ => ?_
  rw [den] at p
  refine ⟨io, S, r, s, e, p.bind fun ws S1 io1 vs H1 ew x1 s1 r1 p1 => ?_⟩
  rw [hF] at p1
  obtain ⟨us, hu, p1⟩ := callD_po (α := W) p1
  obtain ⟨_, _, e2, e3⟩ := argsOf_some hu
  have el := lenL_ok ew
  rw [el] at e2
  refine ⟨io1, S1, us, s1, ?_, e3, po_sp p1⟩
  rw [e2]
  exact r1.append (conVs_rep hc)
/-- C(..) -/
def clsD (c : Str) (F : List W → Vs → Out W) (ws : List W) (s : Vs) : Out W := match F (.ref s.length :: ws) (s ++ [.ins c []]) with
  | .ok .non s' => .ok (.ref s.length) s'
  | .exc x s' => .exc x s'
  | _ => .err
/-- what is wished is the same at all slots -/
def Flat (Wx : WX) : Prop := ∀ cls d σ σ' H, Wx cls d σ H → Wx cls d σ' H
theorem passFlat {Wx : WX} (tk : L2N.Takes X Wx) : Passes (L2N.CX X.prog X.w) X (fun cls d H => ∀ σ, Wx cls d σ H) := fun pins σ H s e s' I c => L2N.passes_call tk (fun cls d σ H h => h σ) pins σ H s e s' I c
theorem made_ok {cn : Str} {C : Addr} {d : Fd} {F : List W → Vs → Out W} {ws : List W} {vs dvs : List V} {Q : VK} (mc : X.mg cn = some (.ref C)) (cl : Cls X.K C) (s : Sim X.K X.mg io H S) (r : Reps X.K X.mg io H ws vs)
    (hc : conVs (d.dfl.drop (d.dfl.length - (d.np - (ws.length + 1)))) = some dvs) (p : Po X.K X.mg Wx (Rep X.K X.mg) (clsD cn (callD d F) ws S) io H σ Q) (q dx : Addr) (hq : H q = none) (hdx : H dx = none) (hne : dx ≠ q) :
    spRun X.K X.mg d.np F (.ref q :: (vs ++ dvs)) (upd (upd H dx (.own q)) q (.ins C dx [])) (fun v H2 => v = .non ∧ Q (.ref q) H2) (WE Wx σ) := by
  have e1 : upd H dx (.own q) q = none := by rw [upd_ne hne.symm]; exact hq
  have s1 := s.new (o := .own q) hdx
  have x1 : Ex io H io (upd H dx (.own q)) := Ex.new hdx
  have x2 : Ex io (upd H dx (.own q)) (io ++ [q]) (upd (upd H dx (.own q)) q (.ins C dx [])) := Ex.push e1
  have s2 := s1.push (o := .ins cn []) (u := .ins C dx []) e1 (.ins mc cl (fun f hf => by cases hf) .nil)
  have x3 := x1.trans x2
  unfold clsD callD at p
  cases ha : argsOf d (.ref S.length :: ws) with
  | none => rw [ha] at p; exact p.elim
  | some us =>
    rw [ha] at p
    have p : Po X.K X.mg Wx (Rep X.K X.mg) (match F us (S ++ [.ins cn []]) with
      | .ok .non s' => .ok (.ref S.length) s'
      | .exc x s' => .exc x s'
      | _ => .err) io H σ Q := p
    obtain ⟨_, _, e2, e3⟩ := argsOf_some ha
    rw [List.length_cons] at e2
    refine ⟨io ++ [q], S ++ [.ins cn []], us, s2, ?_, e3, ?_⟩
    · rw [e2]
      show Reps X.K X.mg _ _ (.ref S.length :: (ws ++ _)) _
      exact .cons (.ref (by rw [← s.len]; simp)) ((r.mono s x3).append (conVs_rep hc))
    · cases ho : F us (S ++ [.ins cn []]) with
      | ok w S' =>
        rw [ho] at p
        intro io' v H' x' s' r'
        cases r' with
        | non =>
          refine ⟨rfl, p io' (.ref q) H' (x3.trans x') s' (.ref (x'.get (by rw [← s.len]; simp)))⟩
        | _ => exact p.elim
      | exc y S' =>
        rw [ho] at p
        exact fun io' H' cls d x' s' r' => p io' H' cls d (x3.trans x') s' r'
      | err => rw [ho] at p; exact p.elim
theorem pv_make {n : Nat} {f : Str} {fa C : Addr} {fd : FuncData} {ps : List Str} {d : Fd} {F : List W → Vs → Out W} {es : List Expr} {l : IL} {p : Pos} (M : Mk X.K C fa) (cl : Cls X.K C)
    (FO : FnOk X.prog X.w X.K X.mg X.base (L2N.CX X.prog X.w) n fa fd ps (spRun X.K X.mg d.np F)) (dk : DefOk X.K fd ps d) (hr : Room (n + 1) X.A) (tk : L2N.Takes X Wx) (hg : Gl X f) (hm : X.mg f = some (.ref C))
    (hd : (f == ("__debug__" : Str)) = false) (hj : lenL l + 1 ≤ d.np ∧ d.np - (lenL l + 1) ≤ d.dfl.length) (hF : ∀ ws s, D.fe Str.empty f ws s = clsD f (callD d F) ws s) (hs : noStars (a :: es) = true) (ha : PVs X D Wx (a :: es) l) :
    PV X D Wx (.Call (.Name f p) (a :: es) [] pos) (.call f l) := by
  have h1 : notStar a = true := by unfold noStars at hs; rw [List.all_cons, Bool.and_eq_true] at hs; exact hs.1
  have h2 : noStars es = true := by unfold noStars at hs; rw [List.all_cons, Bool.and_eq_true] at hs; exact hs.2
  obtain ⟨ds, dvs, hb, hv, hc⟩ := dk.bind (lenL l + 1) hj.1 hj.2
  refine peMono (xpe_make (F := WE Wx) M FO hr hg hm hb hv (passAtN tk) ha hd (star_of h1) (nostar_anyB h2)) fun σ H Q ⟨io, S, r, s, e, p⟩ => ?_
  rw [den] at p
  refine ⟨io, S, r, s, e, p.bind fun ws S1 io1 vs H1 ew x1 s1 r1 p1 => ?_⟩
  rw [hF] at p1
  exact fun q dx hq hdx hne => made_ok hm cl s1 r1 (by rw [lenL_ok ew]; exact hc) p1 q dx hq hdx hne
/-! ### methods -/
theorem repP_none {l : List (Str × W)} {xs : List (Str × V)} (r : RepP X.K X.mg io H l xs) {f : Str} (h : (l.lookup f).isNone = true) : xs.lookup f = none := by
  induction r with
  | nil => rfl
  | cons q _ ih =>
    rename_i k w' v' l xs t
    rw [List.lookup_cons] at h ⊢
    cases e : f == k with
    | true => rw [e] at h; cases h
    | false => rw [e] at h; exact ih h
theorem own_ok {cn m : Str} {C : Addr} (mc : X.mg cn = some (.ref C)) (s : Sim X.K X.mg io H S) (r : Rep X.K X.mg io H x v) (h : ownOk cn m x S = true) : ∃ q dx fs, v = .ref q ∧ H q = some (.ins C dx fs) ∧ fs.lookup m = none := by
  cases r with
  | @ref n q h1 =>
    have h : (match S[n]? with
      | some (.ins c' fs) => decide (c' = cn) && (fs.lookup m).isNone
      | _ => false) = true := h
    split at h
    · rename_i c' fs e
      rw [Bool.and_eq_true] at h
      have hc := of_decide_eq_true h.1
      subst hc
      obtain ⟨C', dx, fv, e1, e2, _, _, e3⟩ := s.ins h1 e
      rw [mc] at e2
      cases e2
      exact ⟨q, dx, fv, rfl, e1, repP_none e3 h.2⟩
    · cases h
  | _ => cases h
theorem pv_omt {n : Nat} {cn m : Str} {fa C : Addr} {fd : FuncData} {ps : List Str} {d : Fd} {F : List W → Vs → Out W} {es : List Expr} {l : IL} {apos : Pos} (cl : Cls X.K C) (hmt : Meth X.K C m fa)
    (FO : FnOk X.prog X.w X.K X.mg X.base (L2N.CX X.prog X.w) n fa fd ps (spRun X.K X.mg d.np F)) (dk : DefOk X.K fd ps d) (hr : Room n X.A) (tk : L2N.Takes X Wx) (mc : X.mg cn = some (.ref C))
    (hj : lenL l + 1 ≤ d.np ∧ d.np - (lenL l + 1) ≤ d.dfl.length) (hF : ∀ ws s, D.fe cn m ws s = callD d F ws s) (hb : baseOk a = true) (hline : (apos.endLine == pos.line) = true) (hs : noStars es = true) (hl : es.length < 29)
    (hnil : es = [] → l = .nil) (ha : PV X D Wx a ia) (hes : PVs X D Wx es l) : PV X D Wx (.Call (.Attribute a m apos) es [] pos) (.omt cn m ia l) := by
  obtain ⟨ds, dvs, hbn, hv, hc⟩ := dk.bind (lenL l + 1) hj.1 hj.2
  have go : PE X (.Call (.Attribute a m apos) es [] pos) (tMethX C m (spRun X.K X.mg d.np F) dvs (WE Wx) (tr X.K X.mg Wx (den D ia)) (trA X.K X.mg Wx (denL D l))) := by
    cases es with
    | nil =>
      refine peMono (xpe_meth0 ha cl hmt FO hr hbn hv (passAtN tk) (meth_line hb rfl hl hline)) fun σ H Q h => ?_
      obtain rfl := hnil rfl
      obtain ⟨io, S, r, s, e, p⟩ := h
      refine ⟨io, S, r, s, e, ?_⟩
      cases ho : den D ia r S with
      | ok w S' =>
        rw [ho] at p
        intro io' v H' x' s' r'
        obtain ⟨q, dx, fs, h1, h2, h3, h4⟩ := p io' v H' x' s' r'
        obtain ⟨io2, S2, r2, s2, e2, p2⟩ := h4
        rw [denL] at p2
        exact ⟨q, dx, fs, h1, h2, h3, p2.now s2 .nil⟩
      | exc y S' => rw [ho] at p; exact p
      | err => rw [ho] at p; exact p
    | cons b es =>
      have h1 : notStar b = true := by unfold noStars at hs; rw [List.all_cons, Bool.and_eq_true] at hs; exact hs.1
      have h2 : noStars es = true := by unfold noStars at hs; rw [List.all_cons, Bool.and_eq_true] at hs; exact hs.2
      exact xpe_meth ha cl hmt FO hr hbn hv (passAtN tk) hes (star_of h1) (nostar_anyB h2) (meth_line hb hs hl hline)
  refine peMono go fun σ H Q ⟨io, S, r, s, e, p⟩ => ?_
  rw [den] at p
  refine ⟨io, S, r, s, e, p.bind fun x S1 io1 v H1 _ x1 s1 r1 p1 => ?_⟩
  by_cases ho : ownOk cn m x S1 = true
  · rw [if_pos ho] at p1
    obtain ⟨q, dx, fs, h1, h2, h3⟩ := own_ok mc s1 r1 ho
    refine ⟨q, dx, fs, h1, h2, h3, io1, S1, r, s1, e.mono s x1, p1.bind fun ws S2 io2 vs H2 ew x2 s2 r2 p2 => ?_⟩
    rw [hF] at p2
    obtain ⟨us, hu, p2⟩ := callD_po (α := W) p2
    obtain ⟨_, _, e2, e3⟩ := argsOf_some hu
    rw [List.length_cons, lenL_ok ew] at e2
    refine ⟨io2, S2, us, s2, ?_, e3, ?_⟩
    · rw [e2]
      exact .cons (h1 ▸ r1.mono s1 x2) (r2.append (conVs_rep hc))
    · cases hq : F us S2 with
      | ok w S' => rw [hq] at p2; exact p2
      | exc y S' => rw [hq] at p2; exact fun io' H' cls d x' s' r' => p2 io' H' cls d x' s' r'
      | err => rw [hq] at p2; exact p2
  · rw [if_neg ho] at p1; exact p1.elim
theorem list_recv (s : Sim X.K X.mg io H S) (r : Rep X.K X.mg io H x v) (h : tyV x S = some "list") : ∃ n q l xs, x = .ref n ∧ v = .ref q ∧ io[n]? = some q ∧ S[n]? = some (.lst l) ∧ H q = some (.lst xs) ∧ Reps X.K X.mg io H l xs := by
  cases r with
  | @ref n q h1 =>
    have h : (match S[n]? with
      | some (.lst _) => some "list"
      | some (.dct _) => some "dict"
      | some (.dtt _) => some "dict"
      | _ => none) = some "list" := h
    split at h
    · rename_i l e1
      obtain ⟨xs, hx, r⟩ := s.lst h1 e1
      exact ⟨n, q, l, xs, rfl, rfl, h1, e1, hx, r⟩
    all_goals (first | cases h | (exfalso; revert h; decide))
  | _ => simp [tyV] at h
end
end Vm
set_option Elab.async false
set_option linter.all false
set_option maxRecDepth 100000
set_option maxHeartbeats 1000000
/-! Methods of built-in types, what is walked, comprehensions. -/
namespace Vm
open PySem L2
section
variable {X : Cx} {D : Wd} {Wx : WX} {io : List Addr} {H : Hp} {S : Vs} {σ : L2.St} {x y : W} {v u : V} {Q : VK}
variable {a b c : Expr} {ia ib ic : IE} {pos : Pos}
/-! ### methods of lists -/
theorem recv_ty {m : Str} {t : String} (hm : mtTy m = some t) (h : recvOk m x S = true) : tyV x S = some t := by
  unfold recvOk at h
  rw [hm] at h
  cases e : tyV x S with
  | none => rw [e] at h; cases h
  | some b =>
    rw [e] at h
    have := of_decide_eq_true h
    rw [this]
theorem list_ty (s : Sim X.K X.mg io H S) (r : Rep X.K X.mg io H x v) (h : tyV x S = some "list") : L2.tyV X.K "list" v H := by
  obtain ⟨n, q, l, xs, rfl, rfl, _, _, h1, _⟩ := list_recv s r h
  exact Or.inl ⟨rfl, _, Or.inl (Or.inl h1)⟩
/-- the rule of a method of a built-in type -/
abbrev MOk (K : Fg) (mg : Mg) (Wx : WX) (m : Str) (R : V → List V → Hp → VK → Prop) : Prop := ∀ (io : List Addr) (H : Hp) (S : Vs) (σ : L2.St) (x : W) (v : V) (ws : List W) (vs : List V) (Q : VK), Sim K mg io H S → Rep K mg io H x v → Reps K mg io H ws vs → Po K mg Wx (Rep K mg) (mtV m x ws S) io H σ Q → R v vs H Q
theorem append_ok : MOk X.K X.mg Wx "append" rAppend := fun io H S σ x v ws vs Q s rx r p => by
  rw [mtV_append] at p
  cases rx with
  | @ref n q h =>
    cases r with
    | nil => exact p.elim
    | @cons w u ws vs q1 t =>
      cases t with
      | cons _ _ => exact p.elim
      | nil =>
        have p : Po X.K X.mg Wx (Rep X.K X.mg) (match S[n]? with
          | some (.lst l) => if decide (l.length < sizeLine) then .ok .non (S.set n (.lst (l ++ [w]))) else .err
          | _ => .err) io H σ Q := p
        split at p
        · rename_i l e1
          obtain ⟨xs, hx, r1⟩ := s.lst h e1
          by_cases hf : decide (l.length < sizeLine) = true
          · rw [if_pos hf] at p
            exact ⟨_, xs, _, rfl, rfl, hx, by rw [← r1.length]; exact of_decide_eq_true hf, p _ _ _ (Ex.write (List.mem_iff_getElem?.mpr ⟨n, h⟩) (nf_of hx trivial)) (s.write h (nf_of hx trivial) (.lst (r1.append (.cons q1 .nil)))) .non⟩
          · rw [if_neg hf] at p; exact p.elim
        · exact p.elim
  | _ => cases r <;> exact p.elim
def rInsert : V → List V → Hp → VK → Prop := fun x vs H Q => ∃ (l : Addr) (xs : List V) (i : Int) (y : V), x = .ref l ∧ vs = [.int i, y] ∧ H l = some (.lst xs) ∧ xs.length < sizeLine ∧ 0 ≤ i ∧ i < 2 ^ 63 ∧ Q .non (upd H l (.lst (xs.take i.toNat ++ [y] ++ xs.drop i.toNat)))
theorem insert_ok : MOk X.K X.mg Wx "insert" rInsert := fun io H S σ x v ws vs Q s rx r p => by
  rw [mtV_insert] at p
  cases rx with
  | @ref n q h =>
    cases r with
    | nil => exact p.elim
    | @cons w u ws vs q1 t =>
      cases t with
      | nil => cases q1 <;> exact p.elim
      | @cons w2 u2 ws vs q2 t =>
        cases t with
        | cons _ _ => cases q1 <;> exact p.elim
        | nil =>
          cases q1 with
          | int i =>
            have p : Po X.K X.mg Wx (Rep X.K X.mg) (match S[n]? with
              | some (.lst l) => if decide (0 ≤ i ∧ i < 2 ^ 63) && decide (l.length < sizeLine) then .ok .non (S.set n (.lst (l.take i.toNat ++ [w2] ++ l.drop i.toNat))) else .err
              | _ => .err) io H σ Q := p
            split at p
            · rename_i l e1
              obtain ⟨xs, hx, r1⟩ := s.lst h e1
              by_cases hf : (decide (0 ≤ i ∧ i < 2 ^ 63) && decide (l.length < sizeLine)) = true
              · rw [if_pos hf] at p
                rw [Bool.and_eq_true] at hf
                obtain ⟨h1, h2⟩ := of_decide_eq_true hf.1
                exact ⟨_, xs, i, _, rfl, rfl, hx, by rw [← r1.length]; exact of_decide_eq_true hf.2, h1, h2, p _ _ _ (Ex.write (List.mem_iff_getElem?.mpr ⟨n, h⟩) (nf_of hx trivial)) (s.write h (nf_of hx trivial) (.lst (((r1.take _).append (.cons q2 .nil)).append (r1.drop _)))) .non⟩
              · rw [if_neg hf] at p; exact p.elim
            · exact p.elim
          | _ => exact p.elim
  | _ => cases r <;> exact p.elim
theorem pv_lmeth {m : Str} {id : String} {R : V → List V → Hp → VK → Prop} {es : List Expr} {l : IL} {apos : Pos} (pa : PlainAttrs "list") (slot : Slot "list" m id) (hty : typeOf (.builtin id) = pure (.type "method_descriptor")) (hR : MtR X id R) (hv : MOk X.K X.mg Wx m R) (hm : mtTy m = some "list")
    (hb : baseOk a = true) (hline : (apos.endLine == pos.line) = true) (hs : noStars (b :: es) = true) (hl : (b :: es).length < 29) (ha : PV X D Wx a ia) (hes : PVs X D Wx (b :: es) l) : PV X D Wx (.Call (.Attribute a m apos) (b :: es) [] pos) (.meth ia m l) := by
  have h1 : notStar b = true := by unfold noStars at hs; rw [List.all_cons, Bool.and_eq_true] at hs; exact hs.1
  have h2 : noStars es = true := by unfold noStars at hs; rw [List.all_cons, Bool.and_eq_true] at hs; exact hs.2
  refine peMono (pe_bm pa slot hty hR ha hes (base_of hb _) (nostar_few hs hl) hline (star_of h1) (nostar_anyB h2)) fun σ H Q ⟨io, S, r, s, e, p⟩ => ?_
  rw [den] at p
  refine ⟨io, S, r, s, e, p.bind fun x S1 io1 v H1 _ x1 s1 r1 p1 => ?_⟩
  by_cases hr : recvOk m x S1 = true
  · rw [if_pos hr] at p1
    refine ⟨list_ty s1 r1 (recv_ty hm hr), io1, S1, r, s1, e.mono s x1, p1.bind fun ws S2 io2 vs H2 _ x2 s2 r2 p2 => hv io2 H2 S2 σ x v ws vs Q s2 (r1.mono s1 x2) r2 p2⟩
  · rw [if_neg hr] at p1; exact p1.elim
theorem pv_append {es : List Expr} {l : IL} {apos : Pos} (hb : baseOk a = true) (hline : (apos.endLine == pos.line) = true) (hs : noStars (b :: es) = true) (hl : (b :: es).length < 29) (ha : PV X D Wx a ia) (hes : PVs X D Wx (b :: es) l) :
    PV X D Wx (.Call (.Attribute a "append" apos) (b :: es) [] pos) (.meth ia "append" l) := pv_lmeth PySem.F.plainAttrs_list PySem.F.slot_list_append PySem.F.type_list_append mt_append append_ok rfl hb hline hs hl ha hes
theorem pv_insert {es : List Expr} {l : IL} {apos : Pos} (hb : baseOk a = true) (hline : (apos.endLine == pos.line) = true) (hs : noStars (b :: es) = true) (hl : (b :: es).length < 29) (ha : PV X D Wx a ia) (hes : PVs X D Wx (b :: es) l) :
    PV X D Wx (.Call (.Attribute a "insert" apos) (b :: es) [] pos) (.meth ia "insert" l) := pv_lmeth PySem.F.plainAttrs_list PySem.F.slot_list_insert PySem.F.type_list_insert mt_insert insert_ok rfl hb hline hs hl ha hes
/-! ### what is walked -/
/-- J gives the items of q from (io0, H0) on, while q's lists stand still -/
def ItOkG (K : Fg) (mg : Mg) (J : It) (ok : Vs → Prop) (items : List W) (io0 : List Addr) (H0 : Hp) : Prop := ∀ i io H S, Ex io0 H0 io H → Sim K mg io H S → ok S →
  (i < items.length → J.go i H ∧ ∀ x H', J.yld i H x H' → Ex io H io H' ∧ Sim K mg io H' S ∧ ∃ w, items[i]? = some w ∧ Rep K mg io H' w x) ∧ (i = items.length → J.stop i H)
abbrev ItOk (K : Fg) (mg : Mg) (J : It) (q : Src) (io0 : List Addr) (H0 : Hp) : Prop := ItOkG K mg J q.ok q.items io0 H0
def trI (K : Fg) (mg : Mg) (Wx : WX) (m : Rho → Vs → Out Src) : TI := fun σ H R => ∃ io S r, Sim K mg io H S ∧ RepE K mg io H r σ ∧ (match m r S with
  | .ok q S' => ∀ io' H', Ex io H io' H' → Sim K mg io' H' S' → ∀ J, ItOk K mg J q io' H' → R J H'
  | .exc x S' => ∀ io' H' cls d, Ex io H io' H' → Sim K mg io' H' S' → RepX K mg io' H' x cls d → Wx cls d σ H'
  | .err => False)
abbrev PIV (X : Cx) (D : Wd) (Wx : WX) (tg e : Expr) (i : II) : Prop := PI X tg e (trI X.K X.mg Wx (denI D i))
theorem piMono {tg e : Expr} {t t' : TI} (h : PI X tg e t) (k : ∀ σ H R, t' σ H R → t σ H R) : PI X tg e t' := ⟨fun pins s σ H R I q => h.run pins s σ H R I (k σ H R q)⟩
theorem piOr {tg e : Expr} {t u : TI} (h : PI X tg e t) (g : PI X tg e u) : PI X tg e (fun σ H R => t σ H R ∨ u σ H R) := ⟨fun pins s σ H R I q => q.elim (h.run pins s σ H R I) (g.run pins s σ H R I)⟩
theorem reps_at {l : List W} {xs : List V} (r : Reps X.K X.mg io H l xs) {i : Nat} (h : i < l.length) : ∃ w x, l[i]? = some w ∧ xs[i]? = some x ∧ Rep X.K X.mg io H w x := by
  obtain ⟨x, h1, h2⟩ := r.get (List.getElem?_eq_getElem h)
  exact ⟨_, x, List.getElem?_eq_getElem h, h1, h2⟩
theorem it_tup {l : List W} {q : Addr} {xs : List V} (s : Sim X.K X.mg io H S) (h : SqT X.K H q xs) (r : Reps X.K X.mg io H l xs) : ItOk X.K X.mg (Itt X.K q) ⟨l, []⟩ io H := fun i jo J S' x sj ok => by
  have h' := sqT_mono s x h
  have r' := Reps.mono s x r
  refine ⟨fun hi => ?_, fun hi => ⟨xs, h', by rw [← r.length, hi]; exact Nat.le_refl _⟩⟩
  obtain ⟨w, y, e1, e2, e3⟩ := reps_at r' hi
  refine ⟨⟨xs, y, h', e2⟩, fun z H' yl => ?_⟩
  obtain ⟨rfl, yl⟩ := yl
  have := yl xs h'
  rw [e2] at this
  cases this
  exact ⟨Ex.refl _ _, sj, w, e1, e3⟩
theorem it_lst {l : List W} {n : Nat} {q : Addr} (s : Sim X.K X.mg io H S) (h : io[n]? = some q) : ItOk X.K X.mg (Itl X.K q) ⟨l, [(n, l)]⟩ io H := fun i jo J S' x sj ok => by
  have e := lstAt_of (ok (n, l) (List.mem_cons_self))
  obtain ⟨xs, hx, r⟩ := sj.lst (x.get h) e
  refine ⟨fun hi => ?_, fun hi => ⟨xs, SqL.of hx, by rw [← r.length, hi]; exact Nat.le_refl _⟩⟩
  obtain ⟨w, y, e1, e2, e3⟩ := reps_at r hi
  refine ⟨⟨xs, y, SqL.of hx, e2⟩, fun z H' yl => ?_⟩
  obtain ⟨rfl, yl⟩ := yl
  have := yl xs (SqL.of hx)
  rw [e2] at this
  cases this
  exact ⟨Ex.refl _ _, sj, w, e1, e3⟩
theorem it_str {z : Str} : ItOk X.K X.mg (Its z) ⟨z.cps.toList.map fun c => .str ⟨#[c]⟩, []⟩ io H := fun i jo J S' x sj ok => by
  refine ⟨fun hi => ?_, fun hi => ?_⟩
  · have hi : i < z.cps.size := by simpa using hi
    refine ⟨hi, fun w H' ⟨e, c, hc, ew⟩ => ?_⟩
    subst e
    subst ew
    refine ⟨Ex.refl _ _, sj, .str ⟨#[c]⟩, ?_, .str _⟩
    show (z.cps.toList.map fun c => W.str ⟨#[c]⟩)[i]? = _
    rw [List.getElem?_map, Array.getElem?_toList, hc]
    rfl
  · show z.cps.size ≤ i
    rw [hi]
    simp
theorem it_rng {lo hi : Int} : ItOk X.K X.mg (Itr lo (hi - lo).toNat) ⟨(List.range (hi - lo).toNat).map fun (i : Nat) => .int (lo + (i : Int)), []⟩ io H := fun i jo J S' x sj ok => by
  refine ⟨fun hi' => ?_, fun hi' => ?_⟩
  · have hi' : i < (hi - lo).toNat := by simpa using hi'
    refine ⟨hi', fun w H' ⟨e, ew⟩ => ?_⟩
    subst e
    subst ew
    refine ⟨Ex.refl _ _, sj, .int (lo + (i : Int)), ?_, .int _⟩
    show ((List.range (hi - lo).toNat).map fun (i : Nat) => W.int (lo + (i : Int)))[i]? = _
    rw [List.getElem?_map, List.getElem?_range hi']
    rfl
  · show (hi - lo).toNat ≤ i
    rw [hi']
    simp
theorem enumL_at : ∀ (l : List W) (k i : Nat) {w : W}, l[i]? = some w → (enumL k l)[i]? = some (.tup [.int ((k + i : Nat) : Int), w])
  | [], k, i, w, h => by simp at h
  | a :: l, k, 0, w, h => by
    simp at h
    subst h
    rfl
  | a :: l, k, i + 1, w, h => by
    have := enumL_at l (k + 1) i (w := w) (by simpa using h)
    show (enumL (k + 1) l)[i]? = _
    rw [this]
    have e : k + 1 + i = k + (i + 1) := by omega
    rw [e]
theorem enumL_len : ∀ (l : List W) (k : Nat), (enumL k l).length = l.length
  | [], _ => rfl
  | _ :: l, k => by show (enumL (k + 1) l).length + 1 = _; rw [enumL_len l]; rfl
theorem it_enum {l : List W} {n : Nat} {q : Addr} (s : Sim X.K X.mg io H S) (h : io[n]? = some q) : ItOk X.K X.mg (Ite X.K q) ⟨enumL 0 l, [(n, l)]⟩ io H := fun i jo J S' x sj ok => by
  have e := lstAt_of (ok (n, l) (List.mem_cons_self))
  obtain ⟨xs, hx, r⟩ := sj.lst (x.get h) e
  refine ⟨fun hi => ?_, fun hi => ⟨xs, SqL.of hx, by rw [← r.length, hi]; show l.length ≤ (enumL 0 l).length; rw [enumL_len]; exact Nat.le_refl _⟩⟩
  have hi : i < l.length := by rw [← enumL_len l 0]; exact hi
  obtain ⟨w, y, e1, e2, e3⟩ := reps_at r hi
  refine ⟨⟨xs, y, SqL.of hx, e2⟩, fun z H' ⟨T, y', ez, hT, eH, yl⟩ => ?_⟩
  subst ez
  subst eH
  have := yl xs (SqL.of hx)
  rw [e2] at this
  cases this
  refine ⟨Ex.new hT, sj.new hT, .tup [.int (i : Nat), w], ?_, .tup (SqT.of upd_same) (.cons (.int _) (.cons (e3.mono sj (Ex.new hT)) .nil))⟩
  show (enumL 0 l)[i]? = _
  rw [enumL_at l 0 i e1]
  simp
/-- a value that is walked: a list, a tuple, a text -/
theorem piv_val {tg : Expr} (ha : PV X D Wx a ia) : PIV X D Wx tg a (.val ia) :=
  piMono (piOr (piOr (pi_list ha) (pi_tup ha)) (pi_str ha)) fun σ H R ⟨io, S, r, s, e, p⟩ => by
    rw [denI] at p
    cases hx : den D ia r S with
    | ok x S1 =>
      rw [hx] at p
      have p : (match srcV x S1 with
        | .ok q S' => ∀ io' H', Ex io H io' H' → Sim X.K X.mg io' H' S' → ∀ J, ItOk X.K X.mg J q io' H' → R J H'
        | .exc x S' => ∀ io' H' cls d, Ex io H io' H' → Sim X.K X.mg io' H' S' → RepX X.K X.mg io' H' x cls d → Wx cls d σ H'
        | .err => False) := p
      cases x with
      | tup l =>
        refine .inl (.inr ⟨io, S, r, s, e, ?_⟩)
        rw [hx]
        intro io' v H' x' s' r'
        cases r' with
        | @tup l q xs h r1 => exact ⟨q, rfl, ⟨xs, h⟩, p io' H' x' s' _ (it_tup s' h r1)⟩
      | str z =>
        refine .inr ⟨io, S, r, s, e, ?_⟩
        rw [hx]
        intro io' v H' x' s' r'
        cases r' with
        | str z => exact ⟨z, rfl, p io' H' x' s' _ it_str⟩
      | ref n =>
        refine .inl (.inl ⟨io, S, r, s, e, ?_⟩)
        rw [hx]
        intro io' v H' x' s' r'
        cases r' with
        | @ref n q h =>
          have p : (match (match lstAt S1 n with
            | some l => Out.ok (⟨l, [(n, l)]⟩ : Src) S1
            | none => .err) with
            | .ok q S' => ∀ io' H', Ex io H io' H' → Sim X.K X.mg io' H' S' → ∀ J, ItOk X.K X.mg J q io' H' → R J H'
            | .exc x S' => ∀ io' H' cls d, Ex io H io' H' → Sim X.K X.mg io' H' S' → RepX X.K X.mg io' H' x cls d → Wx cls d σ H'
            | .err => False) := p
          cases el : lstAt S1 n with
          | none => rw [el] at p; exact p.elim
          | some l =>
            rw [el] at p
            obtain ⟨xs, hx', _⟩ := s'.lst h (lstAt_of el)
            exact ⟨q, rfl, ⟨xs, SqL.of hx'⟩, p io' H' x' s' _ (it_lst s' h)⟩
      | _ => exact p.elim
    | exc y S1 =>
      rw [hx] at p
      refine .inl (.inl ⟨io, S, r, s, e, ?_⟩)
      rw [hx]
      exact p
    | err => rw [hx] at p; exact p.elim
theorem rng_get {lo hi : Int} {q : Src} {S' : Vs} (h : rngV lo hi S = .ok q S') : (-(2 ^ 62) ≤ lo ∧ lo < 2 ^ 62 ∧ -(2 ^ 62) ≤ hi ∧ hi < 2 ^ 62) ∧ q = ⟨(List.range (hi - lo).toNat).map fun (i : Nat) => .int (lo + (i : Int)), []⟩ ∧ S' = S := by
  unfold rngV at h
  split at h
  · rename_i c
    cases h
    exact ⟨of_decide_eq_true c, rfl, rfl⟩
  · cases h
theorem one_star (hs : notStar a = true) : starEach [a] X.env = [(false, eval a X.env)] := star_of (es := []) hs
theorem piv_rng1 {tg : Expr} {p : Pos} (hg : Gl X "range") (hm : X.mg "range" = none) (hs : notStar a = true) (ha : PV X D Wx a ia) : PIV X D Wx tg (.Call (.Name "range" p) [a] [] pos) (.rng1 ia) :=
  piMono (pi_range1 hg hm (pa_cons ha pa_nil (star_of hs)) (one_star hs)) fun σ H R ⟨io, S, r, s, e, p⟩ => by
    rw [denI] at p
    refine ⟨io, S, r, s, e, ?_⟩
    cases hx : den D ia r S with
    | ok x S1 =>
      rw [hx] at p
      intro io' v H' x' s' r'
      cases r' with
      | int j =>
        have p : (match rngV 0 j S1 with
          | .ok q S' => ∀ io' H', Ex io H io' H' → Sim X.K X.mg io' H' S' → ∀ J, ItOk X.K X.mg J q io' H' → R J H'
          | .exc x S' => ∀ io' H' cls d, Ex io H io' H' → Sim X.K X.mg io' H' S' → RepX X.K X.mg io' H' x cls d → Wx cls d σ H'
          | .err => False) := p
        cases hq : rngV 0 j S1 with
        | ok q S2 =>
          obtain ⟨h1, rfl, rfl⟩ := rng_get hq
          rw [hq] at p
          refine ⟨j, rfl, h1.2.2.1, h1.2.2.2, ?_⟩
          have := p io' H' x' s' _ it_rng
          rw [show j - 0 = j from Int.sub_zero j] at this
          exact this
        | exc y S2 => unfold rngV at hq; split at hq <;> cases hq
        | err => rw [hq] at p; exact p.elim
      | _ => exact p.elim
    | exc y S1 => rw [hx] at p; exact p
    | err => rw [hx] at p; exact p.elim
theorem piv_enum {es : List Expr} {kk : Nat} {tp p : Pos} (hg : Gl X "enumerate") (hm : X.mg "enumerate" = none) (hs : notStar a = true) (ha : PV X D Wx a ia) : PIV X D Wx (.Tuple es kk tp) (.Call (.Name "enumerate" p) [a] [] pos) (.enum ia) :=
  piMono (pi_enum hg hm (pa_cons ha pa_nil (star_of hs)) (one_star hs)) fun σ H R ⟨io, S, r, s, e, p⟩ => by
    rw [denI] at p
    refine ⟨io, S, r, s, e, ?_⟩
    cases hx : den D ia r S with
    | ok x S1 =>
      rw [hx] at p
      intro io' v H' x' s' r'
      cases r' with
      | @ref n q h =>
        have p : (match (match lstAt S1 n with
          | some l => Out.ok (⟨enumL 0 l, [(n, l)]⟩ : Src) S1
          | none => .err) with
          | .ok q S' => ∀ io' H', Ex io H io' H' → Sim X.K X.mg io' H' S' → ∀ J, ItOk X.K X.mg J q io' H' → R J H'
          | .exc x S' => ∀ io' H' cls d, Ex io H io' H' → Sim X.K X.mg io' H' S' → RepX X.K X.mg io' H' x cls d → Wx cls d σ H'
          | .err => False) := p
        cases el : lstAt S1 n with
        | none => rw [el] at p; exact p.elim
        | some l =>
          rw [el] at p
          obtain ⟨xs, hx', _⟩ := s'.lst h (lstAt_of el)
          exact ⟨q, xs, rfl, SqL.of hx', p io' H' x' s' _ (it_enum s' h)⟩
      | _ => exact p.elim
    | exc y S1 => rw [hx] at p; exact p
    | err => rw [hx] at p; exact p.elim
end
end Vm
set_option Elab.async false
set_option linter.all false
set_option maxRecDepth 100000
set_option maxHeartbeats 2000000
/-! == and != by an own ==, of instances and of lists and tuples that are alike item by item. -/
namespace Vn0
open PySem PySem.SeqAt PySem.Spec PyProof.Rows L2 GQ MeetsSeq MeetsSeq2 MeetsSeq3 SeqRoads2
open AutoSeq1 (wpAny_loadPart')
section
variable {prog : Program} {w : World} {A : Around} {R : Result → Shared → Prop}
theorem ne_loop (l b : Addr) (N : Nat) (I : Nat → Shared → Prop) (hl : ListI prog w A (fun e s' => R (.error e) s') l b N I) (fin : ∀ s, I N s → R (.ok (.ret (.bool false))) s) : ∀ (k i : Nat), N - i = k → i ≤ N → ∀ s, I i s →
    wpAny (model prog w) A.in1 (Builtin.«list.__eq__.loop» ⟨[.ref l, .ref b, rawInt i, rawInt 3], []⟩) (FinOf prog w A R) (fun e s' => R (.error e) s') s := by
  intro k
  induction k with
  | zero =>
    intro i hk hi s h
    obtain ⟨xs, ys, n, m, a1, a2, n1, n2, _⟩ := hl _ _ h
    have hi' : i = N := by omega
    have hR : R (.ok (.ret (.bool false))) s := fin s (hi' ▸ h)
    obtain ⟨hp, g, d, tk, os⟩ := s
    wp_walk using wpAny_loadPart' a1, wpAny_loadPart' a2
    rw [show xs[((i : Nat) : Int).toNat]? = none by simp; omega, show ys[((i : Nat) : Int).toNat]? = none by simp; omega]
    wp_walk using wpAny_loadPart' a1, wpAny_loadPart' a2
    show R (.ok (.ret (.bool (xs.size != ys.size)))) _; rw [n1, n2]
    simpa using hR
  | succ k ih =>
    intro i hk hi s h
    obtain ⟨xs, ys, n, m, a1, a2, n1, n2, turn⟩ := hl _ _ h
    have j1 : i < xs.size := by omega
    have j2 : i < ys.size := by omega
    have ht := turn j1 j2
    obtain ⟨hp, g, d, tk, os⟩ := s
    wp_walk using wpAny_loadPart' a1, wpAny_loadPart' a2
    have hc : ((i : Int) + 1) = ((i + 1 : Nat) : Int) := by omega
    rw [show xs[((i : Nat) : Int).toNat]? = some xs[i] by simp [j1], show ys[((i : Nat) : Int).toNat]? = some ys[i] by simp [j2]]
    refine wpAny_bind (wpAny_mono ht (fun r s2 z => ?_) fun _ _ x => x)
    obtain ⟨rfl, h2⟩ := z
    have rec2 := ih (i + 1) (by omega) (by omega) s2 h2
    obtain ⟨hp2, g2, d2, tk2, os2⟩ := s2
    wp_walk
    rw [hc]; exact ⟨plainId_quiet plain_eq_loop _, codeAny_builtin entry_eq_loop (by rw [Around.under_plainId plain_eq_loop _]; exact rec2)⟩
theorem list_neG (l b : Addr) (N : Nat) (I : Nat → Shared → Prop) (hl : ListI prog w A (fun e s' => R (.error e) s') l b N I) (fin : ∀ s, I N s → R (.ok (.ret (.bool false))) s) {s : Shared} (h : I 0 s) :
    wpAny (model prog w) A.in1 (Builtin.«list.__ne__» ⟨[.ref l, .ref b], []⟩) (FinOf prog w A R) (fun e s' => R (.error e) s') s := by
  obtain ⟨xs, ys, n, m, a1, a2, n1, n2, _⟩ := hl _ _ h
  have rec2 := ne_loop (A := A) (R := R) l b N I hl fin _ 0 rfl (Nat.zero_le _) s h
  obtain ⟨hp, g, d, tk, os⟩ := s
  have f3 := AutoSeq1.sub_list_list
  have hne : ¬ (xs.size != ys.size) = true := by simp [n1, n2]
  wp_walk using wpAny_loadPart' a1, wpAny_loadPart' a2
  exact ⟨plainId_quiet plain_eq_loop _, codeAny_builtin entry_eq_loop (by rw [Around.under_plainId plain_eq_loop _]; exact rec2)⟩
theorem tuple_neG (l b : Addr) (items items2 : Array Value) (n n2 : Nat) (dd dd2 : Option Addr) (sl sl2 : Array (Option Value)) (hsz : items.size = items2.size) (I : Nat → Shared → Prop)
    (turn : ∀ i (h1 : i < items.size) (h2 : i < items2.size) s, I i s → wpAny (model prog w) A.in1 (eqBool items[i] items2[i]) (fun r s' => r = true ∧ I (i + 1) s') (fun e s' => R (.error e) s') s)
    (fin : ∀ s, I items.size s → R (.ok (.ret (.bool false))) s) {s : Shared} (hl1 : s.heap.get? l = some { cls := .type "tuple", dict := dd, data := .seq items n, slots := sl }) (hb1 : s.heap.get? b = some { cls := .type "tuple", dict := dd2, data := .seq items2 n2, slots := sl2 }) (h : I 0 s) :
    wpAny (model prog w) A.in1 (Builtin.«tuple.__ne__» ⟨[.ref l, .ref b], []⟩) (FinOf prog w A R) (fun e s' => R (.error e) s') s := by
  have f2 := AutoSeq1.sub_tuple_tuple
  have hZ : (items.toList.zip items2.toList).length = items.size := by simp [hsz]
  have h0 := h
  obtain ⟨hp, g, d, tk, os⟩ := s
  wp_walk using wpAny_loadPart' hl1, wpAny_loadPart' hb1, wpAny_forIn_list _ (fun rest b s' => b.1 = none ∧ ∃ i, rest = (items.toList.zip items2.toList).drop i ∧ i ≤ items.size ∧ I i s') _
  case turn =>
    rintro ⟨y, x⟩ rest b s' ⟨hb', i, hz, hi, hI⟩
    have hlt : i < (items.toList.zip items2.toList).length := by
      rcases Nat.lt_or_ge i (items.toList.zip items2.toList).length with h' | h'
      · exact h'
      · rw [List.drop_of_length_le h'] at hz; cases hz
    have h1 : i < items.size := hZ ▸ hlt
    have h2 : i < items2.size := hsz ▸ h1
    rw [List.drop_eq_getElem_cons hlt] at hz
    injection hz with hyx hrest
    have hy : y = items[i] := by have := congrArg Prod.fst hyx; simpa using this
    have hx : x = items2[i] := by have := congrArg Prod.snd hyx; simpa using this
    subst hy hx
    refine wpAny_bind (wpAny_mono (turn i h1 h2 s' hI) (fun r s2 q2 => ?_) fun _ _ x => x)
    obtain ⟨hr, q2⟩ := q2
    subst hr
    wp_walk
    exact ⟨rfl, i + 1, hrest, h1, q2⟩
  case fin =>
    rintro ⟨b1, b2⟩ s' ⟨hb', i, hz, hi, hI⟩
    simp only at hb'
    subst hb'
    have hge : items.size ≤ i := by
      rcases Nat.lt_or_ge i (items.toList.zip items2.toList).length with h' | h'
      · rw [List.drop_eq_getElem_cons h'] at hz; cases hz
      · exact hZ ▸ h'
    have hi' : i = items.size := by omega
    have hR : R (.ok (.ret (.bool false))) s' := fin s' (hi' ▸ hI)
    wp_walk
    simpa [Builtin.Tuple.tupleCompareSizes, hsz] using hR
  case h =>
    exact ⟨rfl, 0, rfl, Nat.zero_le _, h0⟩
end
section
variable {prog : Program} {w : World} {A : Around} {E : Value → Shared → Prop} {s : Shared}
theorem rc_list_ne {l b : Addr} {N : Nat} {Q : Value → Shared → Prop} (hu : A.units < cLine) (I : Nat → Shared → Prop) (hl : ListI prog w A E l b N I) (fin : ∀ s, I N s → Q (.bool false) s) (h : I 0 s) : wpAny (model prog w) A (richCompare .NotEq (.ref l) (.ref b)) Q E s := by
  obtain ⟨xs, ys, n, m, a1, a2, _, _, _⟩ := hl _ _ h
  refine wpAny_richCompare_same_room (op := .NotEq) ⟨_, a1, rfl⟩ ⟨_, a2, rfl⟩ F.slot_list_ne (call_here F.slot_list_ne ⟨_, a1, rfl⟩ F.entry_list_ne (F.args_list_ne_2 _ _) ?_) hu
  exact list_neG (R := wants (fun v s' => v ≠ .notImplemented ∧ Q v s') E) l b N I hl (fun s' q => ⟨(fun x => nomatch x), fin s' q⟩) h
theorem rc_tup_ne {l b : Addr} {items items2 : Array Value} {Q : Value → Shared → Prop} (hsz : items.size = items2.size) (hu : A.units < cLine) (I : Nat → Shared → Prop)
    (hl : s.heap.IsTuple l items) (hb : s.heap.IsTuple b items2)
    (turn : ∀ i (h1 : i < items.size) (h2 : i < items2.size) s, I i s → wpAny (model prog w) A.in1 (eqBool items[i] items2[i]) (fun r s' => r = true ∧ I (i + 1) s') E s)
    (fin : ∀ s, I items.size s → Q (.bool false) s) (h : I 0 s) : wpAny (model prog w) A (richCompare .NotEq (.ref l) (.ref b)) Q E s := by
  obtain ⟨⟨cls, dd, data, sl⟩, ho, hc, n, hd⟩ := id hl
  obtain ⟨⟨cls2, dd2, data2, sl2⟩, ho2, hc2, n2, hd2⟩ := id hb
  simp only at hc hd hc2 hd2
  subst hc hd hc2 hd2
  refine wpAny_richCompare_same_room (op := .NotEq) ⟨_, ho, rfl⟩ ⟨_, ho2, rfl⟩ F.slot_tuple_ne (call_here F.slot_tuple_ne ⟨_, ho, rfl⟩ F.entry_tuple_ne (F.args_tuple_ne_2 _ _) ?_) hu
  exact tuple_neG (R := wants (fun v s' => v ≠ .notImplemented ∧ Q v s') E) l b items items2 n n2 dd dd2 sl sl2 hsz I turn (fun s' q => ⟨(fun x => nomatch x), fin s' q⟩) ho ho2 h
end
/-! ### != of an instance whose class has an own == alone -/
section
open PySem.W
variable {prog : Program} {w : World} {A : Around} {E : Value → Shared → Prop} {s : Shared} {K : PySem.W.Frag} {C x f : Addr} {ox : Obj} {od : Option Obj} {b tb : Value}
theorem ne_K {h₀ : Heap} {L : Addr} {m : Str → Option Value} {Q : Value → Shared → Prop} (hu : A.units + 1 < cLine) (F : PyProof.Rows.Fr h₀ L s.heap m) (X₀ : K.In h₀) (I : PySem.W.InstAt s.heap x ox C od) (hb : PySem.W.Looks (model prog w) s.heap (typeOf b) tb) (hn : PySem.W.notFirst K C tb = true)
    (hne : PySem.W.findIn K (.ref C) "__ne__" = some (some (.builtin "object.__ne__"))) (hs : PySem.W.findIn K (.ref C) "__eq__" = some (some (.ref f))) (hf : PySem.W.isFn K (.ref f) = true) (hp : PySem.W.plainOver K C = true)
    (h : wpAny (model prog w) A.in1 (call (.ref f) [.ref x, b]) (fun v s' => ∃ t, v = .bool t ∧ Q (.bool (!t)) s') E s) : wpAny (model prog w) A (richCompare .NotEq (.ref x) b) Q E s := by
  have X := X₀.keeps F.keep
  have FB := PySem.F.cmp_object
  obtain ⟨cd, hc, ho⟩ := PySem.W.any_some hp
  have ne : cd.mro.isEmpty = false := by cases q : cd.mro with | nil => rw [q] at ho; cases ho | cons _ _ => rfl
  have sub : PySem.W.Looks (model prog w) s.heap (isInstance (.ref x) (.type "object")) true := I.type.andThen (PySem.W.looks_mroIn X (by unfold PySem.W.mroIn; rw [hc, Option.bind_some, if_neg (by rw [ne]; decide), PySem.W.only_has ho]))
  have one : wpAny (model prog w) A (tryCompare (.ref x) "__ne__" b) (fun r s' => ∃ v, r = some v ∧ Q v s') E s := by
    unfold tryCompare
    simp only [callSpecialIfBound?, bindSpecialIfBound?]
    refine wpAny_bind (wpAny_holding (wpAny_bind (wpAny_bind (wpAny_bind (I.type.here ((PySem.W.looks_findIn X hne).here ?_))))))
    simp only [FB.ne.bind]
    refine wpAny_bind (wpAny_askSetting (wpAny_ite ?_))
    have fin : wpAny (model prog w) A (call (.builtin "object.__ne__") ([.ref x] ++ [b]) >>= fun v => pure (some v)) (fun a s' => ∃ t, a = some (.bool t) ∧ Q (.bool t) s') E s := by
      refine wpAny_bind (wpAny_call (codeAny_call_builtin FB.ne.plain PySem.F.cmpEntry_ne (@PySem.W.check_slot (model prog w) _ _ s "object.__ne__" "object" "__ne__" (.ref x) [b] [] _ PySem.F.cmpKind_ne PySem.F.cmpSplit_ne sub (PySem.F.cmpArgs_ne _ _) ?_)))
      have hu' : A.in1.units < cLine := by have : A.in1.units = A.units + 1 := rfl; omega
      unfold Builtin.«object.__ne__»
      repeat (first
        | with_reducible refine wpAny_cRoomFor hu' ?_
        | (refine wpAny_bind (m := callSpecialIfBound? (.ref x) (Str.ofString "__eq__") [b])
            (PySem.W.ifBound_K X I hs hf (wpAny_mono h (fun r s' hr => by
              obtain ⟨t, rfl, hq⟩ := hr
              repeat (first | exact ⟨_, rfl, hq⟩ | exact wpAny_pure ⟨_, rfl, hq⟩ | exact wpAny_pure (wpAny_pure ⟨_, rfl, hq⟩) | (refine wpAny_bind (m := truthy (.bool _)) (wpAny_truthy_bool ?_)) | wp_step)) fun _ _ e => e)))
        | wp_step)
    have fin2 := wpAny_mono fin (Q' := fun a s' => wpAny (model prog w) A (match a with
      | some .notImplemented => pure none
      | none => pure none
      | some r => pure (some r)) (fun r s' => ∃ v, r = some v ∧ Q v s') E s') (fun a s' z => by
        obtain ⟨t, rfl, q⟩ := z
        exact wpAny_pure ⟨_, rfl, q⟩) fun _ _ e => e
    split
    · exact wpAny_bind (wpAny_pure (wpAny_pure fin2))
    · exact wpAny_tryCatch (wpAny_bind (wpAny_pure (wpAny_pure fin2)))
  have one : wpAny (model prog w) A (tryCompare (.ref x) (cmpInfo .NotEq).2.1 b) (fun r s' => ∃ v, r = some v ∧ Q v s') E s := one
  unfold richCompare
  simp only [oneThing_ref]
  refine wpAny_holding (wpAny_bind (wpAny_cRoomFor (by omega) ?_))
  refine wpAny_bind (I.type.here (wpAny_bind (hb.here ?_)))
  split
  · rename_i q
    have e : PySem.W.subIn K tb (.ref C) = some false := by
      rcases Bool.or_eq_true_iff.mp hn with e | e
      · rw [beq_iff_eq.mp e] at q; simp at q
      · exact beq_iff_eq.mp e
    refine wpAny_bind ((PySem.W.looks_subIn X e).here ?_)
    simp only [Bool.false_eq_true, if_false]
    refine wpAny_bind (wpAny_mono one (fun r s' z => ?_) fun _ _ e => e)
    obtain ⟨v, rfl, hq⟩ := z
    exact wpAny_pure hq
  · refine wpAny_bind (wpAny_pure ?_)
    simp only [Bool.false_eq_true, if_false]
    refine wpAny_bind (wpAny_mono one (fun r s' z => ?_) fun _ _ e => e)
    obtain ⟨v, rfl, hq⟩ := z
    exact wpAny_pure hq
end
end Vn0
set_option Elab.async false
set_option linter.all false
set_option maxRecDepth 100000
set_option maxHeartbeats 4000000
/-! A built-in value == an instance with an own ==. -/
namespace Vm
open PySem PySem.Spec PyProof.Rows L2
section
variable {prog : Program} {w : World} {A : Around} {E : Value → Shared → Prop} {s : Shared} {K : Fg} {x C f : Addr} {ox : Obj} {od : Option Obj}
theorem str_dec (b : Str) (u : Tok) (l : Addr) (o : Obj) (hd : o.data = .plain) :
    Meets (Builtin.«str.__eq__» ⟨[.str b u, .ref l], []⟩) (fun _ R s => s.heap.get? l = some o ∧ R (.ok (.ret .notImplemented)) s) :=
  .of_wp fun prog w A R s h => by
    obtain ⟨oc, odd, oda, osl⟩ := o
    dsimp only at hd
    subst hd
    obtain ⟨hp, g, d, tk, os⟩ := s; obtain ⟨hl, h⟩ := h; wp_walk using wpAny_loadPart' hl, wpAny_load hl; exact ⟨_, rfl, h⟩
theorem int_dec (b : Int) (u : Tok) (l : Addr) (o : Obj) (hd : o.data = .plain) :
    Meets (Builtin.«int.__eq__» ⟨[.int b u, .ref l], []⟩) (fun _ R s => s.heap.get? l = some o ∧ R (.ok (.ret .notImplemented)) s) :=
  .of_wp fun prog w A R s h => by
    obtain ⟨oc, odd, oda, osl⟩ := o
    dsimp only at hd
    subst hd
    obtain ⟨hp, g, d, tk, os⟩ := s; obtain ⟨hl, h⟩ := h; wp_walk using wpAny_loadPart' hl, wpAny_load hl; exact ⟨_, rfl, h⟩
theorem tup_dec (l : Addr) (hs : PySem.W.subIn K (.ref C) (.type "tuple") = some false) :
    Meets (Builtin.«tuple.__eq__» ⟨[.ref l, .ref x], []⟩) (fun _ R s => K.In s.heap ∧ PySem.W.InstAt s.heap x ox C od ∧ R (.ok (.ret .notImplemented)) s) :=
  .of_wp fun prog w A R s h => by
    obtain ⟨hp, g, d, tk, os⟩ := s
    obtain ⟨hK, hI, h⟩ := h
    have L : PySem.W.Looks (model prog w) hp (isInstance (.ref x) (.type "tuple")) false := hI.type.andThen (PySem.W.looks_subIn hK hs)
    unfold Builtin.«tuple.__eq__»
    show wpAny _ _ (do
      let r ← slotArgs "__eq__" 1 ⟨[.ref l, .ref x], []⟩
      _) _ _ _
    refine wpAny_bind (wpAny_of_eq (a := ((Value.ref l : Value), [Value.ref x])) (by first | rfl | (simp only [slotArgs]; rfl)) ?_)
    refine wpAny_bind (L.here ?_)
    exact wpAny_pure ⟨_, rfl, h⟩
/-- a built-in value's == declines, the instance's own one answers -/
theorem rc_own {a : Value} {Ta ida : String} {Q : Value → Shared → Prop} (ha : s.TypeIs a Ta) (hu : A.units < cLine) (X : K.In s.heap) (I : PySem.W.InstAt s.heap x ox C od) (hs : PySem.W.findIn K (.ref C) "__eq__" = some (some (.ref f))) (hf : PySem.W.isFn K (.ref f) = true)
    (hsub : PySem.W.subIn K (.ref C) (.type Ta) = some false) (h1 : Slot Ta (cmpInfo .Eq).2.1 ida) (dec : ∀ Q' : Value → Shared → Prop, Q' .notImplemented s → wpAny (model prog w) A (call (.builtin ida) [a, .ref x]) Q' E s)
    (h : wpAny (model prog w) A (call (.ref f) [.ref x, a]) (PySem.W.CmpBack Q) E s) : wpAny (model prog w) A (richCompare .Eq a (.ref x)) Q E s := by
  have own : wpAny (model prog w) A (tryCompare (.ref x) "__eq__" a) (fun r s' => ∃ v, r = some v ∧ Q v s') E s := by
    unfold tryCompare
    refine wpAny_bind (PySem.W.ifBound_K X I hs hf (wpAny_mono h (fun v s' hv => ?_) fun _ _ e => e))
    cases v <;> first | exact hv.elim | exact wpAny_pure ⟨_, rfl, hv⟩
  have no := wpAny_tryCompare_declines (Q := fun r s' => r = none ∧ s' = s) ha h1 (dec _ ⟨rfl, rfl, rfl⟩)
  rcases hi : cmpInfo CmpOp.Eq with ⟨sym, g, r⟩
  have e1 : g = "__eq__" := by
    have := congrArg (fun z => z.2.1) hi
    exact this.symm
  have e2 : r = "__eq__" := by
    have := congrArg (fun z => z.2.2) hi
    exact this.symm
  subst e1 e2
  rw [hi] at no
  simp only [richCompare, hi, ha.oneThing_none]
  refine wpAny_holding (wpAny_bind (wpAny_cRoomFor hu ?_))
  refine wpAny_bind (wpAny_typeOf ha (wpAny_bind (I.type.here ?_)))
  have go : ∀ {k : Bool}, k = false → wpAny (model prog w) A (do
      if k then
        if let some v ← tryCompare (.ref x) "__eq__" a then rule "compare.subclass-reflected-first"; return v
      if let some v ← tryCompare a "__eq__" (.ref x) then return v
      if !k then
        if let some v ← tryCompare (.ref x) "__eq__" a then return v
      match CmpOp.Eq with
      | .Eq => rule "compare.eq-identity"; return .bool (← isSame a (.ref x))
      | .NotEq => rule "compare.ne-identity"; return .bool (!(← isSame a (.ref x)))
      | _ =>
        rule "compare.unsupported"
        raiseError "TypeError" s!"'{sym}' not supported between instances of '{← typeNameOf a}' and '{← typeNameOf (.ref x)}'") Q E s := fun {k} hk => by
    subst hk
    simp only [Bool.false_eq_true, if_false, Bool.not_false, if_true]
    refine wpAny_bind (wpAny_mono no (fun r s1 z => ?_) fun _ _ e => e)
    obtain ⟨z1, z2⟩ := z
    subst z1 z2
    refine wpAny_bind (wpAny_mono own (fun r s1 z => ?_) fun _ _ e => e)
    obtain ⟨v, z1, q⟩ := z
    subst z1
    exact wpAny_pure q
  have hne : (Value.type Ta != Value.ref C) = true := by simp
  rw [if_pos hne]
  exact wpAny_bind ((PySem.W.looks_subIn X hsub).here (go rfl))
end
end Vm
set_option Elab.async false
set_option linter.all false
set_option maxRecDepth 100000
set_option maxHeartbeats 2000000
/-! == and != by an own ==: the interpreter's rule. -/
namespace Vm
open PySem L2
/-- a class with an own == -/
structure OwnC (X : Cx) (D : Wd) (lv : Nat) (c : Str) (C fa : Addr) : Prop where
  mg : X.mg c = some (.ref C)
  cls : Cls X.K C
  mt : Meth X.K C "__eq__" fa
  ne : PySem.W.findIn X.K (.ref C) "__ne__" = some (some (.builtin "object.__ne__"))
  su : ∀ t : String, (t = "NoneType" ∨ t = "int" ∨ t = "str" ∨ t = "tuple") → PySem.W.subIn X.K (.ref C) (.type t) = some false
  run : ∃ fd ps d F, FnOk X.prog X.w X.K X.mg X.base (L2N.CX X.prog X.w) lv fa fd ps (spRun X.K X.mg d.np F) ∧ DefOk X.K fd ps d ∧ d.np = 2 ∧ ∀ ws s, D.fe c "__eq__" ws s = callD d F ws s
section
variable {X : Cx} {D : Wd} {Wx : WX} {lv : Nat} {cn : Str} {C fa : Addr} {io : List Addr} {H : Hp} {S : Vs} {σ : L2.St} {x y : W} {v u : V}
theorem own_run (oc : OwnC X D lv cn C fa) (tk : L2N.Takes X Wx) (fw : Flat Wx) {A : Around} (sb : Sub X lv A) {pins : List (Addr × Obj)} {s : Shared} (I : Inv X pins σ H s) (sm : Sim X.K X.mg io H S) (rx : Rep X.K X.mg io H x v) (ry : Rep X.K X.mg io H y u) {v' u' : Value} (hv : RelV v v') (hu : RelV u u')
    {Q : VK} (p : Po X.K X.mg Wx (Rep X.K X.mg) (D.fe cn "__eq__" [x, y] S) io H σ Q) : wpAny (model X.prog X.w) A (call (.ref fa) [v', u']) (EP X pins σ Q) X.xe s := by
  obtain ⟨fd, ps, d, F, FO, dk, hd, hF⟩ := oc.run
  rw [hF] at p
  obtain ⟨us, hu', p⟩ := callD_po (α := W) p
  obtain ⟨h1, h2, e2, e3⟩ := argsOf_some hu'
  obtain ⟨ds, dvs, hbn, hvd, hc⟩ := dk.bind 2 (by omega) (by omega)
  have e4 : us = [x, y] := by
    rw [e2]
    rw [show d.dfl.drop (d.dfl.length - (d.np - [x, y].length)) = [] by rw [List.drop_eq_nil_of_le]; show d.dfl.length ≤ d.dfl.length - (d.np - 2); omega, List.append_nil]
  subst e4
  rw [show d.dfl.drop (d.dfl.length - (d.np - 2)) = [] by rw [List.drop_eq_nil_of_le]; omega] at hc
  cases hc
  cases hvd
  have hsp : spRun X.K X.mg d.np F [v, u] H Q (fun cls d H => ∀ σ, Wx cls d σ H) := by
    refine ⟨io, S, [x, y], sm, .cons rx (.cons ry .nil), hd.symm, ?_⟩
    cases hq : F [x, y] S with
    | ok w S' => rw [hq] at p; exact p
    | exc y S' => rw [hq] at p; exact fun io' H' cls d x' s' r' σ' => fw _ _ _ _ _ (p io' H' cls d x' s' r')
    | err => rw [hq] at p; exact p
  have e0 : Env0 X.prog X.w X.K X.mg X.base A X.stack s H := by
    have e := I.env0
    exact ⟨by rw [sb.fr]; exact e.frames, e.mod, e.bs, e.bsz, e.funs, e.frf, e.hok, e.bare⟩
  have hl := FO.len _ _ _ _ hsp
  have r2 : Vals [v, u] [v', u'] := .cons hv (.cons hu .nil)
  refine wpAny_call (codeAny_mono (FO.run A X.stack s H ⟨[v', u'], []⟩ [v', u'] [v, u] _ _ sb.room e0 (by
    have := hbn s [v', u'] I.kIn (by simpa using hl)
    simpa using this) r2 hsp) fun r s' hq => ?_)
  cases r with
  | error e => exact passFlat tk pins σ H s e s' I hq
  | ok fl =>
    cases fl with
    | ret w => exact I.after hq
    | next => exact False.elim hq
    | brk => exact False.elim hq
    | cont => exact False.elim hq
/-- what the other side may be -/
def TyOk (K : Fg) (C : Addr) (y : V) (H : Hp) : Prop := (∃ b dy gs, y = .ref b ∧ H b = some (.ins C dy gs)) ∨ ∃ t, TyX K H y (.type t) ∧ (t = "NoneType" ∨ t = "bool" ∨ t = "int" ∨ t = "str" ∨ t = "tuple" ∨ t = "list" ∨ t = "dict")
theorem tyOk_looks {A : Around} {pins : List (Addr × Obj)} {s : Shared} (I : Inv X pins σ H s) (t : TyOk X.K C u H) {u' : Value} (hu : RelV u u') : ∃ tb, PySem.W.Looks (model X.prog X.w) s.heap (typeOf u') tb ∧ PySem.W.notFirst X.K C tb = true := by
  rcases t with ⟨b, dy, gs, rfl, hb⟩ | ⟨t, ht, ht2⟩
  · cases hu
    obtain ⟨mB, J, _⟩ := ins_get I.hok hb
    obtain ⟨od, J, _⟩ := J.look
    exact ⟨_, J.type, by simp [PySem.W.notFirst]⟩
  · obtain ⟨P, k, hp, _⟩ := kit_of I hu ht
    refine ⟨_, k.ty _ _ I.kIn hp, ?_⟩
    unfold PySem.W.notFirst PySem.W.subIn
    rcases ht2 with rfl | rfl | rfl | rfl | rfl | rfl | rfl <;> (refine Bool.or_eq_true_iff.mpr (.inr ?_); rfl)
theorem own_eq (oc : OwnC X D lv cn C fa) (tk : L2N.Takes X Wx) (fw : Flat Wx) {A : Around} (sb : Sub X lv A) {pins : List (Addr × Obj)} {s : Shared} (I : Inv X pins σ H s) (sm : Sim X.K X.mg io H S) (rx : Rep X.K X.mg io H x v) (ry : Rep X.K X.mg io H y u) {v' u' : Value} (hv : RelV v v') (hu : RelV u u')
    {a dx : Addr} {fs : List (Str × V)} (ha : v = .ref a) (hi : H a = some (.ins C dx fs)) (ty : TyOk X.K C u H) {Q : VK} (p : Po X.K X.mg Wx (Rep X.K X.mg) (D.fe cn "__eq__" [x, y] S) io H σ Q) :
    wpAny (model X.prog X.w) A (richCompare .Eq v' u') (EP X pins σ Q) X.xe s := by
  subst ha
  obtain ⟨tb, lk, nf⟩ := tyOk_looks (A := A) I ty hu
  have r := own_run oc tk fw sb I sm rx ry hv hu p
  cases hv
  obtain ⟨mA, J, _⟩ := ins_get I.hok hi
  obtain ⟨od, J, _⟩ := J.look
  obtain ⟨m, hF⟩ := I.fr
  refine PySem.W.cmp_K (op := .Eq) sb.room.units0 hF I.ok.mod.kin J lk nf oc.mt.at_ oc.mt.fn (wpAny_mono r (fun w s' q => ?_) fun _ _ e => e)
  obtain ⟨z, H', I', rz, q⟩ := q
  unfold PySem.W.CmpBack
  have fin : EP X pins σ Q w s' := ⟨z, H', I', rz, q⟩
  cases w <;> first | exact fin | (exfalso; cases z <;> first | (cases rz; done) | (obtain ⟨_, e⟩ := rz; cases e))
theorem own_ne (oc : OwnC X D lv cn C fa) (tk : L2N.Takes X Wx) (fw : Flat Wx) {A : Around} (sb : Sub X (lv + 1) A) {pins : List (Addr × Obj)} {s : Shared} (I : Inv X pins σ H s) (sm : Sim X.K X.mg io H S) (rx : Rep X.K X.mg io H x v) (ry : Rep X.K X.mg io H y u) {v' u' : Value} (hv : RelV v v') (hu : RelV u u')
    {a dx : Addr} {fs : List (Str × V)} (ha : v = .ref a) (hi : H a = some (.ins C dx fs)) (ty : TyOk X.K C u H) {Q : VK} (p : Po X.K X.mg Wx (Rep X.K X.mg) (D.fe cn "__eq__" [x, y] S) io H σ (fun z H' => ∃ t, z = .bl t ∧ Q (.bl (!t)) H')) :
    wpAny (model X.prog X.w) A (richCompare .NotEq v' u') (EP X pins σ Q) X.xe s := by
  subst ha
  obtain ⟨tb, lk, nf⟩ := tyOk_looks (A := A) I ty hu
  have r := own_run oc tk fw sb.in1 I sm rx ry hv hu p
  cases hv
  obtain ⟨mA, J, _⟩ := ins_get I.hok hi
  obtain ⟨od, J, _⟩ := J.look
  obtain ⟨m, hF⟩ := I.fr
  refine Vn0.ne_K (by have := sb.room.un; have : cLine = 9900 := rfl; omega) hF I.ok.mod.kin J lk nf oc.ne oc.mt.at_ oc.mt.fn oc.cls.po (wpAny_mono r (fun w s' q => ?_) fun _ _ e => e)
  obtain ⟨z, H', I', rz, t, ez, q⟩ := q
  subst ez
  cases rz
  exact ⟨t, rfl, .bl (!t), H', I', rfl, q⟩
/-- a built-in value == an instance -/
theorem own_rfl (oc : OwnC X D lv cn C fa) (tk : L2N.Takes X Wx) (fw : Flat Wx) {A : Around} (sb : Sub X lv A) {pins : List (Addr × Obj)} {s : Shared} (I : Inv X pins σ H s) (sm : Sim X.K X.mg io H S) (rx : Rep X.K X.mg io H x v) (ry : Rep X.K X.mg io H y u) {v' u' : Value} (hv : RelV v v') (hu : RelV u u')
    {b dx : Addr} {fs : List (Str × V)} (hb : u = .ref b) (hi : H b = some (.ins C dx fs)) {t : String} (ty : tyV x S = some t) (ht : t = "NoneType" ∨ t = "int" ∨ t = "str" ∨ t = "tuple") {Q : VK} (p : Po X.K X.mg Wx (Rep X.K X.mg) (D.fe cn "__eq__" [y, x] S) io H σ Q) :
    wpAny (model X.prog X.w) A (richCompare .Eq v' u') (EP X pins σ Q) X.xe s := by
  subst hb
  have r := own_run oc tk fw sb I sm ry rx hu hv p
  cases hu
  have back : wpAny (model X.prog X.w) A (call (.ref fa) [.ref b, v']) (PySem.W.CmpBack (EP X pins σ Q)) X.xe s := wpAny_mono r (fun w s' q => by
    obtain ⟨z, H', I', rz, q⟩ := q
    unfold PySem.W.CmpBack
    have fin : EP X pins σ Q w s' := ⟨z, H', I', rz, q⟩
    cases w <;> first | exact fin | (exfalso; cases z <;> first | (cases rz; done) | (obtain ⟨_, e⟩ := rz; cases e))) fun _ _ e => e
  obtain ⟨mA, J, _⟩ := ins_get I.hok hi
  obtain ⟨od, J, _⟩ := J.look
  have hob : s.heap.get? b = some (PySem.W.instObj C dx) := (I.hok b _ hi).2.2.2.1
  have su := oc.su t ht
  cases rx with
  | non =>
    cases ty
    cases hv
    exact rc_own (Ta := "NoneType") rfl sb.room.units0 I.kIn J oc.mt.at_ oc.mt.fn su PySem.F.slot_NoneType_eq (fun Q' q => PySem.call_gives PySem.F.slot_NoneType_eq rfl PySem.F.entry_NoneType_eq (PySem.F.args_NoneType_eq_2 _ _) (SeqAt.NoneType___eq___none_ref_0 b) q) back
  | int i =>
    cases ty
    obtain ⟨tk1, rfl⟩ := hv
    exact rc_own (Ta := "int") (typeIs_int s i tk1) sb.room.units0 I.kIn J oc.mt.at_ oc.mt.fn su PySem.F.slot_int_eq (fun Q' q => PySem.call_meets PySem.F.slot_int_eq (typeIs_int s i tk1) PySem.F.entry_int_eq (PySem.F.args_int_eq_2 _ _) (int_dec i tk1 b _ rfl) ⟨hob, q⟩) back
  | str i =>
    cases ty
    obtain ⟨tk1, rfl⟩ := hv
    exact rc_own (Ta := "str") (typeIs_str s i tk1) sb.room.units0 I.kIn J oc.mt.at_ oc.mt.fn su PySem.F.slot_str_eq (fun Q' q => PySem.call_meets PySem.F.slot_str_eq (typeIs_str s i tk1) PySem.F.entry_str_eq (PySem.F.args_str_eq_2 _ _) (str_dec i tk1 b _ rfl) ⟨hob, q⟩) back
  | @tup l a xs h r =>
    cases ty
    cases hv
    obtain ⟨its, _, hT, _⟩ := I.tuple h
    have tT : s.TypeIs (.ref a) "tuple" := by
      obtain ⟨o, e, c, _⟩ := hT
      exact ⟨o, e, c⟩
    exact rc_own (Ta := "tuple") tT sb.room.units0 I.kIn J oc.mt.at_ oc.mt.fn su PySem.F.slot_tuple_eq (fun Q' q => PySem.call_meets PySem.F.slot_tuple_eq tT PySem.F.entry_tuple_eq (PySem.F.args_tuple_eq_2 _ _) (tup_dec a su) ⟨I.kIn, J, q⟩) back
  | bl b =>
    cases ty
    rcases ht with z | z | z | z <;> exact absurd z (by decide)
  | @ref n a h =>
    exfalso
    have ty : (match S[n]? with
      | some (.lst _) => some "list"
      | some (.dct _) => some "dict"
      | some (.dtt _) => some "dict"
      | _ => none) = some t := ty
    split at ty
    all_goals first | (cases ty; rcases ht with z | z | z | z <;> exact absurd z (by decide)) | cases ty
  | glo h => cases ty
  | ty n => cases ty
  | scr h => cases ty
/-! ### alike -/
def LoopS (X : Cx) (pins : List (Addr × Obj)) (σ : L2.St) (io : List Addr) (H : Hp) (S : Vs) (s' : Shared) : Prop := ∃ io' H', Inv X pins σ H' s' ∧ Ex io H io' H' ∧ Sim X.K X.mg io' H' S
def AlOk (X : Cx) (S : Vs) (n : Nat) (al : W → W → Prop) : Prop := ∀ (A : Around) (pins : List (Addr × Obj)) (s : Shared) (σ : L2.St) (io : List Addr) (H : Hp) (x y : W) (v u : V) (v' u' : Value), Sub X n A → Inv X pins σ H s → Sim X.K X.mg io H S → Rep X.K X.mg io H x v → Rep X.K X.mg io H y u → RelV v v' → RelV u u' → al x y →
  wpAny (model X.prog X.w) A (eqBool v' u') (fun r s' => r = true ∧ LoopS X pins σ io H S s') X.xe s
theorem turnS {al : W → W → Prop} {n : Nat} (h : AlOk X S n al) {A : Around} (sb : Sub X (n + 1) A) {pins : List (Addr × Obj)} {io0 : List Addr} {H0 : Hp} (x0 : Ex io0 H0 io H) {s : Shared} (I : Inv X pins σ H s) (sm : Sim X.K X.mg io H S) {l m : List W} {xs ys : List V} {its its2 : List Value} (ai : alikeI al l m) (r1 : Reps X.K X.mg io H l xs) (r2 : Reps X.K X.mg io H m ys) (r : Vals xs its) (q : Vals ys its2)
    (i : Nat) (h1 : i < its.toArray.size) (h2 : i < its2.toArray.size) :
    wpAny (model X.prog X.w) A.in1 (eqBool its.toArray[i] its2.toArray[i]) (fun r s2 => r = true ∧ LoopS X pins σ io0 H0 S s2) X.xe s := by
  have g1 : its[i]? = some its.toArray[i] := by
    have h1' : i < its.length := by simpa using h1
    rw [List.getElem?_eq_getElem h1'] <;> simp
  have g2 : its2[i]? = some its2.toArray[i] := by
    have h2' : i < its2.length := by simpa using h2
    rw [List.getElem?_eq_getElem h2'] <;> simp
  have k1 : i < l.length := by rw [r1.length, r.length]; simpa using h1
  have k2 : i < m.length := by rw [r2.length, q.length]; simpa using h2
  obtain ⟨a, e1, ra⟩ := r1.get (List.getElem?_eq_getElem k1)
  obtain ⟨b, e2, rb⟩ := r2.get (List.getElem?_eq_getElem k2)
  obtain ⟨a', f1, va⟩ := r.get e1
  obtain ⟨b', f2, vb⟩ := q.get e2
  rw [g1] at f1
  rw [g2] at f2
  rw [Option.some.inj f1, Option.some.inj f2]
  refine wpAny_mono (h A.in1 pins s σ io H _ _ a b a' b' sb.in1 I sm ra rb va vb (ai.2 i _ _ (List.getElem?_eq_getElem k1) (List.getElem?_eq_getElem k2))) (fun r s2 z => ?_) fun _ _ e => e
  obtain ⟨hr, io2, H2, I2, x2, sm2⟩ := z
  exact ⟨hr, io2, H2, I2, x0.trans x2, sm2⟩
/-- two tuples, two lists: == is True, != is False -/
theorem rc_alike {al : W → W → Prop} {n : Nat} (h : AlOk X S n al) {A : Around} (sb : Sub X (n + 1) A) {pins : List (Addr × Obj)} {s : Shared} (I : Inv X pins σ H s) (sm : Sim X.K X.mg io H S) (rx : Rep X.K X.mg io H x v) (ry : Rep X.K X.mg io H y u) {v' u' : Value} (hv : RelV v v') (hu : RelV u u') (ht : alikeT S al x y) :
    wpAny (model X.prog X.w) A (richCompare .Eq v' u') (fun r s' => r = .bool true ∧ LoopS X pins σ io H S s') X.xe s ∧ wpAny (model X.prog X.w) A (richCompare .NotEq v' u') (fun r s' => r = .bool false ∧ LoopS X pins σ io H S s') X.xe s := by
  rcases ht with ⟨l, m, rfl, rfl, ai⟩ | ⟨na, nb, l, m, rfl, rfl, la, lb, ai⟩
  · cases rx with
    | tup ta r1 =>
      cases ry with
      | tup tb r2 =>
        cases hv
        cases hu
        obtain ⟨its, r, e, z⟩ := I.tuple ta
        obtain ⟨its2, q, e2, z2⟩ := I.tuple tb
        have hsz : its.toArray.size = its2.toArray.size := by rw [List.size_toArray, List.size_toArray, ← r.length, ← q.length, ← r1.length, ← r2.length]; exact ai.1
        have turn : ∀ i (h1 : i < its.toArray.size) (h2 : i < its2.toArray.size) (s' : Shared), LoopS X pins σ io H S s' → wpAny (model X.prog X.w) A.in1 (eqBool its.toArray[i] its2.toArray[i]) (fun r s2 => r = true ∧ LoopS X pins σ io H S s2) X.xe s' := fun i h1 h2 s' ⟨io1, H1, I1, x1, sm1⟩ => turnS h sb x1 I1 sm1 ai (r1.mono sm x1) (r2.mono sm x1) r q i h1 h2
        exact ⟨GQ.rc_tupG hsz sb.room.units0 (fun _ s' => LoopS X pins σ io H S s') e e2 turn (fun s' q => ⟨rfl, q⟩) ⟨io, H, I, Ex.refl _ _, sm⟩,
          Vn0.rc_tup_ne hsz sb.room.units0 (fun _ s' => LoopS X pins σ io H S s') e e2 turn (fun s' q => ⟨rfl, q⟩) ⟨io, H, I, Ex.refl _ _, sm⟩⟩
  · cases rx with
    | ref ha =>
      cases ry with
      | ref hb =>
        cases hv
        cases hu
        have hl : GQ.ListI X.prog X.w A X.xe _ _ l.length (fun _ s' => LoopS X pins σ io H S s') := fun i s' q => by
          obtain ⟨io1, H1, I1, x1, sm1⟩ := q
          obtain ⟨xs, hx, r1⟩ := sm1.lst (x1.get ha) (lstAt_of la)
          obtain ⟨ys, hy, r2⟩ := sm1.lst (x1.get hb) (lstAt_of lb)
          obtain ⟨z, its, k, r, e⟩ := I1.hok _ _ hx
          obtain ⟨z2, its2, k2, q2, e2⟩ := I1.hok _ _ hy
          exact ⟨its.toArray, its2.toArray, k, k2, e, e2, by rw [List.size_toArray, ← r.length, ← r1.length], by rw [List.size_toArray, ← q2.length, ← r2.length, ai.1], fun h1 h2 => turnS h sb x1 I1 sm1 ai r1 r2 r q2 i h1 h2⟩
        exact ⟨GQ.rc_listG (N := l.length) sb.room.units0 (fun _ s' => LoopS X pins σ io H S s') hl (fun s' q => ⟨rfl, q⟩) ⟨io, H, I, Ex.refl _ _, sm⟩,
          Vn0.rc_list_ne (N := l.length) sb.room.units0 (fun _ s' => LoopS X pins σ io H S s') hl (fun s' q => ⟨rfl, q⟩) ⟨io, H, I, Ex.refl _ _, sm⟩⟩
/-- from a rich comparison of two references to == inside a list or tuple -/
theorem eqB_of {al : Prop} {A : Around} {pins : List (Addr × Obj)} {s : Shared} (I : Inv X pins σ H s) (sm : Sim X.K X.mg io H S) {a b : Addr} (h : wpAny (model X.prog X.w) A (richCompare .Eq (.ref a) (.ref b)) (fun r s' => r = .bool true ∧ LoopS X pins σ io H S s') X.xe s) :
    wpAny (model X.prog X.w) A (eqBool (.ref a) (.ref b)) (fun r s' => r = true ∧ LoopS X pins σ io H S s') X.xe s := by
  by_cases hab : a = b
  · subst hab
    exact SeqAt.EqAt.same (A := A) (s := s) (.ref a) X.prog X.w X.xe _ ⟨rfl, io, H, I, Ex.refl _ _, sm⟩
  · refine GQ.eqBool_refG hab (wpAny_mono h (fun r s' q => ?_) fun _ _ x => x)
    obtain ⟨hr', q⟩ := q
    exact ⟨true, hr', rfl, q⟩
theorem same_flat (rx : Rep X.K X.mg io H x v) (ry : Rep X.K X.mg io H y u) (h : sameW x y = true) : flatV v = true ∧ flatV u = true ∧ eqV v u = true := by
  cases rx <;> cases ry <;> first | (cases h; done) | skip
  · exact ⟨rfl, rfl, rfl⟩
  · rename_i a b
    have h : (a == b) = true := h
    rw [eq_of_beq h]
    exact ⟨rfl, rfl, by cases b <;> rfl⟩
  · rename_i a b
    have h : decide (a = b) = true := h
    rw [of_decide_eq_true h]
    exact ⟨rfl, rfl, by show decide _ = true; simp⟩
  · rename_i a b
    have h : decide (a = b) = true := h
    rw [of_decide_eq_true h]
    exact ⟨rfl, rfl, by show decide _ = true; simp⟩
theorem alike_ok {cs : List Str} (hc : ∀ c ∈ cs, ∃ C fa, OwnC X D lv c C fa) (tk : L2N.Takes X Wx) (fw : Flat Wx) : ∀ k, AlOk X S (lv + k) (alikeW D.fe cs S k)
  | 0 => fun A pins s σ io H x y v u v' u' sb I sm rx ry hv hu h => by
    rcases h with h | ⟨rfl, n, rfl⟩ | ⟨c, a, b, fs, gs, hcs, rfl, rfl, ea, eb, hf⟩
    · obtain ⟨f1, f2, e⟩ := same_flat rx ry h
      have q := eqAt_V (A := A) (s := s) hv hu f1 f2
      rw [e] at q
      exact q X.prog X.w X.xe _ ⟨rfl, io, H, I, Ex.refl _ _, sm⟩
    · cases rx with
      | ref ha =>
        cases ry with
        | ref hb =>
          rw [ha] at hb
          cases hb
          cases hv
          cases hu
          exact SeqAt.EqAt.same (A := A) (s := s) _ X.prog X.w X.xe _ ⟨rfl, io, H, I, Ex.refl _ _, sm⟩
    · obtain ⟨C, fa, oc⟩ := hc c hcs
      have rx' := rx
      have ry' := ry
      have hv' := hv
      have hu' := hu
      cases rx with
      | ref ha =>
        cases ry with
        | ref hb =>
          obtain ⟨C1, dx, f1, h1, h2, _⟩ := sm.ins ha ea
          obtain ⟨C2, dy, f2, h3, h4, _⟩ := sm.ins hb eb
          rw [oc.mg] at h2 h4
          cases h2
          cases h4
          have r := own_eq (Wx := Wx) (Q := fun z H' => z = .bl true ∧ ∃ io', Ex io H io' H' ∧ Sim X.K X.mg io' H' S) oc tk fw (sb.mono (by omega)) I sm rx' ry' hv' hu' rfl h1 (.inl ⟨_, _, _, rfl, h3⟩) (by
            rw [hf]
            exact fun io' z H' x' s' rz => ⟨by cases rz; rfl, io', x', s'⟩)
          cases hv
          cases hu
          refine eqB_of (al := True) I sm (wpAny_mono r (fun w s' q => ?_) fun _ _ e => e)
          obtain ⟨z, H', I', rz, ez, io', x', s''⟩ := q
          subst ez
          cases rz
          exact ⟨rfl, io', H', I', x', s''⟩
  | k + 1 => fun A pins s σ io H x y v u v' u' sb I sm rx ry hv hu h => by
    rcases h with h | h
    · exact alike_ok hc tk fw k A pins s σ io H x y v u v' u' (sb.mono (by omega)) I sm rx ry hv hu h
    · have r := (rc_alike (alike_ok hc tk fw k) (n := lv + k) sb I sm rx ry hv hu h).1
      rcases h with ⟨l, m, rfl, rfl, ai⟩ | ⟨na, nb, l, m, rfl, rfl, la, lb, ai⟩
      · cases rx with
        | tup ta r1 =>
          cases ry with
          | tup tb r2 =>
            cases hv
            cases hu
            exact eqB_of (al := True) I sm r
      · cases rx with
        | ref ha =>
          cases ry with
          | ref hb =>
            cases hv
            cases hu
            exact eqB_of (al := True) I sm r
end
end Vm
namespace Vm
open PySem L2
section
variable {X : Cx} {D : Wd} {Wx : WX} {lv : Nat} {io : List Addr} {H : Hp} {S : Vs} {σ : L2.St} {x y : W} {v u : V}
theorem po_flat {α β : Type} {R : List Addr → Hp → α → β → Prop} {K : Fg} {mg : Mg} {o : Out α} {Q : β → Hp → Prop} (fw : Flat Wx) {σ σ' : L2.St} (p : Po K mg Wx R o io H σ Q) : Po K mg Wx R o io H σ' Q := by
  cases o with
  | ok a S' => exact p
  | exc y S' => exact fun io' H' cls d x s q => fw _ _ _ _ _ (p io' H' cls d x s q)
  | err => exact p
def ngOp : Bool → CmpOp
  | true => .NotEq
  | false => .Eq
def rCeq (X : Cx) (D : Wd) (Wx : WX) (ng : Bool) (cs : List Str) : R2 := fun v u H Q => ∃ io S σ0 x y, Sim X.K X.mg io H S ∧ Rep X.K X.mg io H x v ∧ Rep X.K X.mg io H y u ∧ Po X.K X.mg Wx (Rep X.K X.mg) (eqoV D.fe ng cs x y S) io H σ0 Q
theorem ins_of {cs : List Str} {c : Str} (h : ownC cs x y S = some c) : c ∈ cs ∧ (∃ n fs, x = .ref n ∧ S[n]? = some (.ins c fs)) ∧ ((∃ m gs, y = .ref m ∧ S[m]? = some (.ins c gs)) ∨ ∃ t, tyV y S = some t) := by
  have ins : ∀ {z : W} {c : Str}, insOf S z = some c → ∃ n fs, z = .ref n ∧ S[n]? = some (.ins c fs) := fun {z c} h => by
    unfold insOf at h
    split at h
    · split at h
      · cases h; exact ⟨_, _, rfl, by assumption⟩
      · cases h
    · cases h
  unfold ownC at h
  split at h
  · rename_i c' e
    split at h
    · rename_i hb
      cases h
      rw [Bool.and_eq_true, Bool.or_eq_true] at hb
      refine ⟨by simpa using hb.1, ins e, ?_⟩
      rcases hb.2 with k | k
      · exact .inl (ins (of_decide_eq_true k))
      · exact .inr (Option.isSome_iff_exists.mp k)
    · cases h
  · cases h
theorem op_ceq {cs : List Str} (ng : Bool) (hc : ∀ c ∈ cs, ∃ C fa, OwnC X D lv c C fa) (tk : L2N.Takes X Wx) (fw : Flat Wx) (hr : Room (lv + 4) X.A) (hu : X.A.units + 65 < cLine) : OpR X (compareOp (ngOp ng)) (rCeq X D Wx ng cs) := by
  intro pins s σ H v u v' u' Q I rv ru hq
  obtain ⟨io, S, σ0, x, y, sm, rx, ry, p⟩ := hq
  have p := po_flat fw (σ' := σ) p
  have sb : Sub X (lv + 4) X.A := ⟨hr, rfl⟩
  unfold eqoV at p
  split at p
  · rename_i b e
    cases ng with
    | false =>
      obtain ⟨R, o, vo⟩ := cmp_rule (Wx := Wx) hu .eq
      exact o pins s σ H v u v' u' Q I rv ru (vo io H S σ x y v u Q sm rx ry (by
        show Po _ _ _ _ (match eqD S x y with | some b => Out.ok (W.bl b) S | none => .err) _ _ _ _
        rw [e]
        cases b <;> exact p))
    | true =>
      obtain ⟨R, o, vo⟩ := cmp_rule (Wx := Wx) hu .ne
      exact o pins s σ H v u v' u' Q I rv ru (vo io H S σ x y v u Q sm rx ry (by
        show Po _ _ _ _ (match eqD S x y with | some b => Out.ok (W.bl (!b)) S | none => .err) _ _ _ _
        rw [e]
        cases b <;> exact p))
  · split at p
    · rename_i c ho
      obtain ⟨hcs, ⟨n, fs, rfl, e1⟩, hy⟩ := ins_of ho
      obtain ⟨C, fa, oc⟩ := hc c hcs
      have rx' := rx
      cases rx with
      | @ref _ a ha =>
        obtain ⟨C1, dx, f1, h1, h2, _⟩ := sm.ins ha e1
        rw [oc.mg] at h2
        cases h2
        have ty : TyOk X.K C u H := by
          rcases hy with ⟨m, gs, rfl, e2⟩ | ⟨t, ht⟩
          · cases ry with
            | @ref _ b hb =>
              obtain ⟨C2, dy, f2, h3, h4, _⟩ := sm.ins hb e2
              rw [oc.mg] at h4
              cases h4
              exact .inl ⟨b, dy, f2, rfl, h3⟩
          · exact .inr ⟨t, tyV_ok sm ry ht⟩
        have key : ∀ {Q' : VK}, (∀ (b : Bool) io' H' S', Ex io H io' H' → Sim X.K X.mg io' H' S' → D.fe c "__eq__" [W.ref n, y] S = .ok (.bl b) S' → Q' (.bl b) H') → Po X.K X.mg Wx (Rep X.K X.mg) (D.fe c "__eq__" [W.ref n, y] S) io H σ Q' := fun {Q'} hk => by
          cases hf : D.fe c "__eq__" [W.ref n, y] S with
          | ok w S' =>
            rw [hf] at p
            intro io' z H' x' s' rz
            cases w <;> first | exact p.elim | (cases rz; exact hk _ io' H' S' x' s' hf)
          | exc z S' => rw [hf] at p; exact p
          | err => rw [hf] at p; exact p.elim
        cases ng with
        | false =>
          exact own_eq oc tk fw (sb.mono (by omega)) I sm rx' ry rv ru rfl h1 ty (key fun b io' H' S' x' s' hf => by
            rw [hf] at p
            cases b <;> exact p io' _ H' x' s' (.bl _))
        | true =>
          exact own_ne oc tk fw (sb.mono (by omega)) I sm rx' ry rv ru rfl h1 ty (key fun b io' H' S' x' s' hf => ⟨b, rfl, by
            rw [hf] at p
            cases b <;> exact p io' _ H' x' s' (.bl _)⟩)
    · split at p
      · rename_i c hr2
        have pf : Po X.K X.mg Wx (Rep X.K X.mg) ((D.fe c "__eq__" [y, x] S).bind fun w s' => (match w with
          | .bl b => .ok (.bl b) s'
          | _ => .err)) io H σ Q := p
        cases ng with
        | true => cases hr2
        | false =>
          have hr2 : ownR cs x y S = some c := hr2
          unfold ownR at hr2
          split at hr2
          · rename_i c0 t e1 e2
            split at hr2
            · rename_i hb
              cases hr2
              simp only [Bool.and_eq_true, Bool.or_eq_true, decide_eq_true_eq] at hb
              have hcs : c ∈ cs := by simpa using hb.1
              obtain ⟨C, fa, oc⟩ := hc c hcs
              have ry' := ry
              unfold insOf at e1
              split at e1
              · split at e1
                · rename_i c1 fs e3
                  cases e1
                  cases ry with
                  | @ref _ b hb2 =>
                    obtain ⟨C1, dx, f1, h1, h2, _⟩ := sm.ins hb2 e3
                    rw [oc.mg] at h2
                    cases h2
                    refine own_rfl oc tk fw (sb.mono (by omega)) I sm rx ry' rv ru rfl h1 e2 (by rcases hb.2 with ((z | z) | z) | z <;> simp [z]) ?_
                    cases hf : D.fe c "__eq__" [_, x] S with
                    | ok w S' =>
                      rw [hf] at pf
                      intro io' z H' x' s' rz
                      cases w <;> first | exact pf.elim | exact pf io' z H' x' s' rz
                    | exc z S' => rw [hf] at pf; exact pf
                    | err => rw [hf] at pf; exact pf.elim
                · cases e1
              · cases e1
            · cases hr2
          · cases hr2
      · split at p
        · rename_i ht
          obtain ⟨r1, r2⟩ := rc_alike (alike_ok hc tk fw 3) (n := lv + 3) sb I sm rx ry rv ru ht
          cases ng with
          | false =>
            refine wpAny_mono r1 (fun w s' q => ?_) fun _ _ e => e
            obtain ⟨e, io', H', I', x', s''⟩ := q
            subst e
            exact ⟨.bl true, H', I', rfl, p io' _ H' x' s'' (.bl _)⟩
          | true =>
            refine wpAny_mono r2 (fun w s' q => ?_) fun _ _ e => e
            obtain ⟨e, io', H', I', x', s''⟩ := q
            subst e
            exact ⟨.bl false, H', I', rfl, p io' _ H' x' s'' (.bl _)⟩
        · exact p.elim
theorem ceq_ok {cs : List Str} {ng : Bool} : VOk X.K X.mg Wx (eqoV D.fe ng cs) (rCeq X D Wx ng cs) := fun io H S σ x y v u Q s rx ry p => ⟨io, S, σ, x, y, s, rx, ry, p⟩
theorem ptv_ceq_aux : True := trivial
theorem eqoV_bl {ng : Bool} {cs : List Str} {s s' : Vs} {x y w : W} (h : eqoV D.fe ng cs x y s = .ok w s') : ∃ b, w = .bl b := by
  unfold eqoV at h
  split at h
  · cases h; exact ⟨_, rfl⟩
  · split at h
    · obtain ⟨a, s1, _, e⟩ := bind_get h
      split at e
      · cases e; exact ⟨_, rfl⟩
      · cases e
    · split at h
      · obtain ⟨a, s1, _, e⟩ := bind_get h
        split at e
        · cases e; exact ⟨_, rfl⟩
        · cases e
      · split at h
        · cases h; exact ⟨_, rfl⟩
        · cases h
variable {a b : Expr} {ia ib : IE} {pos : Pos}
theorem pv_ceq {cs : List Str} {ng : Bool} (hc : ∀ c ∈ cs, ∃ C fa, OwnC X D lv c C fa) (tk : L2N.Takes X Wx) (fw : Flat Wx) (hr : Room (lv + 4) X.A) (hu : X.A.units + 65 < cLine) (hs : notSet b = true) (ha : PV X D Wx a ia) (hb : PV X D Wx b ib) : PV X D Wx (.Compare a [ngOp ng] [b] pos) (.ceq ng cs ia ib) :=
  peMono (pe_cmpR (op_ceq ng hc tk fw hr hu) ha hb (marks_of hs)) fun σ H Q h => two ceq_ok (by
    obtain ⟨io, S, r, s, e, p⟩ := h
    rw [den] at p
    exact ⟨io, S, r, s, e, p⟩)
end
end Vm
namespace Vm
open PySem L2
section
variable {X : Cx} {D : Wd} {Wx : WX} {lv : Nat} {io : List Addr} {H : Hp} {S : Vs} {σ : L2.St} {x y : W} {v u : V} {a b : Expr} {ia ib : IE} {pos : Pos}
theorem ptv_ceq {cs : List Str} {ng : Bool} (hc : ∀ c ∈ cs, ∃ C fa, OwnC X D lv c C fa) (tk : L2N.Takes X Wx) (fw : Flat Wx) (hr : Room (lv + 4) X.A) (hu : X.A.units + 65 < cLine) (hs : notSet b = true) (ha : PV X D Wx a ia) (hb : PV X D Wx b ib) : PTV X D Wx (.Compare a [ngOp ng] [b] pos) (.ceq ng cs ia ib) :=
  ptMono (pt_cmpR (op_ceq ng hc tk fw hr hu) ha hb (marks_of hs)) fun σ H Q h => by
    obtain ⟨io, S, r, s, e, p⟩ := h
    have p := test_bl (fun w s' h => by
      rw [den] at h
      obtain ⟨x, s1, _, h⟩ := bind_get h
      obtain ⟨y, s2, _, h⟩ := bind_get h
      exact eqoV_bl h) p
    rw [den] at p
    exact two ceq_ok ⟨io, S, r, s, e, p⟩
/-! ### isinstance with a class of the text's own -/
/-- what is known of the classes cs, asked for the class c -/
structure IsoC (X : Cx) (cs : List Str) (c : Str) (C : Addr) : Prop where
  mg : X.mg c = some (.ref C)
  ha : PySem.W.findIn X.K (.ref C) "__class__" = some (some (.builtin "object.__class__"))
  hn : PySem.W.specialIn X.K (.builtin "object.__class__") "__get__" = some (some (.builtin "getset_descriptor.__get__"))
  tk : PySem.W.takesIn X.K (.builtin "object.__class__") = some true
  ty : ∀ t : String, (t = "NoneType" ∨ t = "bool" ∨ t = "int" ∨ t = "str" ∨ t = "tuple" ∨ t = "list" ∨ t = "dict") → PySem.W.kitOne X.K (.type t) (.ref C) = some false
  pr : ∀ d ∈ cs, ∀ E, X.mg d = some (.ref E) → PySem.W.kitOne X.K (.ref E) (.ref C) = some (decide (d = c))
theorem mro_po {K : Fg} {C : Addr} (hp : PySem.W.plainOver K C = true) : PySem.W.mroIn K C (.type "object") = some true := by
  obtain ⟨cd, hc, ho⟩ := PySem.W.any_some hp
  have ne : cd.mro.isEmpty = false := by cases q : cd.mro with | nil => rw [q] at ho; cases ho | cons _ _ => rfl
  unfold PySem.W.mroIn
  rw [hc, Option.bind_some, if_neg (by rw [ne]; decide), PySem.W.only_has ho]
theorem pv_iso {cs : List Str} {t : Str} {p p2 : Pos} (hc : ∀ c ∈ cs, ∃ C, IsoC X cs c C) (ht : t ∈ cs) (hg : Gl X "isinstance") (hm : X.mg "isinstance" = none) (hg2 : Gl X t) (hd2 : (t == ("__debug__" : Str)) = false) (hs : notStar a = true) (ha : PV X D Wx a ia) :
    PV X D Wx (.Call (.Name "isinstance" p) [a, .Name t p2] [] pos) (.iso ia t cs) := by
  obtain ⟨C, ic⟩ := hc t ht
  refine peMono (pe_callB call_isi hg hm PyProof.Rows.boot_isinstance (pa_cons ha (pa_cons (pe_glob (v := .ref C) hg2 ic.mg rfl hd2) pa_nil) (star_of hs)) (by decide) (by decide) (star_of hs)) fun σ H Q ⟨io, S, r, s, e, p⟩ => ?_
  rw [den] at p
  refine ⟨io, S, r, s, e, p.bind fun x S1 io1 v H1 _ x1 s1 r1 p1 => ?_⟩
  unfold isoV at p1
  split at p1
  · rename_i c ei
    split at p1
    · rename_i hcs
      have hcs : c ∈ cs := by simpa using hcs
      unfold insOf at ei
      split at ei
      · rename_i n
        split at ei
        · rename_i c' fs e1
          cases ei
          cases r1 with
          | ref ha1 =>
            obtain ⟨E, dx, f1, h1, h2, h3, _⟩ := s1.ins ha1 e1
            obtain ⟨E', ie⟩ := hc c hcs
            rw [ie.mg] at h2
            cases h2
            exact ⟨_, .ref C, .ref E, .ref C, _, rfl, .own C, .base (.ins h1 h3 ie.ha ie.hn ie.tk (mro_po h3.po)), ic.pr c hcs E ie.mg, p1.now s1 (.bl _)⟩
        · cases ei
      · cases ei
    · exact p1.elim
  · split at p1
    · rename_i h
      obtain ⟨tn, e1⟩ := Option.isSome_iff_exists.mp h
      obtain ⟨h1, h2⟩ := tyV_ok s1 r1 e1
      exact ⟨_, .ref C, .type tn, .ref C, _, rfl, .own C, h1, ic.ty tn h2, p1.now s1 (.bl _)⟩
    · exact p1.elim
end
end Vm
set_option Elab.async false
set_option linter.all false
set_option maxRecDepth 100000
set_option maxHeartbeats 2000000
/-! zip of two, each a list or a tuple. -/
namespace Vz0
open PySem PySem.Spec PyProof.Rows L2
def SqB (t : Bool) (h : Heap) (l : Addr) (xs : Array Value) : Prop := match t with
  | true => h.IsTuple l xs
  | false => h.IsList l xs
def ItB (t : Bool) (h : Heap) (i l : Addr) (k : Nat) : Prop := match t with
  | true => h.IsTupleIter i l k
  | false => h.IsListIter i l k
def nmB (t : Bool) : String := match t with
  | true => "tuple_iterator"
  | false => "list_iterator"
theorem SqB.but {t : Bool} {h h' : Heap} {a b : Addr} {xs : Array Value} (x : SqB t h a xs) (e : Heap.ExtBut b h h') (n : a ≠ b) : SqB t h' a xs := by
  cases t
  · exact Heap.IsList.extBut x e n
  · exact Heap.IsTuple.extBut x e n
theorem ItB.but {t : Bool} {h h' : Heap} {a b l : Addr} {k : Nat} (x : ItB t h a l k) (e : Heap.ExtBut b h h') (n : a ≠ b) : ItB t h' a l k := by
  cases t
  · exact Heap.IsListIter.extBut x e n
  · exact Heap.IsTupleIter.extBut x e n
theorem ItB.at' {t : Bool} {h h' : Heap} {a l : Addr} {k : Nat} (x : ItB t h a l k) (e : ∀ o, h.get? a = some o → h'.get? a = some o) : ItB t h' a l k := by
  cases t
  · exact Heap.IsListIter.at x e
  · exact Heap.IsTupleIter.at x e
theorem ItB.lt {t : Bool} {h : Heap} {a l : Addr} {k : Nat} (x : ItB t h a l k) : a < h.objs.size := by
  cases t <;> (obtain ⟨_, e, _⟩ := x; exact Heap.lt_size e)
theorem ItB.obj {t : Bool} {h : Heap} {a l : Addr} {k : Nat} (x : ItB t h a l k) : ∃ o vs, h.get? a = some o ∧ o.data = .fields vs := by
  cases t <;> (obtain ⟨o, e, _, d⟩ := x; exact ⟨o, _, e, d⟩)
section
variable {prog : Program} {w : World} {A : Around} {E : Value → Shared → Prop} {s : Shared}
theorem nx_item {t : Bool} {i l : Addr} {k : Nat} {xs : Array Value} {x : Value} {Q : Value → Shared → Prop} (a : ItB t s.heap i l k) (b : SqB t s.heap l xs) (hx : xs[k]? = some x)
    (q : ∀ h', ItB t h' i l (k + 1) → Heap.SameBut i s.heap h' → Q x { s with heap := h' }) : wpAny (model prog w) A (Builtin.SmallTypes.nextOf (.ref i)) Q E s := by
  cases t
  · exact PySem.wpAny_nextOf_list_item a b hx q
  · exact RZ.nextOf_tuple_item a b hx q
theorem nx_end {t : Bool} {i l : Addr} {k : Nat} {xs : Array Value} {Q : Value → Shared → Prop} (hh : A.handled = none) (a : ItB t s.heap i l k) (b : SqB t s.heap l xs) (hx : xs[k]? = none)
    (q : ∀ h' e, Heap.ExtBut i s.heap h' → (∃ o, h'.get? e = some o ∧ o.cls = .type "StopIteration") → E (.ref e) { s with heap := h' }) : wpAny (model prog w) A (Builtin.SmallTypes.nextOf (.ref i)) Q E s := by
  cases t
  · exact PySem.wpAny_nextOf_list_end hh a b hx q
  · exact RZ.nextOf_tuple_end hh a b hx q
theorem zb_item {t u : Bool} {z TI TO i1 i2 l1 l2 : Addr} {k1 k2 : Nat} {xs ys : Array Value} {x y a b : Value} {Q : Value → Shared → Prop} (d : ZipApart z TI TO i1 i2 l1 l2) (z0 : IsZip s.heap z TI TO .none) (p0 : IsPair s.heap TI (.ref i1) (.ref i2)) (r0 : IsPair s.heap TO a b)
    (a1 : ItB t s.heap i1 l1 k1) (a2 : ItB u s.heap i2 l2 k2) (b1 : SqB t s.heap l1 xs) (b2 : SqB u s.heap l2 ys) (hx : xs[k1]? = some x) (hy : ys[k2]? = some y)
    (q : ∀ h', IsZip h' z TI TO (rawInt s.heap.objs.size) → IsPair h' TO x y → ItB t h' i1 l1 (k1 + 1) → ItB u h' i2 l2 (k2 + 1) → IsPair h' s.heap.objs.size x y → h'.objs.size = s.heap.objs.size + 1 → (∀ c o, c ≠ z → c ≠ TO → c ≠ i1 → c ≠ i2 → s.heap.get? c = some o → h'.get? c = some o) → Q (.ref s.heap.objs.size) { s with heap := h' }) :
    wpAny (model prog w) A (Builtin.«zip.__next__» ⟨[.ref z], []⟩) (fun fin s' => ∃ v, fin = .done (.ret v) ∧ Q v s') E s := by
  show wpAny _ _ (field (.ref z) 2 >>= _) _ _ _; refine wpAny_bind (wpAny_field z0 rfl (x := .bool false) rfl ?_)
  show wpAny _ _ (field (.ref z) 3 >>= _) _ _ _; refine wpAny_bind (wpAny_field z0 rfl (x := .ref TI) rfl ?_); refine wpAny_bind (wpAny_seqItems p0 rfl ?_)
  show wpAny _ _ (Builtin.SmallTypes.ownedTupleIsFree (.ref z) >>= _) _ _ _; refine wpAny_bind ?_; unfold Builtin.SmallTypes.ownedTupleIsFree
  refine wpAny_bind (wpAny_field z0 rfl (x := .none) rfl (wpAny_pure ?_)); simp only [if_true]; refine wpAny_bind (wpAny_rule ?_)
  refine wpAny_bind (wpAny_field z0 rfl (x := .ref TO) rfl ?_); refine wpAny_bind (wpAny_setField_rec z0 (by simp) fun h₁ z1 e1 => ?_)
  replace z1 : IsZip h₁ z TI TO .ellipsis := z1
  refine wpAny_bind ?_; simp only [List.zipIdx_cons, List.zipIdx_nil, List.forIn_cons, List.forIn_nil]; refine wpAny_bind (wpAny_bind (wpAny_onRaise ?_))
  show wpAny _ _ (Builtin.SmallTypes.nextOf (.ref i1) >>= _) _ _ _; refine wpAny_bind (nx_item (a1.but e1.extBut d.i1z) (b1.but e1.extBut d.l1z) hx fun h₂ c1 e2 => wpAny_pure ?_)
  have r2 : IsPair h₂ TO a b := e2.extBut _ _ d.TOi1 (e1.extBut _ _ d.TOz r0)
  refine wpAny_bind (wpAny_seqItems r2 rfl ?_); refine wpAny_bind (wpAny_updateSeq_pair r2 fun h₃ r3 e3 => ?_)
  replace r3 : IsPair h₃ TO x b := r3
  refine wpAny_bind (wpAny_letGo (wpAny_pure ?_)); refine wpAny_bind (wpAny_bind (wpAny_onRaise ?_))
  show wpAny _ _ (Builtin.SmallTypes.nextOf (.ref i2) >>= _) _ _ _; refine wpAny_bind (nx_item (((a2.but e1.extBut d.i2z).but e2.extBut d.i12.symm).but e3.extBut d.TOi2.symm) (((b2.but e1.extBut d.l2z).but e2.extBut d.l2i1).but e3.extBut d.l2TO) hy fun h₄ c2 e4 => wpAny_pure ?_)
  have r4 : IsPair h₄ TO x b := e4.extBut _ _ d.TOi2 r3
  refine wpAny_bind (wpAny_seqItems r4 rfl ?_); refine wpAny_bind (wpAny_updateSeq_pair r4 fun h₅ r5 e5 => ?_)
  replace r5 : IsPair h₅ TO x y := r5
  refine wpAny_bind (wpAny_letGo (wpAny_pure (wpAny_pure ?_))); refine wpAny_bind (wpAny_seqItems r5 rfl ?_); refine wpAny_bind (wpAny_newTuple ?_)
  have sz : h₅.objs.size = s.heap.objs.size := by rw [e5.1, e4.1, e3.1, e2.1, e1.1]
  have z5 : IsZip h₅ z TI TO .ellipsis := e5.extBut _ _ d.TOz.symm (e4.extBut _ _ d.i2z.symm (e3.extBut _ _ d.TOz.symm (e2.extBut _ _ d.i1z.symm z1)))
  have k5 : ∀ c o, c ≠ z → c ≠ TO → c ≠ i1 → c ≠ i2 → s.heap.get? c = some o → h₅.get? c = some o := fun c o n1 n2 n3 n4 e => e5.extBut _ _ n2 (e4.extBut _ _ n4 (e3.extBut _ _ n2 (e2.extBut _ _ n3 (e1.extBut _ _ n1 e))))
  have f1 : ItB t h₅ i1 l1 (k1 + 1) := ((c1.but e3.extBut d.TOi1.symm).but e4.extBut d.i12).but e5.extBut d.TOi1.symm
  have f2 : ItB u h₅ i2 l2 (k2 + 1) := c2.but e5.extBut d.TOi2.symm
  have zl : z < h₅.objs.size := Heap.lt_size z5
  show wpAny _ _ (Builtin.SmallTypes.ownedTupleHandOut (.ref z) (.ref h₅.objs.size) >>= _) _ _ _; refine wpAny_bind ?_; unfold Builtin.SmallTypes.ownedTupleHandOut
  have z6 : IsZip (h₅.push { cls := .type "tuple", data := .seq #[x, y] }) z TI TO .ellipsis := Heap.get?_push_of_some _ z5
  refine wpAny_bind (wpAny_setField_rec z6 (by simp) fun h₇ z7 e7 => ?_)
  replace z7 : IsZip h₇ z TI TO (rawInt h₅.objs.size) := z7
  refine wpAny_setField_rec z7 (by simp) fun h₈ z8 e8 => ?_
  replace z8 : IsZip h₈ z TI TO (rawInt h₅.objs.size) := z8
  have up : ∀ c o, c ≠ z → h₅.get? c = some o → h₈.get? c = some o := fun c o n1 e => e8.extBut _ _ n1 (e7.extBut _ _ n1 (Heap.get?_push_of_some _ e))
  have t8 : IsPair h₈ h₅.objs.size x y := e8.extBut _ _ (Nat.ne_of_gt zl) (e7.extBut _ _ (Nat.ne_of_gt zl) (Heap.get?_push_size _ rfl))
  have s8 : h₈.objs.size = h₅.objs.size + 1 := by rw [e8.1, e7.1, Heap.size_push]
  rw [sz] at z8 t8 s8
  refine wpAny_pure ⟨_, rfl, ?_⟩; show Q (.ref h₅.objs.size) _; rw [sz]
  exact q h₈ z8 (up _ _ d.TOz r5) (f1.at' fun o e => up _ o d.i1z e) (f2.at' fun o e => up _ o d.i2z e) t8 s8 fun c o n1 n2 n3 n4 e => up c o n1 (k5 c o n1 n2 n3 n4 e)
theorem zb_end {t u : Bool} {z TI TO i1 i2 l1 l2 : Addr} {k1 k2 : Nat} {xs ys : Array Value} {a b : Value} {Q : Fin → Shared → Prop} (hh : A.handled = none) (d : ZipApart z TI TO i1 i2 l1 l2) (z0 : IsZip s.heap z TI TO .none) (p0 : IsPair s.heap TI (.ref i1) (.ref i2)) (r0 : IsPair s.heap TO a b)
    (a1 : ItB t s.heap i1 l1 k1) (a2 : ItB u s.heap i2 l2 k2) (b1 : SqB t s.heap l1 xs) (b2 : SqB u s.heap l2 ys) (ho : xs[k1]? = none ∨ ys[k2]? = none)
    (q : ∀ h' e, (∀ c o, c ≠ z → c ≠ TO → c ≠ i1 → c ≠ i2 → s.heap.get? c = some o → h'.get? c = some o) → (∃ o, h'.get? e = some o ∧ o.cls = .type "StopIteration") → E (.ref e) { s with heap := h' }) : wpAny (model prog w) A (Builtin.«zip.__next__» ⟨[.ref z], []⟩) Q E s := by
  show wpAny _ _ (field (.ref z) 2 >>= _) _ _ _; refine wpAny_bind (wpAny_field z0 rfl (x := .bool false) rfl ?_)
  show wpAny _ _ (field (.ref z) 3 >>= _) _ _ _; refine wpAny_bind (wpAny_field z0 rfl (x := .ref TI) rfl ?_); refine wpAny_bind (wpAny_seqItems p0 rfl ?_)
  show wpAny _ _ (Builtin.SmallTypes.ownedTupleIsFree (.ref z) >>= _) _ _ _; refine wpAny_bind ?_; unfold Builtin.SmallTypes.ownedTupleIsFree
  refine wpAny_bind (wpAny_field z0 rfl (x := .none) rfl (wpAny_pure ?_)); simp only [if_true]; refine wpAny_bind (wpAny_rule ?_)
  refine wpAny_bind (wpAny_field z0 rfl (x := .ref TO) rfl ?_); refine wpAny_bind (wpAny_setField_rec z0 (by simp) fun h₁ z1 e1 => ?_)
  replace z1 : IsZip h₁ z TI TO .ellipsis := z1
  refine wpAny_bind ?_; simp only [List.zipIdx_cons, List.zipIdx_nil, List.forIn_cons, List.forIn_nil]; refine wpAny_bind (wpAny_bind (wpAny_onRaise ?_))
  show wpAny _ _ (Builtin.SmallTypes.nextOf (.ref i1) >>= _) _ _ _
  cases hx : xs[k1]? with
  | none =>
    refine wpAny_bind (nx_end hh (a1.but e1.extBut d.i1z) (b1.but e1.extBut d.l1z) hx fun h₂ e e2 he => ?_)
    obtain ⟨oe, g1, g2⟩ := he
    have z2 : IsZip h₂ z TI TO .ellipsis := e2 _ _ d.i1z.symm z1
    have ne : e ≠ z := fun v => by subst v; rw [z2] at g1; cases g1; simp at g2
    exact wpAny_setField_rec z2 (by simp) fun h₃ _ e3 => q h₃ e (fun c o n1 _ n3 _ v => e3.extBut _ _ n1 (e2 _ _ n3 (e1.extBut _ _ n1 v))) ⟨oe, e3.extBut _ _ ne g1, g2⟩
  | some x =>
    have hy : ys[k2]? = none := ho.elim (fun v => by rw [hx] at v; cases v) id
    refine wpAny_bind (nx_item (a1.but e1.extBut d.i1z) (b1.but e1.extBut d.l1z) hx fun h₂ c1 e2 => wpAny_pure ?_)
    have r2 : IsPair h₂ TO a b := e2.extBut _ _ d.TOi1 (e1.extBut _ _ d.TOz r0)
    refine wpAny_bind (wpAny_seqItems r2 rfl ?_); refine wpAny_bind (wpAny_updateSeq_pair r2 fun h₃ r3 e3 => ?_); refine wpAny_bind (wpAny_letGo (wpAny_pure ?_)); refine wpAny_bind (wpAny_bind (wpAny_onRaise ?_))
    show wpAny _ _ (Builtin.SmallTypes.nextOf (.ref i2) >>= _) _ _ _; refine wpAny_bind (nx_end hh (((a2.but e1.extBut d.i2z).but e2.extBut d.i12.symm).but e3.extBut d.TOi2.symm) (((b2.but e1.extBut d.l2z).but e2.extBut d.l2i1).but e3.extBut d.l2TO) hy fun h₄ e e4 he => ?_)
    obtain ⟨oe, g1, g2⟩ := he
    have z4 : IsZip h₄ z TI TO .ellipsis := e4 _ _ d.i2z.symm (e3.extBut _ _ d.TOz.symm (e2.extBut _ _ d.i1z.symm z1))
    have ne : e ≠ z := fun v => by subst v; rw [z4] at g1; cases g1; simp at g2
    exact wpAny_setField_rec z4 (by simp) fun h₅ _ e5 => q h₅ e (fun c o n1 n2 n3 n4 v => e5.extBut _ _ n1 (e4 _ _ n4 (e3.extBut _ _ n2 (e2.extBut _ _ n3 (e1.extBut _ _ n1 v))))) ⟨oe, e5.extBut _ _ ne g1, g2⟩
theorem nz_item {t u : Bool} {z TI TO i1 i2 l1 l2 : Addr} {k1 k2 : Nat} {xs ys : Array Value} {x y a b : Value} {Q : Option Value → Shared → Prop} (d : ZipApart z TI TO i1 i2 l1 l2) (z0 : IsZip s.heap z TI TO .none) (p0 : IsPair s.heap TI (.ref i1) (.ref i2)) (r0 : IsPair s.heap TO a b)
    (a1 : ItB t s.heap i1 l1 k1) (a2 : ItB u s.heap i2 l2 k2) (b1 : SqB t s.heap l1 xs) (b2 : SqB u s.heap l2 ys) (hx : xs[k1]? = some x) (hy : ys[k2]? = some y)
    (q : ∀ h', IsZip h' z TI TO (rawInt s.heap.objs.size) → IsPair h' TO x y → ItB t h' i1 l1 (k1 + 1) → ItB u h' i2 l2 (k2 + 1) → IsPair h' s.heap.objs.size x y → h'.objs.size = s.heap.objs.size + 1 → (∀ c o, c ≠ z → c ≠ TO → c ≠ i1 → c ≠ i2 → s.heap.get? c = some o → h'.get? c = some o) → Q (some (.ref s.heap.objs.size)) { s with heap := h' }) :
    wpAny (model prog w) A (pyNext (.ref z)) Q E s := by
  have ty : s.TypeIs (.ref z) "zip" := ⟨_, z0, rfl⟩
  unfold pyNext; exact wpAny_bind (wpAny_attempt (wpAny_callSpecial?_slot (name := Str.ofString "__next__") ty F.slot_zip_next (wpAny_call_entry F.slot_zip_next ty F.entry_zip_next (zb_item d z0 p0 r0 a1 a2 b1 b2 hx hy fun h' v1 v2 v3 v4 v5 v6 v7 => wpAny_pure (q h' v1 v2 v3 v4 v5 v6 v7)) (F.args_zip_next_1 _))))
theorem nz_end {t u : Bool} {z TI TO i1 i2 l1 l2 : Addr} {k1 k2 : Nat} {xs ys : Array Value} {a b : Value} {Q : Option Value → Shared → Prop} (hh : A.handled = none) (d : ZipApart z TI TO i1 i2 l1 l2) (z0 : IsZip s.heap z TI TO .none) (p0 : IsPair s.heap TI (.ref i1) (.ref i2)) (r0 : IsPair s.heap TO a b)
    (a1 : ItB t s.heap i1 l1 k1) (a2 : ItB u s.heap i2 l2 k2) (b1 : SqB t s.heap l1 xs) (b2 : SqB u s.heap l2 ys) (ho : xs[k1]? = none ∨ ys[k2]? = none)
    (q : ∀ h', (∀ c o, c ≠ z → c ≠ TO → c ≠ i1 → c ≠ i2 → s.heap.get? c = some o → h'.get? c = some o) → Q none { s with heap := h' }) : wpAny (model prog w) A (pyNext (.ref z)) Q E s := by
  have ty : s.TypeIs (.ref z) "zip" := ⟨_, z0, rfl⟩
  unfold pyNext; refine wpAny_bind (wpAny_attempt (wpAny_callSpecial?_slot (name := Str.ofString "__next__") ty F.slot_zip_next (wpAny_call_entry F.slot_zip_next ty F.entry_zip_next (zb_end hh d z0 p0 r0 a1 a2 b1 b2 ho fun h' e hk he => ?_) (F.args_zip_next_1 _))))
  obtain ⟨o, g1, g2⟩ := he
  exact wpAny_bind (wpAny_isInstance (T := "StopIteration") (b := true) ⟨o, g1, g2⟩ isSubtype_stop (wpAny_pure (q _ hk)))
end
/-! the call -/
abbrev g1 (t : Bool) (h : Heap) (a : Addr) : Heap := h.push { cls := .type (nmB t), data := .fields #[.ref a, .int 0 0] }
abbrev g2 (t u : Bool) (h : Heap) (a b : Addr) : Heap := (g1 t h a).push { cls := .type (nmB u), data := .fields #[.ref b, .int 0 0] }
abbrev g3 (t u : Bool) (h : Heap) (a b : Addr) : Heap := (g2 t u h a b).push { cls := .type "tuple", data := .seq #[.ref h.objs.size, .ref (g1 t h a).objs.size] }
abbrev g4 (t u : Bool) (h : Heap) (a b : Addr) : Heap := (g3 t u h a b).push { cls := .type "tuple", data := .seq #[.none, .none] }
abbrev g5 (t u : Bool) (h : Heap) (a b : Addr) : Heap := (g4 t u h a b).push { cls := .type "zip", data := .fields #[.none, .bool false, .bool false, .ref (g2 t u h a b).objs.size, .ref (g3 t u h a b).objs.size] }
theorem meets_z (t u : Bool) (a b : Addr) (xs ys : Array Value) :
    Meets (Builtin.«zip.__new__» ⟨[.type "zip", .ref a, .ref b], []⟩) (fun _ R s => SqB t s.heap a xs ∧ SqB u s.heap b ys ∧ R (.ok (.ret (.ref (g4 t u s.heap a b).objs.size))) { s with heap := g5 t u s.heap a b }) :=
  .of_wp fun prog w A R s h => by
    obtain ⟨hp, gn, dd, tk, os⟩ := s; obtain ⟨ha, hb, h⟩ := h
    have hsub := sub_zip
    cases t <;> cases u
    · have m1 : Heap.IsList (Shared.heap ⟨hp, gn, dd, tk, os⟩) a xs := ha
      have m2 : Heap.IsList (Shared.heap ⟨hp.push { cls := .type "list_iterator", data := .fields #[.ref a, .int 0 0] }, gn, dd, tk, os⟩) b ys := Heap.IsList.push hb _
      wp_walk using wpAny_pyIter_list m1, wpAny_pyIter_list m2
      exact ⟨_, rfl, h⟩
    · have m1 : Heap.IsList (Shared.heap ⟨hp, gn, dd, tk, os⟩) a xs := ha
      have m2 : Heap.IsTuple (Shared.heap ⟨hp.push { cls := .type "list_iterator", data := .fields #[.ref a, .int 0 0] }, gn, dd, tk, os⟩) b ys := Heap.IsTuple.push hb _
      wp_walk using wpAny_pyIter_list m1, wpAny_pyIter_tuple m2
      exact ⟨_, rfl, h⟩
    · have m1 : Heap.IsTuple (Shared.heap ⟨hp, gn, dd, tk, os⟩) a xs := ha
      have m2 : Heap.IsList (Shared.heap ⟨hp.push { cls := .type "tuple_iterator", data := .fields #[.ref a, .int 0 0] }, gn, dd, tk, os⟩) b ys := Heap.IsList.push hb _
      wp_walk using wpAny_pyIter_tuple m1, wpAny_pyIter_list m2
      exact ⟨_, rfl, h⟩
    · have m1 : Heap.IsTuple (Shared.heap ⟨hp, gn, dd, tk, os⟩) a xs := ha
      have m2 : Heap.IsTuple (Shared.heap ⟨hp.push { cls := .type "tuple_iterator", data := .fields #[.ref a, .int 0 0] }, gn, dd, tk, os⟩) b ys := Heap.IsTuple.push hb _
      wp_walk using wpAny_pyIter_tuple m1, wpAny_pyIter_tuple m2
      exact ⟨_, rfl, h⟩
theorem it0 {t : Bool} {h : Heap} {i a : Addr} (e : h.get? i = some { cls := .type (nmB t), data := .fields #[.ref a, .int 0 0] }) : ItB t h i a 0 := by
  cases t <;> exact ⟨_, e, rfl, rfl⟩
section
variable {prog : Program} {w : World} {A : Around} {E : Value → Shared → Prop} {s : Shared}
theorem call_z {t u : Bool} {a b : Addr} {xs ys : Array Value} {Q : Value → Shared → Prop} (ha : SqB t s.heap a xs) (hb : SqB u s.heap b ys)
    (q : ∀ h', IsZip h' (s.heap.objs.size + 4) (s.heap.objs.size + 2) (s.heap.objs.size + 3) .none → IsPair h' (s.heap.objs.size + 2) (.ref s.heap.objs.size) (.ref (s.heap.objs.size + 1)) → IsPair h' (s.heap.objs.size + 3) .none .none →
      ItB t h' s.heap.objs.size a 0 → ItB u h' (s.heap.objs.size + 1) b 0 → (∀ c o, s.heap.get? c = some o → h'.get? c = some o) → Q (.ref (s.heap.objs.size + 4)) { s with heap := h' }) : wpAny (model prog w) A (call (.type "zip") [.ref a, .ref b]) Q E s := by
  refine callType_new F.called_zip (by decide) (F.typeCall_zip_2 _ _) (F.newCall_zip_2 _ _) (fun obj => F.args_object_init_3 obj _ _) F.entry_zip_new (meets_z t u a b xs ys) ⟨ha, hb, ?_⟩
  have n1 : (g1 t s.heap a).objs.size = s.heap.objs.size + 1 := Heap.size_push ..
  have n2 : (g2 t u s.heap a b).objs.size = s.heap.objs.size + 2 := by rw [Heap.size_push, n1]
  have n3 : (g3 t u s.heap a b).objs.size = s.heap.objs.size + 3 := by rw [Heap.size_push, n2]
  have n4 : (g4 t u s.heap a b).objs.size = s.heap.objs.size + 4 := by rw [Heap.size_push, n3]
  have e5 : (g5 t u s.heap a b).get? (g4 t u s.heap a b).objs.size = some _ := Heap.get?_push_size _ rfl
  have e4 : (g5 t u s.heap a b).get? (g3 t u s.heap a b).objs.size = some _ := Heap.get?_push_of_some _ (Heap.get?_push_size _ rfl)
  have e3 : (g5 t u s.heap a b).get? (g2 t u s.heap a b).objs.size = some _ := Heap.get?_push_of_some _ (Heap.get?_push_of_some _ (Heap.get?_push_size _ rfl))
  have e2 : (g5 t u s.heap a b).get? (g1 t s.heap a).objs.size = some { cls := .type (nmB u), data := .fields #[.ref b, .int 0 0] } := Heap.get?_push_of_some _ (Heap.get?_push_of_some _ (Heap.get?_push_of_some _ (Heap.get?_push_size _ rfl)))
  have e1 : (g5 t u s.heap a b).get? s.heap.objs.size = some { cls := .type (nmB t), data := .fields #[.ref a, .int 0 0] } := Heap.get?_push_of_some _ (Heap.get?_push_of_some _ (Heap.get?_push_of_some _ (Heap.get?_push_of_some _ (Heap.get?_push_size _ rfl))))
  show _ ∧ _
  rw [n2, n3, n4] at e5; rw [n1, n2] at e3; rw [n3] at e4; rw [n1] at e2; rw [n4]
  exact ⟨⟨_, e5, rfl⟩, q _ e5 e3 e4 (it0 e1) (it0 e2) fun c o x => Heap.get?_push_of_some _ (Heap.get?_push_of_some _ (Heap.get?_push_of_some _ (Heap.get?_push_of_some _ (Heap.get?_push_of_some _ x))))⟩
end
/-! the layer's rule -/
def SqX (t : Bool) (K : PySem.W.Frag) (H : Hp) (a : Addr) (xs : List V) : Prop := match t with
  | true => SqT K H a xs
  | false => SqL K H a xs
theorem SqX.get {X : Cx} {t : Bool} {pins : List (Addr × Obj)} {σ : L2.St} {H : Hp} {s : Shared} {a : Addr} {xs : List V} (I : Inv X pins σ H s) (h : SqX t X.K H a xs) : ∃ its, Vals xs its ∧ SqB t s.heap a its.toArray ∧ a < s.heap.objs.size := by
  cases t
  · obtain ⟨its, rv, p, _⟩ := I.list h
    exact ⟨its, rv, p.isList, p.lt⟩
  · obtain ⟨its, rv, p, _⟩ := I.tuple h
    obtain ⟨o, ho, _⟩ := id p
    exact ⟨its, rv, p, Heap.lt_size ho⟩
theorem SqX.inj {X : Cx} {t : Bool} {pins : List (Addr × Obj)} {σ : L2.St} {H : Hp} {s : Shared} {a : Addr} {xs ys : List V} (I : Inv X pins σ H s) (h : SqX t X.K H a xs) (k : SqX t X.K H a ys) : xs = ys := by
  cases t
  · exact I.list_inj h k
  · exact I.tuple_inj h k
def ItzB (t u : Bool) (K : PySem.W.Frag) (a b : Addr) : It :=
  ⟨fun i H => ∃ (xs ys : List V) (x y : V), SqX t K H a xs ∧ SqX u K H b ys ∧ xs[i]? = some x ∧ ys[i]? = some y,
    fun i H v H' => ∃ T x y, v = .ref T ∧ H T = none ∧ H' = upd H T (.tup [x, y]) ∧ (∀ xs, SqX t K H a xs → xs[i]? = some x) ∧ ∀ ys, SqX u K H b ys → ys[i]? = some y,
    fun i H => ∃ xs ys : List V, SqX t K H a xs ∧ SqX u K H b ys ∧ (xs.length ≤ i ∨ ys.length ≤ i)⟩
theorem five {α : Type} {c z a b d e : α} (h : c ∈ [z, a, b, d, e]) : c = z ∨ c = a ∨ c = b ∨ c = d ∨ c = e := by simpa using h
theorem turn_zB {t u : Bool} {P : Program} {w : World} {K : PySem.W.Frag} {elts : List Expr} {kk : Nat} {tp : Pos} {a b z TI TO i1 i2 : Addr} (d : ZipApart z TI TO i1 i2 a b) :
    Turn P w K (.Tuple elts kk tp) (ItzB t u K a b) [z, TI, TO, i1, i2] z (fun i h => IsZip h z TI TO .none ∧ IsPair h TI (.ref i1) (.ref i2) ∧ (∃ x y, IsPair h TO x y) ∧ ItB t h i1 a i ∧ ItB u h i2 b i) where
  mem := List.mem_cons_self ..
  obj := fun i h st c hc => by
    obtain ⟨m1, m2, ⟨x, y, m3⟩, m4, m5⟩ := st
    obtain ⟨o4, _, r4, d4⟩ := m4.obj
    obtain ⟨o5, _, r5, d5⟩ := m5.obj
    rcases five hc with rfl | rfl | rfl | rfl | rfl
    · exact ⟨_, m1, fun v q => nomatch q⟩
    · exact ⟨_, m2, fun v q => nomatch q⟩
    · exact ⟨_, m3, fun v q => nomatch q⟩
    · exact ⟨o4, r4, fun v q => by rw [d4] at q; cases q⟩
    · exact ⟨o5, r5, fun v q => by rw [d5] at q; cases q⟩
  keep := fun i h h' st k => by
    obtain ⟨m1, m2, ⟨x, y, m3⟩, m4, m5⟩ := st
    exact ⟨k z (by simp) _ m1, k TI (by simp) _ m2, ⟨x, y, k TO (by simp) _ m3⟩, m4.at' fun o q => k i1 (by simp) o q, m5.at' fun o q => k i2 (by simp) o q⟩
  item := by
    intro X hP hw hK hc i pins s σ H E I hf st hg
    subst hP hw hK
    obtain ⟨m1, m2, ⟨x0, y0, m3⟩, m4, m5⟩ := st
    obtain ⟨xs, ys, x, y, qx, qy, hx, hy⟩ := hg
    obtain ⟨its, rv, p, _⟩ := qx.get I
    obtain ⟨its2, rv2, p2, _⟩ := qy.get I
    obtain ⟨v, hv, r1⟩ := rv.get hx
    obtain ⟨v2, hv2, r2⟩ := rv2.get hy
    have zl : z < s.heap.objs.size := Heap.lt_size m1
    refine nz_item d m1 m2 m3 m4 m5 p p2 (x := v) (y := v2) (by simpa using hv) (by simpa using hv2) fun h' z' o' f1 f2 hT _ hk => ?_
    refine ⟨_, rfl, wpAny_letOwnedTupleGo_zip (s := { s with heap := h' }) z' fun h'' z'' sb => ?_⟩
    have T2 : h''.get? s.heap.objs.size = some { cls := .type "tuple", data := .seq #[v, v2] } := (sb.2 _ (Nat.ne_of_gt zl)).trans hT
    have new : ObjOk X.prog X.w (upd H s.heap.objs.size (.tup [x, y])) h'' s.heap.objs.size (.tup [x, y]) := ⟨by show 2 ≤ sizeLine; decide, [v, v2], .cons r1 (.cons r2 .nil), ⟨_, T2, rfl, _, rfl⟩⟩
    have J : Inv X pins σ (upd H s.heap.objs.size (.tup [x, y])) { s with heap := h'' } :=
      I.turnedNew (t' := s.toks) (ch := [z, TI, TO, i1, i2]) (fun c o hb q => (sb.2 c (fun w' => hb (by simp [w']))).trans (hk c o (fun w' => hb (by simp [w'])) (fun w' => hb (by simp [w'])) (fun w' => hb (by simp [w'])) (fun w' => hb (by simp [w'])) q)) hf (Nat.le_refl _) new
    refine ⟨.ref s.heap.objs.size, _, J, rfl, ⟨_, x, y, rfl, I.hok.fresh (Nat.le_refl _), rfl, fun l hl => by rw [SqX.inj I hl qx]; exact hx, fun l hl => by rw [SqX.inj I hl qy]; exact hy⟩, ⟨z'', ?_, ⟨v, v2, ?_⟩, ?_, ?_⟩, fun c hm => ?_⟩
    · exact (sb.2 _ d.TIz).trans (hk _ _ d.TIz d.TITO d.TIi1 d.TIi2 m2)
    · exact (sb.2 _ d.TOz).trans o'
    · exact f1.at' fun o q => (sb.2 _ d.i1z).trans q
    · exact f2.at' fun o q => (sb.2 _ d.i2z).trans q
    · have lt : c < s.heap.objs.size := by
        rcases five hm with rfl | rfl | rfl | rfl | rfl
        · exact zl
        · exact Heap.lt_size m2
        · exact Heap.lt_size m3
        · exact m4.lt
        · exact m5.lt
      rw [upd_ne (Nat.ne_of_lt lt)]; exact (hf c hm).1
  done := by
    intro X hP hw hK hc i pins s σ H E I hf st hg
    subst hP hw hK
    obtain ⟨m1, m2, ⟨x0, y0, m3⟩, m4, m5⟩ := st
    obtain ⟨xs, ys, qx, qy, ho⟩ := hg
    obtain ⟨its, rv, p, _⟩ := qx.get I
    obtain ⟨its2, rv2, p2, _⟩ := qy.get I
    have e1 := rv.length
    have e2 := rv2.length
    have he : its.toArray[i]? = none ∨ its2.toArray[i]? = none := ho.elim (fun q => .inl (by simp; omega)) fun q => .inr (by simp; omega)
    exact nz_end (I.ok.hd hc) d m1 m2 m3 m4 m5 p p2 he fun h' hk => ⟨rfl, I.turnedL (t' := s.toks) (ch := [z, TI, TO, i1, i2]) (fun c o hb q => hk c o (fun w' => hb (by simp [w'])) (fun w' => hb (by simp [w'])) (fun w' => hb (by simp [w'])) (fun w' => hb (by simp [w'])) q) hf⟩
  self := fun A i s Q E st h => wpAny_pyIter_zip st.1 h
def iZB (t u : Bool) (K : PySem.W.Frag) (ta : TA) : TI := fun σ H R => ta σ H fun vs H1 => ∃ a b xs ys, vs = [.ref a, .ref b] ∧ SqX t K H1 a xs ∧ SqX u K H1 b ys ∧ R (ItzB t u K a b) H1
theorem pi_zB {t u : Bool} {X : Cx} {e e2 : Expr} {ta : TA} {p pos tp : Pos} {elts : List Expr} {kk : Nat} (hg : Gl X "zip") (hm : X.mg "zip" = none) (ha : PA X [e, e2] ta)
    (hs : starEach [e, e2] X.env = (false, eval e X.env) :: starEach [e2] X.env) (hpl : (backTo pos (starEach [e2] X.env)).any (·.1) = false) : PI X (.Tuple elts kk tp) (.Call (.Name "zip" p) [e, e2] [] pos) (iZB t u X.K ta) := by
  refine ⟨fun pins s σ H R I h => Call_ (ld_blt I hg hm PyProof.Rows.boot_zip (PyProof.Rows.callWith_type1 (thn (ha.run pos pins s σ H _ I h) fun us s1 ⟨vs, H1, J, r1, q1⟩ => ?_) hs hpl))⟩
  obtain ⟨a, b, xs, ys, ex, qx, qy, q⟩ := q1
  subst ex
  cases r1 with
  | cons r rr =>
    cases rr with
    | cons r' rr =>
      cases rr; cases r; cases r'
      have fresh : ∀ c, c ∈ [s1.heap.objs.size + 4, s1.heap.objs.size + 2, s1.heap.objs.size + 3, s1.heap.objs.size, s1.heap.objs.size + 1] → FpOk X pins H1 c := fun c hm2 => by
        have le : s1.heap.objs.size ≤ c := by rcases five hm2 with v | v | v | v | v <;> omega
        exact J.fpOk le (J.hok.fresh le)
      obtain ⟨its, rv, p1, l1⟩ := qx.get J
      obtain ⟨its2, rv2, p2, l2⟩ := qy.get J
      refine call_z p1 p2 fun h' z' o1 o2 f1 f2 hk => wpAny_pyIter_zip z' ?_
      have J2 : Inv X pins σ H1 { s1 with heap := h' } := J.kept (t' := s1.toks) hk
      exact ⟨s1.heap.objs.size + 4, _, _, _, H1, rfl, J2, turn_zB (PySem.W.ktu_apart s1.heap.objs.size a b l1 l2), ⟨z', o1, ⟨_, _, o2⟩, f1, f2⟩, fresh, q⟩
end Vz0
set_option Elab.async false
set_option linter.all false
set_option maxRecDepth 100000
set_option maxHeartbeats 2000000
/-! zip, as the interpreter has it. -/
namespace Vm
open PySem L2
section
variable {X : Cx} {D : Wd} {Wx : WX} {io jo : List Addr} {H J : Hp} {S S' : Vs} {a b : Expr} {ia ib : IE} {pos : Pos}
theorem seqW_ref {x : W} {v : V} {t : Bool} {l : List W} {c : List (Nat × List W)} (r : Rep X.K X.mg io H x v) (h : seqW x S = some (t, l, c)) : ∃ q, v = .ref q := by
  unfold seqW at h
  split at h
  · cases r with
    | @tup l q xs h r1 => exact ⟨q, rfl⟩
  · cases r with
    | @ref n q h => exact ⟨q, rfl⟩
  · cases h
theorem seqW_later {x : W} {q : Addr} {t : Bool} {l : List W} {c : List (Nat × List W)} (s : Sim X.K X.mg io H S) (r : Rep X.K X.mg io H x (.ref q)) (h : seqW x S = some (t, l, c)) (xx : Ex io H jo J) (sj : Sim X.K X.mg jo J S') (ok : ∀ p ∈ c, lstAt S' p.1 = some p.2) :
    ∃ xs, Vz0.SqX t X.K J q xs ∧ Reps X.K X.mg jo J l xs := by
  unfold seqW at h
  split at h
  · cases h
    cases r with
    | @tup l q xs h r1 => exact ⟨xs, sqT_mono s xx h, Reps.mono s xx r1⟩
  · rename_i n
    split at h
    · rename_i l' e
      cases h
      cases r with
      | @ref n q h =>
        obtain ⟨xs, hx, r1⟩ := sj.lst (xx.get h) (lstAt_of (ok (n, l) (List.mem_cons_self ..)))
        exact ⟨xs, SqL.of hx, r1⟩
    · cases h
  · cases h
theorem seqW_ok {x : W} {t : Bool} {l : List W} {c : List (Nat × List W)} (h : seqW x S = some (t, l, c)) : ∀ p ∈ c, lstAt S p.1 = some p.2 := by
  unfold seqW at h
  split at h
  · cases h
    intro p hp
    cases hp
  · split at h
    · cases h
      intro p hp
      rw [List.mem_singleton.mp hp]
      assumption
    · cases h
  · cases h
theorem it_zip {x y : W} {q1 q2 : Addr} {t u : Bool} {l m : List W} {c d : List (Nat × List W)} (s : Sim X.K X.mg io H S) (r1 : Rep X.K X.mg io H x (.ref q1)) (r2 : Rep X.K X.mg io H y (.ref q2)) (h1 : seqW x S = some (t, l, c)) (h2 : seqW y S = some (u, m, d)) :
    ItOk X.K X.mg (Vz0.ItzB t u X.K q1 q2) ⟨zipL l m, c ++ d⟩ io H := fun i jo J S' xx sj ok => by
  obtain ⟨xs, a1, b1⟩ := seqW_later s r1 h1 xx sj fun p hp => ok p (List.mem_append_left _ hp)
  obtain ⟨ys, a2, b2⟩ := seqW_later s r2 h2 xx sj fun p hp => ok p (List.mem_append_right _ hp)
  have zl : (zipL l m).length = min l.length m.length := by unfold zipL; rw [List.length_map, List.length_zip]
  have l1 := b1.length
  have l2 := b2.length
  refine ⟨fun hi => ?_, fun hi => ⟨xs, ys, a1, a2, ?_⟩⟩
  · have hi : i < (zipL l m).length := hi
    rw [zl] at hi
    obtain ⟨w1, y1, e1, e2, e3⟩ := reps_at b1 (show i < l.length by omega)
    obtain ⟨w2, y2, k1, k2, k3⟩ := reps_at b2 (show i < m.length by omega)
    refine ⟨⟨xs, ys, y1, y2, a1, a2, e2, k2⟩, fun z H' ⟨T, z1, z2, ez, hT, eH, f1, f2⟩ => ?_⟩
    subst ez eH
    have g1 := f1 xs a1
    have g2 := f2 ys a2
    rw [e2] at g1
    rw [k2] at g2
    cases g1
    cases g2
    refine ⟨Ex.new hT, sj.new hT, .tup [w1, w2], ?_, .tup (SqT.of upd_same) (.cons (e3.mono sj (Ex.new hT)) (.cons (k3.mono sj (Ex.new hT)) .nil))⟩
    show (zipL l m)[i]? = _
    unfold zipL
    rw [List.getElem?_map, (List.getElem?_zip_eq_some (z := (w1, w2))).mpr ⟨e1, k1⟩]
    rfl
  · have hi : i = (zipL l m).length := hi
    rw [zl] at hi
    omega
theorem piEx {α : Type} {tg e : Expr} {f : α → TI} (h : ∀ z, PI X tg e (f z)) : PI X tg e (fun σ H R => ∃ z, f z σ H R) := ⟨fun pins s σ H R I ⟨z, q⟩ => (h z).run pins s σ H R I q⟩
theorem piv_zip {es : List Expr} {kk : Nat} {tp p : Pos} (hg : Gl X "zip") (hm : X.mg "zip" = none) (sa : notStar a = true) (sb : notStar b = true) (ha : PV X D Wx a ia) (hb : PV X D Wx b ib) : PIV X D Wx (.Tuple es kk tp) (.Call (.Name "zip" p) [a, b] [] pos) (.zip ia ib) :=
  piMono (piEx (α := Bool × Bool) fun tu => Vz0.pi_zB (t := tu.1) (u := tu.2) hg hm (pa_cons ha (pa_cons hb pa_nil (star_of sb)) (star_of sa)) (star_of sa) (by unfold backTo; rw [List.any_map, one_star sb]; rfl)) fun σ H R ⟨io, S, r, s, e, p⟩ => by
    rw [denI] at p
    cases hx : den D ia r S with
    | ok x S1 =>
      rw [hx, bind_ok] at p
      cases hy : den D ib r S1 with
      | ok y S2 =>
        rw [hy, bind_ok] at p
        unfold zipV at p
        cases hp : seqW x S2 with
        | none => rw [hp] at p; exact p.elim
        | some z1 =>
          cases hq : seqW y S2 with
          | none => rw [hp, hq] at p; exact p.elim
          | some z2 =>
            rw [hp, hq] at p
            obtain ⟨t, l, c⟩ := z1
            obtain ⟨u, m, d⟩ := z2
            refine ⟨(t, u), io, S, r, s, e, ?_⟩
            rw [hx]
            intro io' v H' x' s' r'
            refine ⟨io', S1, r, s', e.mono s x', ?_⟩
            rw [hy]
            intro io2 v2 H2 x2 s2 r2
            have r1 := r'.mono s' x2
            obtain ⟨q1, rfl⟩ := seqW_ref r1 hp
            obtain ⟨q2, rfl⟩ := seqW_ref r2 hq
            obtain ⟨xs, a1, _⟩ := seqW_later s2 r1 hp (Ex.refl _ _) s2 (seqW_ok hp)
            obtain ⟨ys, a2, _⟩ := seqW_later s2 r2 hq (Ex.refl _ _) s2 (seqW_ok hq)
            exact ⟨q1, q2, xs, ys, rfl, a1, a2, p io2 H2 (x'.trans x2) s2 _ (it_zip s2 r1 r2 hp hq)⟩
      | exc z S2 =>
        rw [hy] at p
        refine ⟨(true, true), io, S, r, s, e, ?_⟩
        rw [hx]
        intro io' v H' x' s' r'
        refine ⟨io', S1, r, s', e.mono s x', ?_⟩
        rw [hy]
        exact fun io2 H2 cls d x2 s2 q => p io2 H2 cls d (x'.trans x2) s2 q
      | err => rw [hy] at p; exact p.elim
    | exc z S1 =>
      rw [hx] at p
      refine ⟨(true, true), io, S, r, s, e, ?_⟩
      rw [hx]
      exact p
    | err => rw [hx] at p; exact p.elim
end
end Vm
set_option Elab.async false
set_option linter.all false
set_option maxRecDepth 100000
set_option maxHeartbeats 1000000
/-! Targets, comprehensions. -/
namespace Vm
open PySem L2
/-! ### targets -/
/-- the slots but those of P -/
structure RepQ (K : Fg) (mg : Mg) (io : List Addr) (H : Hp) (P : Nat → Prop) (r : Rho) (σ : L2.St) : Prop where
  len : r.length = σ.length
  at_ : ∀ (i : Nat) (w : W), ¬ P i → r[i]? = some (some w) → ∃ v, σ[i]? = some (some v) ∧ Rep K mg io H w v
def tgSlots : Tg → List Nat
  | .nm i => [i]
  | .tp l => l
def setAll (r : Rho) (l : List Nat) (ws : List W) : Rho := (l.zip ws).foldl (fun r p => r.set p.1 (some p.2)) r
def setAllV (σ : L2.St) (l : List Nat) (vs : List V) : L2.St := (l.zip vs).foldl (fun r p => r.set p.1 (some p.2)) σ
section
variable {K : Fg} {mg : Mg} {io : List Addr} {H : Hp} {r : Rho} {σ : L2.St}
theorem RepQ.set {P : Nat → Prop} (e : RepQ K mg io H P r σ) {w : W} {v : V} (h : Rep K mg io H w v) (i : Nat) : RepQ K mg io H (fun j => P j ∧ j ≠ i) (r.set i (some w)) (σ.set i (some v)) := by
  refine ⟨by rw [List.length_set, List.length_set, e.len], fun j u hp hj => ?_⟩
  by_cases hij : i = j
  · subst hij
    by_cases hl : i < r.length
    · rw [List.getElem?_set_self hl] at hj
      cases hj
      exact ⟨v, List.getElem?_set_self (by rw [← e.len]; exact hl), h⟩
    · rw [List.getElem?_eq_none (by simpa using hl)] at hj
      cases hj
  · rw [List.getElem?_set_ne hij] at hj
    obtain ⟨x, h1, h2⟩ := e.at_ j u (fun z => hp ⟨z, fun q => hij q.symm⟩) hj
    exact ⟨x, by rw [List.getElem?_set_ne hij]; exact h1, h2⟩
theorem RepQ.setAll : ∀ {l : List Nat} {ws : List W} {vs : List V} {P : Nat → Prop} {r : Rho} {σ : L2.St}, l.length = ws.length → Reps K mg io H ws vs → RepQ K mg io H P r σ → RepQ K mg io H (fun j => P j ∧ j ∉ l) (setAll r l ws) (setAllV σ l vs)
  | [], [], [], P, r, σ, hl, .nil, e => ⟨e.len, fun i w hp h => e.at_ i w (fun z => hp ⟨z, by simp⟩) h⟩
  | i :: l, w :: ws, v :: vs, P, r, σ, hl, .cons q t, e => by
    have := RepQ.setAll (l := l) (by simpa using hl) t (e.set q i)
    exact ⟨this.len, fun j u hp h => this.at_ j u (fun ⟨⟨h1, h2⟩, h3⟩ => hp ⟨h1, by simp only [List.mem_cons, not_or]; exact ⟨h2, h3⟩⟩) h⟩
theorem RepE.q (e : RepE K mg io H r σ) : RepQ K mg io H (fun _ => False) r σ := ⟨e.len, fun i w _ h => e.at_ i w h⟩
theorem RepQ.e {P : Nat → Prop} (e : RepQ K mg io H P r σ) (h : ∀ i, ¬ P i) : RepE K mg io H r σ := ⟨e.len, fun i w q => e.at_ i w (h i) q⟩
theorem wipe_get (σ : L2.St) (j : Nat) : ∀ vs : List Nat, j ∉ vs → (wipe σ vs)[j]? = σ[j]?
  | [], _ => rfl
  | v :: vs, h => by
    simp only [List.mem_cons, not_or] at h
    unfold wipe
    rw [List.getElem?_set_ne (fun z => h.1 z.symm)]
    exact wipe_get σ j vs h.2
theorem wipe_in (σ : L2.St) (j : Nat) : ∀ vs : List Nat, j ∈ vs → (wipe σ vs)[j]? = if j < σ.length then some none else none
  | v :: vs, h => by
    unfold wipe
    by_cases e : v = j
    · subst e
      rw [List.getElem?_set]
      simp [wipe_length]
    · rw [List.getElem?_set_ne e]
      rcases List.mem_cons.mp h with z | z
      · exact absurd z.symm e
      · exact wipe_in σ j vs z
theorem wipe_eq {σ τ : L2.St} {vs : List Nat} (hl : σ.length = τ.length) (h : ∀ j, j ∉ vs → σ[j]? = τ[j]?) : wipe σ vs = wipe τ vs := List.ext_getElem? fun j => by
  by_cases hj : j ∈ vs
  · rw [wipe_in σ j vs hj, wipe_in τ j vs hj, hl]
  · rw [wipe_get σ j vs hj, wipe_get τ j vs hj]
    exact h j hj
theorem RepE.wiped (e : RepE K mg io H r σ) (vs : List Nat) : RepQ K mg io H (fun j => j ∈ vs) r (wipe σ vs) := ⟨by rw [wipe_length]; exact e.len, fun i w hp h => by
  obtain ⟨v, h1, h2⟩ := e.at_ i w h
  exact ⟨v, by rw [wipe_get σ i vs hp]; exact h1, h2⟩⟩
theorem setAllV_len : ∀ (l : List Nat) (vs : List V) (σ : L2.St), (setAllV σ l vs).length = σ.length
  | [], _, _ => rfl
  | _ :: _, [], _ => rfl
  | i :: l, v :: vs, σ => by
    show (setAllV (σ.set i (some v)) l vs).length = _
    rw [setAllV_len l vs, List.length_set]
theorem setAllV_out {j : Nat} : ∀ (l : List Nat) (vs : List V) (σ : L2.St), j ∉ l → (setAllV σ l vs)[j]? = σ[j]?
  | [], _, _, _ => rfl
  | _ :: _, [], _, _ => rfl
  | i :: l, v :: vs, σ, h => by
    simp only [List.mem_cons, not_or] at h
    show (setAllV (σ.set i (some v)) l vs)[j]? = _
    rw [setAllV_out l vs _ h.2, List.getElem?_set_ne (fun z => h.1 z.symm)]
end
/-- what a store at tg does: gT v σ H Q -/
def gAll : List Nat → TGs
  | [] => gNil
  | i :: l => gCons (gName i) (gAll l)
def gTg (K : Fg) : Tg → TG
  | .nm i => gName i
  | .tp l => gTup K l.length (gAll l)
theorem gAll_ok {H : Hp} {Q : L2.St → Hp → Prop} : ∀ {l : List Nat} {vs : List V} {σ : L2.St}, l.length = vs.length → Q (setAllV σ l vs) H → gAll l vs σ H Q
  | [], [], σ, _, q => ⟨rfl, q⟩
  | i :: l, v :: vs, σ, h, q => ⟨v, vs, rfl, gAll_ok (l := l) (by simpa using h) q⟩
section
variable {X : Cx} {D : Wd} {Wx : WX} {io : List Addr} {H : Hp} {S : Vs} {σ : L2.St} {x y : W} {v u : V}
/-- the store's end -/
theorem gTg_ok {tg : Tg} {r r' : Rho} {P : Nat → Prop} {Q : L2.St → Hp → Prop} (s : Sim X.K X.mg io H S) (e : RepQ X.K X.mg io H P r σ) (rx : Rep X.K X.mg io H x v) (h : setT tg x r = some r')
    (q : ∀ σ', RepQ X.K X.mg io H (fun j => P j ∧ j ∉ tgSlots tg) r' σ' → σ'.length = σ.length → (∀ j, j ∉ tgSlots tg → σ'[j]? = σ[j]?) → Q σ' H) : gTg X.K tg v σ H Q := by
  cases tg with
  | nm i =>
    cases h
    refine q _ ?_ (List.length_set ..) fun j hj => ?_
    · have := e.set rx i
      exact ⟨this.len, fun j w hp hh => this.at_ j w (fun ⟨h1, h2⟩ => hp ⟨h1, by simpa [tgSlots] using h2⟩) hh⟩
    · rw [List.getElem?_set_ne]
      intro z
      exact hj (by simp [tgSlots, z])
  | tp l =>
    cases rx with
    | @tup ws a xs h1 r1 =>
      have h : (if l.length = ws.length then some (setAll r l ws) else none) = some r' := h
      split at h
      · rename_i hl
        cases h
        refine ⟨a, xs, rfl, h1, by rw [← r1.length, hl], gAll_ok (by rw [hl, r1.length]) (q _ (RepQ.setAll hl r1 e) (setAllV_len _ _ _) fun j hj => setAllV_out _ _ _ hj)⟩
      · cases h
    | _ => cases h
/-- the target is the interpreter's tg -/
abbrev PGV (X : Cx) (e : Expr) (tg : Tg) : Prop := PG X e (gTg X.K tg)
theorem pgv_nm {i : Nat} {n : Str} {pos : Pos} (hN : X.N.Nodup) (hi : X.N[i]? = some n) (hx : Loc X.env.scope n) (hf : X.fn n = true ∨ X.env.scope.names.lookup n = some .local) : PGV X (.Name n pos) (.nm i) := pg_name hN hi hx hf
theorem assign_of {env : Env} : ∀ {es : List Expr}, noStars es = true → assignEach es env = es.map fun e => (false, assign e env)
  | [], _ => rfl
  | e :: es, h => by
    unfold noStars at h
    rw [List.all_cons, Bool.and_eq_true] at h
    have ih := assign_of (env := env) (es := es) h.2
    cases e <;> first | (cases h.1; done) | (show _ :: assignEach es env = _; rw [ih]; rfl)
theorem pgv_tp {es : List Expr} {l : List Nat} {k : Nat} {pos : Pos} (hc : X.calm = true) (hs : noStars es = true) (hl : es.length = l.length) (h : PGs X es (gAll l)) : PGV X (.Tuple es k pos) (.tp l) :=
  pg_tup hc h (by rw [assign_of hs, List.length_map, hl]) (by rw [assign_of hs]; exact List.findIdx?_eq_none_iff.mpr fun x hx => by obtain ⟨e, _, rfl⟩ := List.mem_map.mp hx; rfl)
theorem pgsv_cons {e : Expr} {es : List Expr} {i : Nat} {l : List Nat} {n : Str} {pos : Pos} (hs : noStars (.Name n pos :: es) = true) (hN : X.N.Nodup) (hi : X.N[i]? = some n) (hx : Loc X.env.scope n) (hf : X.fn n = true ∨ X.env.scope.names.lookup n = some .local) (h : PGs X es (gAll l)) : PGs X (.Name n pos :: es) (gAll (i :: l)) :=
  pgs_cons (pg_name hN hi hx hf) h (by rw [assign_of hs, assign_of (by unfold noStars at hs; rw [List.all_cons, Bool.and_eq_true] at hs; exact hs.2)]; rfl)
/-! ### comprehensions -/
/-- one turn -/
noncomputable def lcF (D : Wd) (e : IE) (tg : Tg) (c : IE) (r : Rho) (x : W) (s2 : Vs) : Out (Option W) := match setT tg x r with
  | some r' => (den D c r' s2).bind fun t s3 => (truth t s3).bind fun b s4 => if b then (den D e r' s4).bind fun y s5 => .ok (some y) s5 else .ok none s4
  | none => .err
theorem lcL_nil {ok : Vs → Prop} {f : W → Vs → Out (Option W)} {s s' : Vs} {ys : List W} (h : lcL ok f [] s = .ok ys s') : ok s ∧ ys = [] ∧ s' = s := by
  unfold lcL at h
  split at h
  · cases h; exact ⟨by assumption, rfl, rfl⟩
  · cases h
theorem lcL_cons {ok : Vs → Prop} {f : W → Vs → Out (Option W)} {x : W} {l : List W} {s s' : Vs} {ys : List W} (h : lcL ok f (x :: l) s = .ok ys s') : ok s ∧ ∃ y s1 ys', f x s = .ok y s1 ∧ lcL ok f l s1 = .ok ys' s' ∧ ys = (match y with | some y => y :: ys' | none => ys') := by
  unfold lcL at h
  split at h
  · refine ⟨by assumption, ?_⟩
    cases e : f x s with
    | ok y s1 =>
      rw [e] at h
      obtain ⟨ys', s2, e2, h⟩ := bind_get h
      cases h
      exact ⟨y, s1, ys', rfl, e2, rfl⟩
    | exc z s1 => rw [e] at h; cases h
    | err => rw [e] at h; cases h
  · cases h
theorem lcL_noexc {ok : Vs → Prop} {f : W → Vs → Out (Option W)} : ∀ {l : List W} {s s' : Vs} {z : Exn}, lcL ok f l s ≠ .exc z s'
  | [], s, s', z, h => by unfold lcL at h; split at h <;> cases h
  | x :: l, s, s', z, h => by
    unfold lcL at h
    split at h
    · split at h
      · rename_i y s1 e
        cases e2 : lcL ok f l s1 with
        | ok ys s2 => rw [e2] at h; cases h
        | exc z2 s2 => exact lcL_noexc e2
        | err => rw [e2] at h; cases h
      · cases h
    · cases h
abbrev WxF : WX := fun _ _ _ _ => False
variable {elt te ti : Expr} {ifs : List Expr} {scope : Scope} {own : List (Str × Nat)} {pos : Pos} {ie ic : IE} {tg : Tg} {it : II}
theorem po_of_ok {α β : Type} {K : Fg} {mg : Mg} {R : List Addr → Hp → α → β → Prop} {w : α} {S' : Vs} {Q : β → Hp → Prop} {Wy : WX} {o : Out α} (h : o = .ok w S') (q : ∀ io' b H', Ex io H io' H' → Sim K mg io' H' S' → R io' H' w b → Q b H') : Po K mg Wy R o io H σ Q := by
  rw [h]
  exact q
/-- what a comprehension asks of its turns -/
def lcJ (J : It) (g : TG) (tt : TT) (te : TE) (vs : List Nat) (σ : L2.St) (H1 : Hp) (Q : VK) : Prop := ∀ D, H1 D = none → ∃ W : Nat → Nat → Hp → Prop, (∃ m, W 0 m (upd H1 D (.lst []))) ∧ ∀ i m H, W i m H →
  (J.stop i H ∧ Q (.ref D) H) ∨ (J.go i H ∧ ∃ Nx : Hp → Prop, (∀ H', Nx H' → ∃ m', m' < m ∧ W (i + 1) m' H') ∧ ∀ x H', J.yld i H x H' → g x (wipe σ vs) H' fun σ2 H2 => wipe σ2 vs = wipe σ vs ∧ tt σ2 H2 fun b H3 =>
    if b = true then te σ2 H3 fun y H4 => ∃ acc, H4 D = some (.lst acc) ∧ acc.length < sizeLine ∧ Nx (upd H4 D (.lst (acc ++ [y]))) else Nx H3)
theorem lc_rdG (ho : own.map (·.2) = tgSlots tg) {J : It} {ok : Vs → Prop} {items : List W} {io1 : List Addr} {H1 : Hp} {S1 S2 : Vs} {r : Rho} {ys : List W} {Q : VK} (s1 : Sim X.K X.mg io1 H1 S1) (e1 : RepE X.K X.mg io1 H1 r σ) (hJ : ItOkG X.K X.mg J ok items io1 H1) (hf : fits items.length = true)
    (hl : lcL ok (lcF D ie tg ic r) items S1 = .ok ys S2) (p : ∀ io' b H', Ex io1 H1 io' H' → Sim X.K X.mg io' H' (S2 ++ [.lst ys]) → Rep X.K X.mg io' H' (.ref S2.length) b → Q b H') :
    lcJ J (gTg X.K tg) (trT X.K X.mg WxF (test D ic)) (tr X.K X.mg WxF (den D ie)) (own.map (·.2)) σ H1 Q := by
  intro D1 hD1
  refine ⟨fun i m H2 => m = items.length - i ∧ i ≤ items.length ∧ ∃ io2 S3 acc accW rest, Ex io1 H1 io2 H2 ∧ Sim X.K X.mg io2 H2 S3 ∧ H2 D1 = some (.lst acc) ∧ D1 ∉ io2 ∧ Reps X.K X.mg io2 H2 accW acc ∧ accW.length ≤ i ∧ RepE X.K X.mg io2 H2 r σ ∧
    lcL ok (lcF D ie tg ic r) (items.drop i) S3 = .ok rest S2 ∧ accW ++ rest = ys, ⟨items.length, by simp, Nat.zero_le _, io1, S1, [], [], ys, Ex.new hD1, s1.new hD1, upd_same, s1.fresh hD1, .nil, Nat.le_refl _, e1.mono s1 (Ex.new hD1), hl, rfl⟩, ?_⟩
  rintro i m H2 ⟨rfl, hi2, io2, S3, acc, accW, rest, x2, s2, hD, nD, ra, hla, e2, hrun, hys⟩
  by_cases hlt : i < items.length
  · rw [List.drop_eq_getElem_cons hlt] at hrun
    obtain ⟨hok, y, S4, rest', hf1, hrun', hrest⟩ := lcL_cons hrun
    obtain ⟨hgo, hyl⟩ := (hJ i io2 H2 S3 x2 s2 hok).1 hlt
    refine .inr ⟨hgo, fun H' => ∃ m', m' = items.length - (i + 1) ∧ i + 1 ≤ items.length ∧ ∃ io2 S3 acc accW rest, Ex io1 H1 io2 H' ∧ Sim X.K X.mg io2 H' S3 ∧ H' D1 = some (.lst acc) ∧ D1 ∉ io2 ∧ Reps X.K X.mg io2 H' accW acc ∧ accW.length ≤ i + 1 ∧ RepE X.K X.mg io2 H' r σ ∧
      lcL ok (lcF D ie tg ic r) (items.drop (i + 1)) S3 = .ok rest S2 ∧ accW ++ rest = ys, fun H' ⟨m', hm, hw⟩ => ⟨m', by omega, hm, hw⟩, fun x H3 hy => ?_⟩
    obtain ⟨x3, s3, w, hw, rw3⟩ := hyl x H3 hy
    have hw' : w = items[i] := by rw [List.getElem?_eq_getElem hlt] at hw; exact (Option.some.inj hw).symm
    subst hw'
    unfold lcF at hf1
    cases hst : setT tg items[i] r with
    | none => rw [hst] at hf1; cases hf1
    | some r' =>
      rw [hst] at hf1
      obtain ⟨t, S5, ht1, hf1⟩ := bind_get hf1
      obtain ⟨b, S6, hb1, hf1⟩ := bind_get hf1
      have e3 := e2.mono s2 x3
      refine gTg_ok s3 (e3.wiped (own.map (·.2))) rw3 hst fun σ' eq' hlen hout => ⟨?_, ?_⟩
      · rw [ho]
        refine wipe_eq (by rw [hlen, wipe_length]) fun j hj => ?_
        rw [hout j hj, wipe_get _ _ _ (by rw [ho]; exact hj)]
      have eσ : RepE X.K X.mg io2 H3 r' σ' := eq'.e fun j ⟨h1, h2⟩ => h2 (by rw [← ho]; exact h1)
      refine ⟨io2, S3, r', s3, eσ, po_of_ok (w := b) (S' := S6) (by unfold test; rw [ht1]; exact hb1) fun io4 b' H4 x4 s4 hb => ?_⟩
      subst hb
      have hD4 := x4.fr D1 _ nD (x3.fr D1 _ nD hD).1
      have x14 := (x2.trans x3).trans x4
      cases b with
      | true =>
        have hf1 : ((den D ie r' S6).bind fun y s5 => .ok (some y) s5) = .ok y S4 := hf1
        obtain ⟨y', S7, hy1, hf1⟩ := bind_get hf1
        cases hf1
        refine ⟨io4, S6, r', s4, eσ.mono s3 x4, po_of_ok hy1 fun io5 v5 H5 x5 s5 r5 => ?_⟩
        have hD5 := x5.fr D1 _ hD4.2 hD4.1
        have x15 := x14.trans x5
        have ra5 := ((ra.mono s2 x3).mono s3 x4).mono s4 x5
        refine ⟨acc, hD5.1, ?_, _, rfl, hlt, io5, S4, acc ++ [v5], accW ++ [y'], rest', ?_, s5.side hD5.1 hD5.2, upd_same, hD5.2, (ra5.append (.cons r5 .nil)).keep (Kt.side hD5.1), ?_, ?_, hrun', ?_⟩
        · rw [← ra.length]
          have := fits_le hf
          omega
        · exact ⟨x15.pre, fun a o ha ho' => by
            obtain ⟨z1, z2⟩ := x15.fr a o ha ho'
            refine ⟨?_, z2⟩
            rw [upd_ne]
            exact z1
            intro z
            subst z
            rw [hD1] at ho'
            exact (nomatch ho'), fun a ob u ho' => by
            rw [upd_ne]
            exact x15.lk a ob u ho'
            intro z
            subst z
            rw [hD1] at ho'
            exact (nomatch ho')⟩
        · rw [List.length_append]
          simp
          omega
        · have e5 := ((e3.mono s3 x4).mono s4 x5)
          exact ⟨e5.len, fun i w h => let ⟨v, h1, h2⟩ := e5.at_ i w h; ⟨v, h1, h2.keep (Kt.side hD5.1)⟩⟩
        · rw [List.append_assoc]
          rw [hrest] at hys
          exact hys
      | false =>
        cases hf1
        show ∃ m', _
        refine ⟨_, rfl, hlt, io4, _, acc, accW, rest', x14, s4, hD4.1, hD4.2, (ra.mono s2 x3).mono s3 x4, by omega, e3.mono s3 x4, hrun', ?_⟩
        rw [hrest] at hys
        exact hys
  · have hi3 : i = items.length := by omega
    subst hi3
    rw [List.drop_length] at hrun
    obtain ⟨hok, rfl, rfl⟩ := lcL_nil hrun
    refine .inl ⟨(hJ items.length io2 H2 _ x2 s2 hok).2 rfl, ?_⟩
    rw [List.append_nil] at hys
    subst hys
    have xD : Ex io1 H1 (io2 ++ [D1]) H2 := ⟨by obtain ⟨l, hl⟩ := x2.pre; exact ⟨l ++ [D1], by rw [hl, List.append_assoc]⟩, fun a o ha ho' => by
      obtain ⟨z1, z2⟩ := x2.fr a o ha ho'
      refine ⟨z1, fun z => ?_⟩
      rcases List.mem_append.mp z with z | z
      · exact z2 z
      · rw [List.mem_singleton.mp z, hD1] at ho'
        exact (nomatch ho'), x2.lk⟩
    have sD := s2.adopt2 (o := .lst accW) hD nD (.lst ra)
    exact p _ _ _ xD sD (.ref (by rw [← s2.len]; simp))
theorem lc_rd (ho : own.map (·.2) = tgSlots tg) {Q : VK} (h : tr X.K X.mg Wx (den D (.lc ie tg it ic)) σ H Q) : tLc (trI X.K X.mg Wx (denI D it)) (gTg X.K tg) (trT X.K X.mg WxF (test D ic)) (tr X.K X.mg WxF (den D ie)) (own.map (·.2)) σ H Q := by
  obtain ⟨io, S, r, s, e, p⟩ := h
  rw [den] at p
  refine ⟨io, S, r, s, e, ?_⟩
  cases hq : denI D it r S with
  | exc z S1 => rw [hq] at p; exact p
  | err => rw [hq] at p; exact p
  | ok q S1 =>
    rw [hq] at p
    intro io1 H1 x1 s1 J hJ
    have p : Po X.K X.mg Wx (Rep X.K X.mg) (if !fits q.items.length then .err else (lcL q.ok (lcF D ie tg ic r) q.items S1).bind fun ys s6 => newL ys s6) io H σ Q := p
    by_cases hf : (!fits q.items.length) = true
    · rw [if_pos hf] at p; exact p.elim
    rw [if_neg hf] at p
    have hf : fits q.items.length = true := by simpa using hf
    cases hl : lcL q.ok (lcF D ie tg ic r) q.items S1 with
    | exc z S2 => exact absurd hl lcL_noexc
    | err => rw [hl] at p; exact p.elim
    | ok ys S2 =>
      rw [hl] at p
      exact lc_rdG ho s1 (e.mono s x1) hJ hf hl fun io' b H' x' s' r' => p io' b H' (x1.trans x') s' r'
theorem pv_lc (hc : X.calm = true) (hN : X.N.Nodup) (hi : PIV X D Wx te ti it) (ok : BlkOk X.N X.env.scope scope own) (ho : own.map (·.2) = tgSlots tg)
    (hg : ∀ (s : Shared) (H : Hp) (C : Addr) (cl : List (Str × Addr)) (fp : List Addr), PGV (X.blk s H scope (compEnvC scope cl C X.env) fp) te tg)
    (ht : ∀ (s : Shared) (H : Hp) (C : Addr) (cl : List (Str × Addr)) (fp : List Addr), PTs (X.blk s H scope (compEnvC scope cl C X.env) fp) ifs (trT X.K X.mg WxF (test D ic)))
    (he : ∀ (s : Shared) (H : Hp) (C : Addr) (cl : List (Str × Addr)) (fp : List Addr), PV (X.blk s H scope (compEnvC scope cl C X.env) fp) D WxF elt ie) (hs : notSet ti = true) :
    PV X D Wx (.ListComp elt [⟨te, ti, ifs, 0⟩] scope pos) (.lc ie tg it ic) :=
  peMono (pe_lc (g := gTg X.K tg) (tt := trT X.K X.mg WxF (test D ic)) (te := tr X.K X.mg WxF (den D ie)) hc hN hi ok hg ht he (set_of hs)) fun σ H Q h => lc_rd ho h
end
end Vm
set_option Elab.async false
set_option linter.all false
set_option maxRecDepth 100000
set_option maxHeartbeats 2000000
/-! f-strings, str of an instance, join, reversed lists. -/
namespace Vm
open PySem L2
section
variable {X : Cx} {D : Wd} {Wx : WX} {a b : Expr} {ia : IE} {pos p : Pos}
theorem pv_fmt (ha : PV X D Wx a ia) : PV X D Wx (.FormattedValue a (-1) none pos) (.fmt ia) := peMono (pe_fmt ha) fun σ H Q ⟨io, S, r, s, e, p⟩ => by
  rw [den] at p
  refine ⟨io, S, r, s, e, p.bind fun x S1 io1 v H1 _ x1 s1 r1 p1 => ?_⟩
  cases r1 with
  | str y =>
    have p1 : Po X.K X.mg Wx (Rep X.K X.mg) (if fits y.length then .ok (.str y) S1 else .err) io1 H1 σ Q := p1
    by_cases hf : fits y.length = true
    · rw [if_pos hf] at p1
      exact .inl ⟨y, rfl, fits_le hf, p1.now s1 (.str _)⟩
    · rw [if_neg hf] at p1; exact p1.elim
  | int i =>
    have p1 : Po X.K X.mg Wx (Rep X.K X.mg) (if decide (i.natAbs.log2 < 1920) then .ok (.str (Str.ofString (toString i))) S1 else .err) io1 H1 σ Q := p1
    by_cases hf : decide (i.natAbs.log2 < 1920) = true
    · rw [if_pos hf] at p1
      exact .inr ⟨i, rfl, of_decide_eq_true hf, p1.now s1 (.str _)⟩
    · rw [if_neg hf] at p1; exact p1.elim
  | _ => exact p1.elim
/-- the parts of an f-string -/
inductive PVJ (X : Cx) (D : Wd) (Wx : WX) : List Expr → IL → Prop
  | nil : PVJ X D Wx [] .nil
  | cons {e : Expr} {i : IE} {es : List Expr} {l : IL} (h : PV X D Wx e i) (r : PVJ X D Wx es l) : PVJ X D Wx (e :: es) (.cons i l)
theorem pj_of {es : List Expr} {l : IL} (h : PVJ X D Wx es l) : ∃ ts, PJ X es ts ∧ ∀ (acc : Str) (σ : L2.St) (H : Hp) (Q : VK) (io : List Addr) (S : Vs) (r : Rho), Sim X.K X.mg io H S → RepE X.K X.mg io H r σ → Po X.K X.mg Wx (Rep X.K X.mg) (denJ D l acc r S) io H σ Q → tJs ts acc σ H fun out H1 => Q (.str out) H1 := by
  induction h with
  | nil => exact ⟨[], .nil, fun acc σ H Q io S r s e p => by
      rw [denJ] at p
      exact p.now s (.str acc)⟩
  | @cons e i es l h r ih =>
    obtain ⟨ts, k1, k2⟩ := ih
    refine ⟨_ :: ts, .cons h k1, fun acc σ H Q io S r s e p => ?_⟩
    rw [denJ] at p
    refine ⟨io, S, r, s, e, p.bind fun x S1 io1 v H1 _ x1 s1 r1 p1 => ?_⟩
    cases r1 with
    | str y =>
      have p1 : Po X.K X.mg Wx (Rep X.K X.mg) (if fits (acc ++ y).length then denJ D l (acc ++ y) r S1 else .err) io1 H1 σ Q := p1
      by_cases hf : fits (acc ++ y).length = true
      · rw [if_pos hf] at p1
        exact ⟨y, rfl, fits_le hf, k2 _ σ H1 Q io1 S1 r s1 (e.mono s x1) p1⟩
      · rw [if_neg hf] at p1; exact p1.elim
    | _ => exact p1.elim
theorem pv_fst {es : List Expr} {l : IL} (h : PVJ X D Wx (a :: b :: es) l) : PV X D Wx (.JoinedStr (a :: b :: es) pos) (.fst l) := by
  obtain ⟨ts, k1, k2⟩ := pj_of h
  exact peMono (pe_joined k1) fun σ H Q ⟨io, S, r, s, e, p⟩ => by
    rw [den] at p
    exact k2 Str.empty σ H Q io S r s e p
/-! ### str of an instance -/
def rOstr (X : Cx) (D : Wd) (Wx : WX) (c : Str) (C : Addr) : List V → Hp → VK → Prop := fun xs H Q => ∃ io S σ0 x q dx fs, xs = [.ref q] ∧ Sim X.K X.mg io H S ∧ Rep X.K X.mg io H x (.ref q) ∧ H q = some (.ins C dx fs) ∧
  Po X.K X.mg Wx (Rep X.K X.mg) (D.fe c "__str__" [x] S) io H σ0 fun z H' => ∃ y, z = .str y ∧ Q (.str y) H'
theorem call_ostr {lv : Nat} {c : Str} {C fa : Addr} {fd : FuncData} {ps : List Str} {d : Fd} {F : List W → Vs → Out W} (cl : Cls X.K C) (hmt : Meth X.K C "__str__" fa) (FO : FnOk X.prog X.w X.K X.mg X.base (L2N.CX X.prog X.w) lv fa fd ps (spRun X.K X.mg d.np F)) (dk : DefOk X.K fd ps d) (hd : d.np = 1)
    (hF : ∀ ws s, D.fe c "__str__" ws s = callD d F ws s) (tk : L2N.Takes X Wx) (fw : Flat Wx) (hr : Room (lv + 2) X.A) : CallR X (.type "str") (rOstr X D Wx c C) := by
  intro pins s σ H xs us Q I r h
  obtain ⟨io, S, σ0, x, q, dx, fs, ex, sm, rx, hi, p⟩ := h
  subst ex
  match us, r with
  | [_], .cons (.refl _) .nil =>
    have p := po_flat fw (σ' := σ) p
    have sb : Sub X lv X.A.in1.in1 := (Sub.in1 (n := lv + 1) ⟨hr, rfl⟩ |> fun z : Sub X (lv + 1) X.A.in1 => z.in1)
    obtain ⟨mA, J, _⟩ := ins_get I.hok hi
    obtain ⟨od, J, _⟩ := J.look
    rw [hF] at p
    obtain ⟨us, hu', p⟩ := callD_po (α := V) p
    obtain ⟨h1, h2, e2, e3⟩ := argsOf_some hu'
    obtain ⟨ds, dvs, hbn, hvd, hc⟩ := dk.bind 1 (by omega) (by omega)
    have e4 : us = [x] := by
      rw [e2]
      rw [show d.dfl.drop (d.dfl.length - (d.np - [x].length)) = [] by rw [List.drop_eq_nil_of_le]; show d.dfl.length ≤ d.dfl.length - (d.np - 1); omega, List.append_nil]
    subst e4
    rw [show d.dfl.drop (d.dfl.length - (d.np - 1)) = [] by rw [List.drop_eq_nil_of_le]; omega] at hc
    cases hc
    cases hvd
    have hsp : spRun X.K X.mg d.np F [.ref q] H (fun z H' => ∃ y, z = .str y ∧ Q (.str y) H') (fun cls d H => ∀ σ, Wx cls d σ H) := by
      refine ⟨io, S, [x], sm, .cons rx .nil, hd.symm, ?_⟩
      cases hq : F [x] S with
      | ok w S' => rw [hq] at p; exact p
      | exc y S' => rw [hq] at p; exact fun io' H' cls d x' s' r' σ' => fw _ _ _ _ _ (p io' H' cls d x' s' r')
      | err => rw [hq] at p; exact p
    have e0 : Env0 X.prog X.w X.K X.mg X.base X.A.in1.in1 X.stack s H := by
      have e := I.env0
      exact ⟨by rw [sb.fr]; exact e.frames, e.mod, e.bs, e.bsz, e.funs, e.frf, e.hok, e.bare⟩
    have hl := FO.len _ _ _ _ hsp
    refine PySem.W.kso_call sb.room.units0 I.kIn J hmt.at_ hmt.fn (wpAny_call (codeAny_mono (FO.run _ X.stack s H ⟨[.ref q], []⟩ [.ref q] [.ref q] _ _ sb.room e0 (by
      have := hbn s [.ref q] I.kIn (by simpa using hl)
      simpa using this) (.cons rfl .nil) hsp) fun r s' hq => ?_))
    cases r with
    | error e => exact passFlat tk pins σ H s e s' I hq
    | ok fl =>
      cases fl with
      | ret w =>
        obtain ⟨z, H', J', rz, y, ez, qy⟩ := I.after hq
        subst ez
        obtain ⟨t, rfl⟩ := rz
        exact ⟨.str y, H', J', ⟨t, rfl⟩, qy⟩
      | next => exact False.elim hq
      | brk => exact False.elim hq
      | cont => exact False.elim hq
theorem pv_ostr {lv : Nat} {c : Str} {C fa : Addr} {fd : FuncData} {ps : List Str} {d : Fd} {F : List W → Vs → Out W} (cl : Cls X.K C) (hmt : Meth X.K C "__str__" fa) (FO : FnOk X.prog X.w X.K X.mg X.base (L2N.CX X.prog X.w) lv fa fd ps (spRun X.K X.mg d.np F)) (dk : DefOk X.K fd ps d) (hd : d.np = 1)
    (hF : ∀ ws s, D.fe c "__str__" ws s = callD d F ws s) (tk : L2N.Takes X Wx) (fw : Flat Wx) (hr : Room (lv + 2) X.A) (mc : X.mg c = some (.ref C)) (hg : Gl X "str") (hm : X.mg "str" = none) (hs : notStar a = true) (ha : PV X D Wx a ia) : PV X D Wx (.Call (.Name "str" p) [a] [] pos) (.ostr c ia) :=
  peMono (pe_callTy (call_ostr (D := D) (c := c) cl hmt FO dk hd hF tk fw hr) hg hm (by decide +kernel) (pa_cons ha pa_nil (star_of hs)) (by decide) (by decide) (star_of hs) rfl) fun σ H Q ⟨io, S, r, s, e, p⟩ => by
    rw [den] at p
    refine ⟨io, S, r, s, e, p.bind fun x S1 io1 v H1 _ x1 s1 r1 p1 => ?_⟩
    by_cases ho : ownOk c "__str__" x S1 = true
    · rw [if_pos ho] at p1
      obtain ⟨q, dx, fs, rfl, h2, h3⟩ := own_ok mc s1 r1 ho
      refine ⟨io1, S1, σ, x, q, dx, fs, rfl, s1, r1, h2, ?_⟩
      cases hf : D.fe c "__str__" [x] S1 with
      | ok w S2 =>
        rw [hf] at p1
        intro io2 z H2 x2 s2 rz
        cases w with
        | str y =>
          cases rz
          exact ⟨y, rfl, p1 io2 _ H2 x2 s2 (.str y)⟩
        | _ => exact p1.elim
      | exc y S2 => rw [hf] at p1; exact p1
      | err => rw [hf] at p1; exact p1.elim
    · rw [if_neg ho] at p1; exact p1.elim
end
end Vm
set_option Elab.async false
set_option linter.all false
set_option maxRecDepth 100000
set_option maxHeartbeats 2000000
/-! Lists turned round; texts joined. -/
namespace Vm
open PySem L2
section
variable {X : Cx} {D : Wd} {Wx : WX} {a b : Expr} {ia ib : IE} {pos p : Pos}
theorem Reps.reverse {K : Fg} {mg : Mg} {io : List Addr} {H : Hp} : ∀ {l : List W} {xs : List V}, Reps K mg io H l xs → Reps K mg io H l.reverse xs.reverse
  | _, _, .nil => .nil
  | _, _, .cons r t => by
    rw [List.reverse_cons, List.reverse_cons]
    exact (Reps.reverse t).append (.cons r .nil)
theorem rev_ok {x : W} {v : V} {io : List Addr} {H : Hp} {S : Vs} {σ : L2.St} {Q : VK} (s : Sim X.K X.mg io H S) (rx : Rep X.K X.mg io H x v) (p : Po X.K X.mg Wx (Rep X.K X.mg) (revV x S) io H σ Q) : ∃ a xs, v = .ref a ∧ SqL X.K H a xs ∧ ∀ p, H p = none → Q (.ref p) (upd H p (.lst xs.reverse)) := by
  cases rx with
  | ref h =>
    rename_i n q
    have p : Po X.K X.mg Wx (Rep X.K X.mg) (match lstAt S n with
      | some l => newL l.reverse S
      | none => .err) io H σ Q := p
    split at p
    · rename_i l e1
      obtain ⟨xs, hx, r⟩ := s.lst h (lstAt_of e1)
      exact ⟨q, xs, rfl, SqL.of hx, fun t ht => s.nu _ _ r.reverse p t ht⟩
    · exact p.elim
  | _ => exact p.elim
theorem pv_rev {k : Nat} {p1 p2 p3 : Pos} (ha : PV X D Wx a ia) : PV X D Wx (.Subscript a (.Slice none none (some (.UnaryOp .USub (.Constant (.int 1) k p1) p2)) p3) pos) (.rev ia) := peMono (pe_revL ha) fun σ H Q ⟨io, S, r, s, e, p⟩ => by
  rw [den] at p
  exact ⟨io, S, r, s, e, p.bind fun x S1 io1 v H1 _ x1 s1 r1 p1 => rev_ok s1 r1 p1⟩
theorem ty_strW {x : W} {s : Vs} (h : tyV x s = some "str") : ∃ y, x = .str y := by
  cases x with
  | str y => exact ⟨y, rfl⟩
  | ref n =>
    have h : (match s[n]? with | some (.lst _) => some "list" | some (.dct _) => some "dict" | some (.dtt _) => some "dict" | _ => none) = some "str" := h
    exfalso
    split at h <;> (revert h; decide)
  | non => exact absurd (Option.some.inj h) (by decide)
  | bl b => exact absurd (Option.some.inj h) (by decide)
  | int b => exact absurd (Option.some.inj h) (by decide)
  | tup b => exact absurd (Option.some.inj h) (by decide)
  | _ => cases h
theorem recv_str {x : W} {s : Vs} (hr : recvOk "join" x s = true) : ∃ y, x = .str y := by
  unfold recvOk at hr
  rw [show mtTy "join" = some "str" by decide +kernel] at hr
  cases ht : tyV x s with
  | none => rw [ht] at hr; cases hr
  | some t =>
    rw [ht] at hr
    have e : "str" = t := of_decide_eq_true hr
    subst e
    exact ty_strW ht
theorem strs_rep {K : Fg} {mg : Mg} {io : List Addr} {H : Hp} : ∀ {l : List W} {xs : List V} {ys : List Str}, strsW l = some ys → Reps K mg io H l xs → xs = ys.map V.str
  | [], _, _, h, r => by
    cases h
    cases r
    rfl
  | w :: l, _, _, h, .cons r t => by
    cases w with
    | str y =>
      have h : (strsW l).map (y :: ·) = some _ := h
      obtain ⟨zs, hz, rfl⟩ := Option.map_eq_some_iff.mp h
      cases r
      rw [strs_rep hz t]
      rfl
    | _ => cases h
theorem join_po {y : Str} {l : List W} {xs : List V} {pa : Addr} {io : List Addr} {H : Hp} {S : Vs} {σ : L2.St} {Q : VK} (s : Sim X.K X.mg io H S) (r : Reps X.K X.mg io H l xs) (hp : SqL X.K H pa xs ∨ SqT X.K H pa xs)
    (p : Po X.K X.mg Wx (Rep X.K X.mg) (joinL y l S) io H σ Q) : ∃ a p, ∃ ys : List Str, V.str y = .str a ∧ [V.ref pa] = [.ref p] ∧ (SqL X.K H p (ys.map V.str) ∨ SqT X.K H p (ys.map V.str)) ∧
    (ys.map (·.length)).sum + ys.length * a.length ≤ 16777216 ∧ Q (.str (Txt.join a ys)) H := by
  unfold joinL at p
  cases e : strsW l with
  | none => rw [e] at p; exact p.elim
  | some ys =>
    rw [e] at p
    have p : Po X.K X.mg Wx (Rep X.K X.mg) (if decide ((ys.map (·.length)).sum + ys.length * y.length ≤ 16777216) = true then .ok (.str (Str.join y ys)) S else .err) io H σ Q := p
    by_cases hf : decide ((ys.map (·.length)).sum + ys.length * y.length ≤ 16777216) = true
    · rw [if_pos hf] at p
      have ex := strs_rep e r
      subst ex
      refine ⟨y, pa, ys, rfl, rfl, hp, of_decide_eq_true hf, ?_⟩
      rw [show Txt.join y ys = Str.join y ys from TL.join_eq y ys]
      exact p.now s (.str _)
    · rw [if_neg hf] at p; exact p.elim
theorem jn_ok {y : Str} {z : W} {u : V} {io : List Addr} {H : Hp} {S : Vs} {σ : L2.St} {Q : VK} (s : Sim X.K X.mg io H S) (rx : Rep X.K X.mg io H z u) (p : Po X.K X.mg Wx (Rep X.K X.mg) (joinV (.str y) [z] S) io H σ Q) : ∃ a p, ∃ ys : List Str, V.str y = .str a ∧ [u] = [.ref p] ∧ (SqL X.K H p (ys.map V.str) ∨ SqT X.K H p (ys.map V.str)) ∧
    (ys.map (·.length)).sum + ys.length * a.length ≤ 16777216 ∧ Q (.str (Txt.join a ys)) H := by
  cases rx with
  | ref h =>
    rename_i n q
    have p : Po X.K X.mg Wx (Rep X.K X.mg) (match lstAt S n with
      | some l => joinL y l S
      | none => .err) io H σ Q := p
    split at p
    · rename_i l e1
      obtain ⟨xs, hx, r⟩ := s.lst h (lstAt_of e1)
      exact join_po s r (.inl (SqL.of hx)) p
    · exact p.elim
  | tup h r =>
    rename_i l q xs
    have p : Po X.K X.mg Wx (Rep X.K X.mg) (joinL y l S) io H σ Q := p
    exact join_po s r (.inr h) p
  | _ => exact p.elim
theorem pv_join {apos : Pos} (ha : PV X D Wx a ia) (hb : PV X D Wx b ib) (hs : starEach [b] X.env = [(false, eval b X.env)]) (hbase : attributeBase a "join" X.env (eval a X.env) = eval a X.env) (hline : (apos.endLine == pos.line) = true) :
    PV X D Wx (.Call (.Attribute a "join" apos) [b] [] pos) (.meth ia "join" (.cons ib .nil)) := peMono (pe_join ha hb hs hbase hline) fun σ H Q ⟨io, S, r, s, e, p⟩ => by
  rw [den] at p
  refine ⟨io, S, r, s, e, p.bind fun x S1 io1 v H1 _ x1 s1 r1 p1 => ?_⟩
  by_cases hr : recvOk "join" x S1 = true
  · rw [if_pos hr] at p1
    have hy := recv_str hr
    obtain ⟨y, rfl⟩ := hy
    cases r1
    refine ⟨⟨y, rfl⟩, ?_⟩
    rw [denL] at p1
    refine ⟨io1, S1, r, s1, e.mono s x1, ?_⟩
    exact p1.assoc.bind fun z S2 io2 u H2 _ x2 s2 r2 p2 => by
      rw [denL, bind_ok, bind_ok, mtV_join] at p2
      exact jn_ok s2 r2 p2
  · rw [if_neg hr] at p1; exact p1.elim
/-! ### C(k = v, ..) -/
abbrev PKV (X : Cx) (D : Wd) (Wx : WX) (es : List Expr) (l : IL) : Prop := ∀ kws : List Keyword, kws.map (·.value) = es → PK X kws (trA X.K X.mg Wx (denL D l))
theorem pkMono {kws : List Keyword} {t t' : TA} (h : PK X kws t) (k : ∀ σ H Q, t' σ H Q → t σ H Q) : PK X kws t' := ⟨fun pos pins s σ H Q I q => h.run pos pins s σ H Q I (k σ H Q q)⟩
theorem pkv_nil : PKV X D Wx [] .nil := fun kws e => by
  cases List.map_eq_nil_iff.mp e
  exact pkMono pk_nil fun σ H Q ⟨io, S, r, s, e, p⟩ => by
    rw [denL] at p
    exact p.now s .nil
theorem pkv_cons {es : List Expr} {l : IL} (ha : PV X D Wx a ia) (hl : PKV X D Wx es l) : PKV X D Wx (a :: es) (.cons ia l) := fun kws e => by
  cases kws with
  | nil => cases e
  | cons k kws =>
    obtain ⟨n, v, kp⟩ := k
    cases e
    exact pkMono (pk_cons ha (hl kws rfl)) fun σ H Q ⟨io, S, r, s, e, p⟩ => by
      rw [denL] at p
      exact ⟨io, S, r, s, e, p.bind fun x S1 io1 v H1 _ x1 s1 r1 p1 => ⟨io1, S1, r, s1, e.mono s x1, p1.bind fun xs S2 io2 vs H2 _ x2 s2 r2 p2 => p2.now s2 (.cons (r1.mono s1 x2) r2)⟩⟩
theorem Reps.pick {K : Fg} {mg : Mg} {io : List Addr} {H : Hp} {l : List W} {xs : List V} (r : Reps K mg io H l xs) : ∀ {pm : List Nat}, (∀ i ∈ pm, i < l.length) → Reps K mg io H (pm.filterMap (l[·]?)) (pm.filterMap (xs[·]?)) ∧ (pm.filterMap (l[·]?)).length = pm.length
  | [], _ => ⟨.nil, rfl⟩
  | i :: pm, h => by
    have hi := h i (List.mem_cons_self ..)
    obtain ⟨v, e, rv⟩ := r.get (List.getElem?_eq_getElem hi)
    obtain ⟨q1, q2⟩ := Reps.pick r (pm := pm) fun j hj => h j (List.mem_cons_of_mem _ hj)
    rw [List.filterMap_cons, List.filterMap_cons, List.getElem?_eq_getElem hi, e]
    exact ⟨.cons rv q1, by rw [List.length_cons, q2]; rfl⟩
theorem keys_names {env : Env} {pos : Pos} : ∀ {kws : List Keyword} {ks : List Str}, kws.map (·.arg) = ks.map some → (backToKw pos (keywordEach kws env)).all (·.1.isSome) = true ∧ (backToKw pos (keywordEach kws env)).filterMap (·.1) = ks ∧ (backToKw pos (keywordEach kws env)).any (·.1.isNone) = false
  | [], [], _ => ⟨rfl, rfl, rfl⟩
  | [], _ :: _, h => by cases h
  | _ :: _, [], h => by cases h
  | ⟨n, v, kp⟩ :: kws, k :: ks, h => by
    rw [List.map_cons, List.map_cons, List.cons.injEq] at h
    obtain ⟨h1, h2⟩ := h
    have h1 : n = some k := h1
    subst h1
    obtain ⟨q1, q2, q3⟩ := keys_names (env := env) (pos := pos) h2
    have e : backToKw pos (keywordEach (⟨some k, v, kp⟩ :: kws) env) = (some k, (do let v ← eval v env; standAt pos; pure v)) :: backToKw pos (keywordEach kws env) := rfl
    rw [e]
    refine ⟨?_, ?_, ?_⟩
    · rw [List.all_cons, q1]; rfl
    · rw [List.filterMap_cons]; show k :: _ = _; rw [q2]
    · rw [List.any_cons, q3]; rfl
theorem pv_makeK {n : Nat} {f : Str} {fa C : Addr} {fd : FuncData} {ps ks : List Str} {pm : List Nat} {d : Fd} {F : List W → Vs → Out W} {kws : List Keyword} {l : IL} (M : Mk X.K C fa) (cl : Cls X.K C)
    (FO : FnOk X.prog X.w X.K X.mg X.base (L2N.CX X.prog X.w) n fa fd ps (spRun X.K X.mg d.np F)) (hr : Room (n + 1) X.A) (tk : L2N.Takes X Wx) (hg : Gl X f) (hm : X.mg f = some (.ref C))
    (hd : (f == ("__debug__" : Str)) = false) (hb : KBn X.K fd ps 1 ks (fun us ws => us ++ pm.filterMap (ws[·]?)) (fun vs zs => vs ++ pm.filterMap (zs[·]?))) (hpm : pm.length + 1 = d.np) (hlt : ∀ i ∈ pm, i < ks.length)
    (hF : ∀ ws s, D.fe Str.empty f ws s = clsD f (callD d F) ws s) (hk : kws.map (·.arg) = ks.map some) (ha : PKV X D Wx (kws.map (·.value)) l) :
    PV X D Wx (.Call (.Name f p) [] kws pos) (.callk f pm ks l) := by
  obtain ⟨k1, k2, k3⟩ := keys_names (env := X.env) (pos := pos) hk
  refine peMono (xpe_makeK (F := WE Wx) M FO hr hg hm hb (passAtN tk) (ha kws rfl) k1 k2 hd (by rw [k3]; rfl)) fun σ H Q ⟨io, S, r, s, e, p⟩ => ?_
  rw [den] at p
  refine ⟨io, S, r, s, e, p.bind fun ws S1 io1 vs H1 ew x1 s1 r1 p1 => ?_⟩
  by_cases hl : ws.length = ks.length
  · rw [if_pos hl, hF] at p1
    obtain ⟨r2, l2⟩ := r1.pick (pm := pm) fun i hi => by rw [hl]; exact hlt i hi
    refine ⟨by rw [← r1.length, hl], fun q dx hq hdx hne => ?_⟩
    have := made_ok (dvs := []) hm cl s1 r2 (by rw [l2, hpm, Nat.sub_self, Nat.sub_zero, List.drop_length]; rfl) p1 q dx hq hdx hne
    rw [List.append_nil] at this
    exact this
  · rw [if_neg hl] at p1; exact p1.elim
end
end Vm
set_option Elab.async false
set_option linter.all false
set_option maxRecDepth 100000
set_option maxHeartbeats 1000000
/-! Statements. -/
namespace Vm
open PySem L2
def PoS (K : Fg) (mg : Mg) (Wx : WX) (o : Fin) (io : List Addr) (H : Hp) (E : Ends) : Prop := match o with
  | .nx r S' => ∀ io' σ' H', Ex io H io' H' → Sim K mg io' H' S' → RepE K mg io' H' r σ' → E.nx σ' H'
  | .rt w S' => ∀ io' v H', Ex io H io' H' → Sim K mg io' H' S' → Rep K mg io' H' w v → E.rt v H'
  | .bk r S' => ∀ io' σ' H', Ex io H io' H' → Sim K mg io' H' S' → RepE K mg io' H' r σ' → E.bk σ' H'
  | .ct r S' => ∀ io' σ' H', Ex io H io' H' → Sim K mg io' H' S' → RepE K mg io' H' r σ' → E.ct σ' H'
  | .exc x r S' => ∀ io' σ' H' cls d, Ex io H io' H' → Sim K mg io' H' S' → RepE K mg io' H' r σ' → RepX K mg io' H' x cls d → Wx cls d σ' H'
  | .err => False
def trS (K : Fg) (mg : Mg) (Wx : WX) (m : Rho → Vs → Fin) : TS := fun E σ H => ∃ io S r, Sim K mg io H S ∧ RepE K mg io H r σ ∧ PoS K mg Wx (m r S) io H E
section
variable {K : Fg} {mg : Mg} {Wx : WX} {io jo : List Addr} {H J : Hp} {S : Vs} {σ : L2.St} {r : Rho} {E : Ends}
theorem PoS.ext {o : Fin} (x : Ex io H jo J) (p : PoS K mg Wx o io H E) : PoS K mg Wx o jo J E := by
  cases o with
  | nx r S' => exact fun io' σ' H' x' => p io' σ' H' (x.trans x')
  | rt w S' => exact fun io' v H' x' => p io' v H' (x.trans x')
  | bk r S' => exact fun io' σ' H' x' => p io' σ' H' (x.trans x')
  | ct r S' => exact fun io' σ' H' x' => p io' σ' H' (x.trans x')
  | exc y r S' => exact fun io' σ' H' cls d x' => p io' σ' H' cls d (x.trans x')
  | err => exact p
/-- an expression's answer, then the rest -/
theorem PoS.fin {α β : Type} {R : List Addr → Hp → α → β → Prop} {o : Out α} {f : α → Vs → Fin} {Y : β → Hp → Prop} (s : Sim K mg io H S) (e : RepE K mg io H r σ) (p : PoS K mg Wx (o.fin r f) io H E)
    (h : ∀ a S1 io1 b H1, o = .ok a S1 → Ex io H io1 H1 → Sim K mg io1 H1 S1 → R io1 H1 a b → PoS K mg Wx (f a S1) io1 H1 E → Y b H1) : Po K mg Wx R o io H σ Y := by
  cases o with
  | ok a S' => exact fun io' b H' x s' q => h a S' io' b H' rfl x s' q (PoS.ext x p)
  | exc y S' => exact fun io' H' cls d x s' q => p io' σ H' cls d x s' (e.mono s x) q
  | err => exact p
end
section
variable {X : Cx} {D : Wd} {Wx : WX} {a b c e : Expr} {ia ib ic ie : IE} {pos : Pos}
abbrev PSV (X : Cx) (D : Wd) (Wx : WX) (st : Stmt) (i : IS) : Prop := PS X st (trS X.K X.mg Wx (denS D i))
abbrev PSVs (X : Cx) (D : Wd) (Wx : WX) (st : List Stmt) (i : IB) : Prop := PSs X st (trS X.K X.mg Wx (denB D i))
theorem psMono {st : Stmt} {t t' : TS} (h : PS X st t) (k : ∀ E σ H, t' E σ H → t E σ H) : PS X st t' := ⟨fun pins s σ H E I q => h.run pins s σ H E I (k E σ H q)⟩
theorem pssMono {st : List Stmt} {t t' : TS} (h : PSs X st t) (k : ∀ E σ H, t' E σ H → t E σ H) : PSs X st t' := ⟨fun pins s σ H E I q => h.run pins s σ H E I (k E σ H q)⟩
theorem psv_nil : PSVs X D Wx [] .nil := pssMono pss_nil fun E σ H ⟨io, S, r, s, e, p⟩ => by
  rw [denB] at p
  exact p io σ H (Ex.refl _ _) s e
theorem psv_cons {st : Stmt} {l : List Stmt} {i : IS} {il : IB} (h : PSV X D Wx st i) (hl : PSVs X D Wx l il) : PSVs X D Wx (st :: l) (.cons i il) := pssMono (pss_cons h hl) fun E σ H ⟨io, S, r, s, e, p⟩ => ⟨io, S, r, s, e, by
  rw [denB] at p
  cases ho : denS D i r S with
  | nx r' S' =>
    rw [ho] at p
    exact fun io' σ' H' x s' e' => ⟨io', S', r', s', e', PoS.ext x p⟩
  | rt w S' => rw [ho] at p; exact p
  | bk r' S' => rw [ho] at p; exact p
  | ct r' S' => rw [ho] at p; exact p
  | exc y r' S' => rw [ho] at p; exact p
  | err => rw [ho] at p; exact p⟩
theorem psv_pass : PSV X D Wx (.Pass pos) .pass := psMono ps_pass fun E σ H ⟨io, S, r, s, e, p⟩ => by
  rw [denS] at p
  exact p io σ H (Ex.refl _ _) s e
/-- what is not reached -/
theorem psv_rse {st : Stmt} {cl : Str} (h : (xTab.lookup cl).isNone = true) : PSV X D Wx st (.rse cl .nil) := psMono ps_never fun E σ H ⟨io, S, r, s, e, p⟩ => by
  rw [denS, denL] at p
  have p : PoS X.K X.mg Wx (match xMake cl [] with
    | some x => .exc x r S
    | none => .err) io H E := p
  unfold xMake at p
  rw [Option.isNone_iff_eq_none.mp h] at p
  exact p
theorem asg_rd {i : Nat} {te : TE} {E : Ends} {σ : L2.St} {H : Hp} (hte : ∀ Q, tr X.K X.mg Wx (den D ie) σ H Q → te σ H Q) (h : trS X.K X.mg Wx (denS D (.asg i ie)) E σ H) : tAsg te (gName i) E σ H := by
  obtain ⟨io, S, r, s, e, p⟩ := h
  rw [denS] at p
  exact hte _ ⟨io, S, r, s, e, p.fin s e fun w S1 io1 v H1 _ x1 s1 r1 p1 => p1 io1 _ H1 (Ex.refl _ _) s1 ((e.mono s x1).set r1 i)⟩
theorem psv_asg {i : Nat} {n : Str} {p2 : Pos} (hN : X.N.Nodup) (hi : X.N[i]? = some n) (hx : Loc X.env.scope n) (hf : X.fn n = true ∨ X.env.scope.names.lookup n = some .local) (hs : swapsWith e (some (.Name n p2)) pos.line X.env = pure false) (he : PV X D Wx e ie) :
    PSV X D Wx (.Assign [.Name n p2] e pos) (.asg i ie) := psMono (ps_set hN hi hx he hs hf) fun E σ H h => asg_rd (fun _ q => q) h
theorem psv_exp (hs : notComp e = true) (he : PV X D Wx e ie) : PSV X D Wx (.Expr e pos) (.exp ie) := psMono (ps_expr he (comp_of hs)) fun E σ H ⟨io, S, r, s, e, p⟩ => by
  rw [denS] at p
  exact ⟨io, S, r, s, e, p.fin s e fun w S1 io1 v H1 _ x1 s1 r1 p1 => p1 io1 σ H1 (Ex.refl _ _) s1 (e.mono s x1)⟩
theorem psv_ret (he : PV X D Wx e ie) : PSV X D Wx (.Return (some e) pos) (.ret ie) := psMono (ps_ret he) fun E σ H ⟨io, S, r, s, e, p⟩ => by
  rw [denS] at p
  exact ⟨io, S, r, s, e, p.fin s e fun w S1 io1 v H1 _ x1 s1 r1 p1 => p1 io1 v H1 (Ex.refl _ _) s1 r1⟩
theorem psv_retN : PSV X D Wx (.Return none pos) .retN := psMono ps_retN fun E σ H ⟨io, S, r, s, e, p⟩ => by
  rw [denS] at p
  exact p io .non H (Ex.refl _ _) s .non
theorem psv_ifs {l m : List Stmt} {il im : IB} (hc : PTV X D Wx c ic) (hl : PSVs X D Wx l il) (hm : PSVs X D Wx m im) : PSV X D Wx (.If c l m pos) (.ifs ic il im) := psMono (ps_if hc hl hm) fun E σ H ⟨io, S, r, s, e, p⟩ => by
  rw [denS] at p
  refine ⟨io, S, r, s, e, p.fin s e fun t S1 io1 t' H1 _ x1 s1 ht p1 => ?_⟩
  subst ht
  cases t with
  | true => exact ⟨io1, S1, r, s1, e.mono s x1, p1⟩
  | false => exact ⟨io1, S1, r, s1, e.mono s x1, p1⟩
/-! ### stores to fields, items; several targets -/
theorem putW_rep {K : Fg} {mg : Mg} {io : List Addr} {H : Hp} {f : Str} {w : W} {v : V} (q : Rep K mg io H w v) {l : List (Str × W)} {xs : List (Str × V)} (r : RepP K mg io H l xs) : RepP K mg io H (putW f w l) (putF f v xs) := by
  induction r with
  | nil => exact .cons q .nil
  | cons q' t ih =>
    rename_i k w' v' l xs
    show RepP K mg io H (if k = f then (k, w) :: l else (k, w') :: putW f w l) (if k = f then (k, v) :: xs else (k, v') :: putF f v xs)
    by_cases h : k = f
    · rw [if_pos h, if_pos h]; exact .cons q t
    · rw [if_neg h, if_neg h]; exact .cons q' ih
theorem putW_keys {f g : Str} {w : W} : ∀ {l : List (Str × W)}, g ∈ (putW f w l).map (·.1) → g = f ∨ g ∈ l.map (·.1)
  | [], h => by simp [putW] at h; exact .inl h
  | (k, x) :: l, h => by
    unfold putW at h
    split at h
    · exact .inr (by simpa using h)
    · rw [List.map_cons] at h
      rcases List.mem_cons.mp h with h | h
      · exact .inr (by rw [h]; simp)
      · rcases putW_keys h with h | h
        · exact .inl h
        · exact .inr (List.mem_cons_of_mem _ h)
/-- the fields that may be stored are no attributes of their class -/
def FlOk (K : Fg) (mg : Mg) (fl : Str → List Str) : Prop := ∀ c f, f ∈ fl c → ∀ C, mg c = some (.ref C) → NoAttr K C f
theorem sole_fld {o : Expr} {f : Str} {p : Pos} {l : Nat} {env : Env} : swapsWith e (some (.Attribute o f p)) l env = pure false := by cases e <;> rfl
theorem psv_sfld {f : Str} {p2 : Pos} (fk : FlOk X.K X.mg D.fl) (ha : PV X D Wx a ia) (he : PV X D Wx e ie) : PSV X D Wx (.Assign [.Attribute a f p2] e pos) (.sfld ia f ie) := psMono (ps_fld ha he sole_fld) fun E σ H ⟨io, S, r, s, e, p⟩ => by
  rw [denS] at p
  refine ⟨io, S, r, s, e, p.fin s e fun y S1 io1 u H1 _ x1 s1 r1 p1 => ⟨io1, S1, r, s1, e.mono s x1, p1.fin s1 (e.mono s x1) fun x S2 io2 v H2 _ x2 s2 r2 p2 => ?_⟩⟩
  cases r2 with
  | @ref n q h =>
    have p2 : PoS X.K X.mg Wx (match (match S2[n]? with
      | some (.ins c fs) => if decide (fs.length < 1000) && (D.fl c).contains f then some (S2.set n (.ins c (putW f y fs))) else none
      | _ => none) with
      | some s3 => .nx r s3
      | none => .err) io2 H2 E := p2
    split at p2
    · rename_i s3 e3
      split at e3
      · rename_i c fs e1
        split at e3
        · rename_i hf
          cases e3
          rw [Bool.and_eq_true] at hf
          obtain ⟨C, dx, fv, h1, h2, h3, h4, h5⟩ := s2.ins h e1
          have hcf : f ∈ D.fl c := by simpa using hf.2
          have na := fk c f hcf C h2
          have hm : q ∈ io2 := List.mem_iff_getElem?.mpr ⟨n, h⟩
          exact ⟨q, C, dx, fv, rfl, h1, h3, na, by rw [← repP_len h5]; exact of_decide_eq_true hf.1, p2 io2 σ _ (Ex.write hm (nf_of h1 trivial)) (s2.write h (nf_of h1 trivial) (.ins h2 h3 (fun g hg => by rcases putW_keys hg with z | z; (rw [z]; exact na); exact h4 g z) (putW_rep (r1.mono s1 x2) h5))) (((e.mono s x1).mono s1 x2).mono s2 (Ex.write hm (nf_of h1 trivial)))⟩
        · cases e3
      · cases e3
    · exact p2.elim
  | _ => exact p2.elim
/-! ### dicts, to be written -/
theorem putD_rep {K : Fg} {mg : Mg} {io : List Addr} {H : Hp} {k : Key} {w : W} {v : V} (q : Rep K mg io H w v) {l : List (Key × W)} {xs : List (Key × V)} (r : RepP K mg io H l xs) : RepP K mg io H (putD l k w) (putK xs k v) := by
  have hany : ∀ {l : List (Key × W)} {xs : List (Key × V)}, RepP K mg io H l xs → (l.any fun p => decide (p.1 = k)) = (xs.any fun p => decide (p.1 = k)) := fun {l xs} r => by
    induction r with
    | nil => rfl
    | cons _ _ ih => rw [List.any_cons, List.any_cons, ih]
  have hmap : ∀ {l : List (Key × W)} {xs : List (Key × V)}, RepP K mg io H l xs → RepP K mg io H (l.map fun p => if p.1 = k then (p.1, w) else p) (xs.map fun p => if p.1 = k then (p.1, v) else p) := fun {l xs} r => by
    induction r with
    | nil => exact .nil
    | @cons k' w' v' l xs q' t ih =>
      rw [List.map_cons, List.map_cons]
      by_cases h : k' = k
      · rw [if_pos h, if_pos h]; exact .cons q ih
      · rw [if_neg h, if_neg h]; exact .cons q' ih
  have happ : ∀ {l : List (Key × W)} {xs : List (Key × V)}, RepP K mg io H l xs → RepP K mg io H (l ++ [(k, w)]) (xs ++ [(k, v)]) := fun {l xs} r => by
    induction r with
    | nil => exact .cons q .nil
    | cons q' _ ih => exact .cons q' ih
  unfold putD putK
  rw [hany r]
  split
  · exact hmap r
  · exact happ r
theorem nodct {S : Vs} {x k w : W} (h : isDct x S = false) : setD x k w S = none := by
  have e : dctW S x = none := by
    cases x with
    | ref n =>
      have h : (match S[n]? with
        | some (.dct l) => some l
        | some (.lck (.dct l)) => some l
        | _ => none).isSome = false := h
      show (match S[n]? with
        | some (.dct l) => some (n, l)
        | _ => none) = none
      split
      · rename_i e; rw [e] at h; cases h
      · rfl
    | _ => rfl
  unfold setD
  rw [e]
theorem setD_of {S : Vs} {x k w : W} (h : isDct x S = true) : setV x k w S = setD x k w S := by
  cases x with
  | ref n =>
    have h : (match S[n]? with
      | some (.dct l) => some l
      | some (.lck (.dct l)) => some l
      | _ => none).isSome = true := h
    cases k with
    | int i =>
      show (match S[n]? with
        | some (.lst l) => (match ixN l.length i with
          | some j => some (S.set n (.lst (l.set j w)))
          | none => none)
        | _ => setD (.ref n) (.int i) w S) = _
      split
      · rename_i e; rw [e] at h; cases h
      · rfl
    | str z => rfl
    | non => unfold setD; show none = _; split <;> first | rfl | (rename_i e; cases e)
    | bl _ => unfold setD; show none = _; split <;> first | rfl | (rename_i e; cases e)
    | tup _ => unfold setD; show none = _; split <;> first | rfl | (rename_i e; cases e)
    | ref _ => unfold setD; show none = _; split <;> first | rfl | (rename_i e; cases e)
    | glo _ => unfold setD; show none = _; split <;> first | rfl | (rename_i e; cases e)
    | ty _ => unfold setD; show none = _; split <;> first | rfl | (rename_i e; cases e)
    | scr _ => unfold setD; show none = _; split <;> first | rfl | (rename_i e; cases e)
  | _ => cases h
theorem setD_ok {io : List Addr} {H : Hp} {S S' : Vs} {x k w : W} {v i u : V} (s : Sim X.K X.mg io H S) (rx : Rep X.K X.mg io H x v) (rk : Rep X.K X.mg io H k i) (rw' : Rep X.K X.mg io H w u) (h : setD x k w S = some S') :
    ∃ a H', v = .ref a ∧ DPut H a i u H' ∧ Ex io H io H' ∧ Sim X.K X.mg io H' S' := by
  unfold setD at h
  split at h
  · rename_i n l j e1 e2
    split at h
    · rename_i hl
      cases h
      obtain ⟨rfl, e3, a, kvs, rfl, ha, hk, r⟩ := dctW_rep s rx e1
      exact ⟨a, _, rfl, .inl ⟨kvs, j, hk, keyW_rep rk e2, by rw [← repP_len r]; exact of_decide_eq_true hl, rfl⟩, Ex.write (List.mem_iff_getElem?.mpr ⟨n, ha⟩) (nf_of hk trivial), s.write ha (nf_of hk trivial) (.dct (putD_rep rw' r))⟩
    · cases h
  · cases h
theorem psOr {st : Stmt} {t u : TS} (h : PS X st t) (g : PS X st u) : PS X st (fun E σ H => t E σ H ∨ u E σ H) := ⟨fun pins s σ H E I q => q.elim (h.run pins s σ H E I) (g.run pins s σ H E I)⟩
theorem set_ok {io : List Addr} {H : Hp} {S S' : Vs} {x k w : W} {v i u : V} (s : Sim X.K X.mg io H S) (rx : Rep X.K X.mg io H x v) (rk : Rep X.K X.mg io H k i) (rw' : Rep X.K X.mg io H w u) (hd : isDct x S = false) (h : setV x k w S = some S') {Q : Hp → Prop}
    (q : ∀ H', Ex io H io H' → Sim X.K X.mg io H' S' → Q H') : rSetL v i u H Q := by
  cases rx with
  | @ref n a ha =>
    cases rk with
    | int j =>
      have h : (match S[n]? with
        | some (.lst l) => (match ixN l.length j with
          | some m => some (S.set n (.lst (l.set m w)))
          | none => none)
        | _ => setD (.ref n) (.int j) w S) = some S' := h
      split at h
      · rename_i l e1
        split at h
        · rename_i m e2
          cases h
          obtain ⟨xs, hx, r⟩ := s.lst ha e1
          exact ⟨a, xs, j, m, rfl, rfl, hx, by rw [← r.length]; exact e2, q _ (Ex.write (List.mem_iff_getElem?.mpr ⟨n, ha⟩) (nf_of hx trivial)) (s.write ha (nf_of hx trivial) (.lst (Reps.set rw' m r)))⟩
        · cases h
      · rw [nodct hd] at h
        cases h
    | str z =>
      have h : setD (.ref n) (.str z) w S = some S' := h
      rw [nodct hd] at h
      cases h
    | _ => cases h
  | _ => cases h
theorem sub_sole {o i : Expr} {p : Pos} {l : Nat} {env : Env} : swapsWithSole [.Subscript o i p] e l env = pure false := by cases e <;> rfl
theorem sub_sw1 {o i : Expr} {p : Pos} {l : Nat} {env : Env} : swapsWith e (some (.Subscript o i p)) l env = pure false := by cases e <;> rfl
theorem sub_sw {o i : Expr} {p : Pos} {env : Env} : swappedStores [.Subscript o i p] e env = pure none := by cases e <;> rfl
theorem psv_ssub {o i : Expr} {io' ii : IE} {p2 : Pos} (hu : X.A.units + 64 < cLine) (hns : notSlice i = true) (ho : PV X D Wx o io') (hi : PV X D Wx i ii) (he : PV X D Wx e ie) : PSV X D Wx (.Assign [.Subscript o i p2] e pos) (.ssub io' ii ie) := by
  refine psMono (psOr (ps_asg he (pg_sub ho hi set_list (fun v => by cases i <;> first | rfl | (cases hns; done))) sub_sole sub_sw rfl) (ps_dput (by omega) ho hi he sub_sw1)) fun E σ H ⟨io, S, r, s, e, p⟩ => ?_
  rw [denS] at p
  have left : (∀ y S1 x S2 k S3, den D ie r S = .ok y S1 → den D io' r S1 = .ok x S2 → den D ii r S2 = .ok k S3 → isDct x S3 = false) → tAsg (tr X.K X.mg Wx (den D ie)) (gSub (tr X.K X.mg Wx (den D io')) (tr X.K X.mg Wx (den D ii)) rSetL) E σ H := fun hg =>
    ⟨io, S, r, s, e, p.fin s e fun y S1 io1 u H1 ey x1 s1 r1 p1 => ⟨io1, S1, r, s1, e.mono s x1, p1.fin s1 (e.mono s x1) fun x S2 io2 v H2 ex x2 s2 r2 p2 => ⟨io2, S2, r, s2, (e.mono s x1).mono s1 x2, p2.fin s2 ((e.mono s x1).mono s1 x2) fun k S3 io3 iv H3 ek x3 s3 r3 p3 => by
      split at p3
      · rename_i s4 e4
        exact set_ok s3 (r2.mono s2 x3) r3 ((r1.mono s1 x2).mono s2 x3) (hg _ _ _ _ _ _ ey ex ek) e4 fun H' x4 s5 => p3 io3 σ H' x4 s5 ((((e.mono s x1).mono s1 x2).mono s2 x3).mono s3 x4)
      · exact p3.elim⟩⟩⟩
  have right : (∀ y S1 x S2 k S3, den D ie r S = .ok y S1 → den D io' r S1 = .ok x S2 → den D ii r S2 = .ok k S3 → isDct x S3 = true) → sDPut (tr X.K X.mg Wx (den D io')) (tr X.K X.mg Wx (den D ii)) (tr X.K X.mg Wx (den D ie)) E σ H := fun hg =>
    ⟨io, S, r, s, e, p.fin s e fun y S1 io1 u H1 ey x1 s1 r1 p1 => ⟨io1, S1, r, s1, e.mono s x1, p1.fin s1 (e.mono s x1) fun x S2 io2 v H2 ex x2 s2 r2 p2 => ⟨io2, S2, r, s2, (e.mono s x1).mono s1 x2, p2.fin s2 ((e.mono s x1).mono s1 x2) fun k S3 io3 iv H3 ek x3 s3 r3 p3 => by
      rw [setD_of (hg _ _ _ _ _ _ ey ex ek)] at p3
      split at p3
      · rename_i s4 e4
        obtain ⟨a, H', h1, h2, x4, s5⟩ := setD_ok s3 (r2.mono s2 x3) r3 ((r1.mono s1 x2).mono s2 x3) e4
        exact ⟨a, H', h1, h2, p3 io3 σ H' x4 s5 ((((e.mono s x1).mono s1 x2).mono s2 x3).mono s3 x4)⟩
      · exact p3.elim⟩⟩⟩
  cases ha : den D ie r S with
  | ok y S1 =>
    cases hb : den D io' r S1 with
    | ok x S2 =>
      cases hk : den D ii r S2 with
      | ok k S3 =>
        cases hg : isDct x S3 with
        | false => exact .inl (left fun _ _ _ _ _ _ h1 h2 h3 => by rw [ha] at h1; cases h1; rw [hb] at h2; cases h2; rw [hk] at h3; cases h3; exact hg)
        | true => exact .inr (right fun _ _ _ _ _ _ h1 h2 h3 => by rw [ha] at h1; cases h1; rw [hb] at h2; cases h2; rw [hk] at h3; cases h3; exact hg)
      | exc z S1 => exact .inl (left fun _ _ _ _ _ _ h1 h2 h3 => by rw [ha] at h1; cases h1; rw [hb] at h2; cases h2; rw [hk] at h3; cases h3)
      | err => exact .inl (left fun _ _ _ _ _ _ h1 h2 h3 => by rw [ha] at h1; cases h1; rw [hb] at h2; cases h2; rw [hk] at h3; cases h3)
    | exc z S1 => exact .inl (left fun _ _ _ _ _ _ h1 h2 h3 => by rw [ha] at h1; cases h1; rw [hb] at h2; cases h2)
    | err => exact .inl (left fun _ _ _ _ _ _ h1 h2 h3 => by rw [ha] at h1; cases h1; rw [hb] at h2; cases h2)
  | exc z S1 => exact .inl (left fun _ _ _ _ _ _ h1 h2 h3 => by rw [ha] at h1; cases h1)
  | err => exact .inl (left fun _ _ _ _ _ _ h1 h2 h3 => by rw [ha] at h1; cases h1)
def notTup : Expr → Bool | .Tuple _ _ _ => false | _ => true
theorem tup_sole {ts : List Expr} {k : Nat} {p : Pos} {l : Nat} {env : Env} : swapsWithSole [.Tuple ts k p] e l env = pure false := by cases e <;> rfl
theorem tup_sw {ts : List Expr} {k : Nat} {p : Pos} {env : Env} (h : notTup e = true) : swappedStores [.Tuple ts k p] e env = pure none := by cases e <;> first | rfl | cases h
theorem pgOr {tg : Expr} {t u : TG} (h : PG X tg t) (g : PG X tg u) : PG X tg (fun v σ H Q => t v σ H Q ∨ u v σ H Q) := ⟨fun pins s σ H v u' Q I r q => q.elim (h.run pins s σ H v u' Q I r) (g.run pins s σ H v u' Q I r)⟩
theorem psv_asgT {es : List Expr} {l : List Nat} {k : Nat} {p2 : Pos} (hc : X.calm = true) (ht : notTup e = true) (hs : noStars es = true) (hl : es.length = l.length) (h : PGs X es (gAll l)) (he : PV X D Wx e ie) : PSV X D Wx (.Assign [.Tuple es k p2] e pos) (.asgT l ie) := by
  have h1 : (assignEach es X.env).length = l.length := by rw [assign_of hs, List.length_map, hl]
  have h2 : (assignEach es X.env).findIdx? (·.1) = none := by rw [assign_of hs]; exact List.findIdx?_eq_none_iff.mpr fun x hx => by obtain ⟨e, _, rfl⟩ := List.mem_map.mp hx; rfl
  refine psMono (ps_asg he (pgOr (pg_tup hc h h1 h2) (pg_lst hc h h1 h2)) tup_sole (tup_sw ht) rfl) fun E σ H ⟨io, S, r, s, e, p⟩ => ?_
  rw [denS] at p
  refine ⟨io, S, r, s, e, p.fin s e fun w S1 io1 v H1 _ x1 s1 r1 p1 => ?_⟩
  have e1 := e.mono s x1
  cases r1 with
  | @tup ws a xs h3 r2 =>
    have p1 : PoS X.K X.mg Wx (match (if l.length = ws.length then some (setAll r l ws) else none) with
      | some r' => .nx r' S1
      | none => .err) io1 H1 E := p1
    by_cases hw : l.length = ws.length
    · rw [if_pos hw] at p1
      exact .inl ⟨a, xs, rfl, h3, by rw [← r2.length, hw], gAll_ok (by rw [hw, r2.length]) (p1 io1 _ H1 (Ex.refl _ _) s1 ((RepQ.setAll hw r2 e1.q).e fun i h => h.1))⟩
    · rw [if_neg hw] at p1; exact p1.elim
  | @ref n a h3 =>
    have p1 : PoS X.K X.mg Wx (match (match lstAt S1 n with
      | some ws => if l.length = ws.length then some (setAll r l ws) else none
      | none => none) with
      | some r' => .nx r' S1
      | none => .err) io1 H1 E := p1
    cases el : lstAt S1 n with
    | none => rw [el] at p1; exact p1.elim
    | some ws =>
      rw [el] at p1
      obtain ⟨xs, hx, r2⟩ := s1.lst h3 (lstAt_of el)
      have p1 : PoS X.K X.mg Wx (match (if l.length = ws.length then some (setAll r l ws) else none) with
        | some r' => .nx r' S1
        | none => .err) io1 H1 E := p1
      by_cases hw : l.length = ws.length
      · rw [if_pos hw] at p1
        exact .inr ⟨a, xs, rfl, SqL.of hx, by rw [← r2.length, hw], gAll_ok (by rw [hw, r2.length]) (p1 io1 _ H1 (Ex.refl _ _) s1 ((RepQ.setAll hw r2 e1.q).e fun i h => h.1))⟩
      · rw [if_neg hw] at p1; exact p1.elim
  | _ => exact p1.elim
/-- a, b = x, y with two local names on one line -/
theorem par_sw {x y : Str} {px py pt : Pos} {kt k2 : Nat} {pt2 : Pos} {env : Env} (hk : env.scope.kind = .function) (hx : env.scope.names.lookup x = some .local) (hy : env.scope.names.lookup y = some .local) (hxy : x ≠ y) (hl : (py.line == px.line) = true)
    (ha : notStar a = true) (hb : notStar b = true) (hf : (foldedForSure 8 a && foldedForSure 8 b) = false) (hc : (constantsAlone 8 a && constantsAlone 8 b) = false) :
    swappedStores [.Tuple [.Name x px, .Name y py] kt pt] (.Tuple [a, b] k2 pt2) env = pure (some [x, y]) := by
  have e1 : env.blockKind = .function := by unfold Env.blockKind; rw [hk]; rfl
  have kx : env.kindOf x = some .local := hx
  have ky : env.kindOf y = some .local := hy
  have hl' : py.line = px.line := by simpa using hl
  have n1 : ([x, y] : List Str).eraseDups = [x, y] := by
    rw [List.eraseDups_cons]
    have : ([y].filter fun b => !b == x) = [y] := by simp [Ne.symm hxy]
    rw [this]
    rfl
  have n2 : ([x, y] : List Str).eraseDups.length = 2 := by rw [n1]; rfl
  unfold swappedStores
  simp only [List.length_cons, List.length_nil, e1, List.head?_cons, Option.map_some, Option.getD_some, Expr.pos, List.filterMap_cons, List.filterMap_nil, kx, ky, hl', List.all_cons, List.all_nil, Bool.and_true, hf, hc, n1]
  simp [n2]
  intro h
  exfalso
  rcases h with h | h
  · cases a <;> first | (cases ha; done) | (cases h; done)
  · cases b <;> first | (cases hb; done) | (cases h; done)
theorem psv_par {i j : Nat} {x y : Str} {px py pt : Pos} {kt k2 : Nat} {pt2 : Pos} (hc : X.calm = true) (hk : X.env.scope.kind = .function) (hN : X.N.Nodup) (hi : X.N[i]? = some x) (hj : X.N[j]? = some y) (hij : i ≠ j) (hx : X.env.scope.names.lookup x = some .local) (hy : X.env.scope.names.lookup y = some .local) (hxy : x ≠ y) (hl : (py.line == px.line) = true)
    (sa : notStar a = true) (sb : notStar b = true) (hf : (foldedForSure 8 a && foldedForSure 8 b) = false) (hcn : (constantsAlone 8 a && constantsAlone 8 b) = false) (ha : PV X D Wx a ia) (hb : PV X D Wx b ib) :
    PSV X D Wx (.Assign [.Tuple [.Name x px, .Name y py] kt pt] (.Tuple [a, b] k2 pt2) pos) (.par i j ia ib) :=
  psMono (ps_par hc hN hi hj hij hx hy (pa_cons ha (pa_cons hb pa_nil (star_of sb)) (star_of sa)) (par_sw hk hx hy hxy hl sa sb hf hcn) rfl) fun E σ H ⟨io, S, r, s, e, p⟩ => by
    rw [denS] at p
    exact ⟨io, S, r, s, e, p.fin s e fun x S1 io1 v H1 _ x1 s1 r1 p1 => ⟨io1, S1, r, s1, e.mono s x1, p1.fin s1 (e.mono s x1) fun y S2 io2 u H2 _ x2 s2 r2 p2 => ⟨v, u, rfl, p2 io2 _ H2 (Ex.refl _ _) s2 ((((e.mono s x1).mono s1 x2).set (r1.mono s1 x2) i).set r2 j)⟩⟩⟩
/-- name = [..] on one line, the name a local that the block has not -/
theorem psv_lc {elt te ti : Expr} {ifs : List Expr} {scope : Scope} {own : List (Str × Nat)} {lpos : Pos} {ie ic : IE} {tg : Tg} {it : II} {i : Nat} {n : Str} {p2 : Pos}
    (hc : X.calm = true) (hk : X.env.scope.kind = .function) (hN : X.N.Nodup) (hy : X.N[i]? = some n) (hyl : X.env.scope.names.lookup n = some .local) (hl1 : (p2.line == lpos.line) = true) (hnb : (scope.names.any fun (m, k) => m == n && (k == .local || k == .cell)) = false)
    (hi : PIV X D Wx te ti it) (ok : BlkOk X.N X.env.scope scope own) (ho : own.map (·.2) = tgSlots tg)
    (hg : ∀ (s : Shared) (H : Hp) (C : Addr) (cl : List (Str × Addr)) (fp : List Addr), PGV (X.blk s H scope (compEnvC scope cl C X.env) fp) te tg)
    (ht : ∀ (s : Shared) (H : Hp) (C : Addr) (cl : List (Str × Addr)) (fp : List Addr), PTs (X.blk s H scope (compEnvC scope cl C X.env) fp) ifs (trT X.K X.mg WxF (test D ic)))
    (he : ∀ (s : Shared) (H : Hp) (C : Addr) (cl : List (Str × Addr)) (fp : List Addr), PV (X.blk s H scope (compEnvC scope cl C X.env) fp) D WxF elt ie) (hs : notSet ti = true) :
    PSV X D Wx (.Assign [.Name n p2] (.ListComp elt [⟨te, ti, ifs, 0⟩] scope lpos) pos) (.asg i (.lc ie tg it ic)) :=
  psMono (ps_setLc (g := gTg X.K tg) (tt := trT X.K X.mg WxF (test D ic)) (te := tr X.K X.mg WxF (den D ie)) hc hN hy hyl (sw_true hk hyl hl1 hnb) hi ok hg ht he (set_of hs)) fun E σ H h => asg_rd (fun Q q => lc_rd ho q) h
/-- the name is no plain local (a comprehension reads it) -/
theorem sw_cell {elt : Expr} {gs : List Comprehension} {scope : Scope} {lpos py : Pos} {y : Str} {l : Nat} {env : Env} (hy : env.scope.names.lookup y = some .cell) : swapsWith (.ListComp elt gs scope lpos) (some (.Name y py)) l env = pure false := by
  have ky : env.kindOf y = some .cell := hy
  have kk : (NameKind.cell == NameKind.local) = false := by decide
  unfold swapsWith
  simp only [ky]
  simp [kk]
/-! ### loops -/
theorem whl_mono {c : Rho → Vs → Out Bool} {f : Rho → Vs → Fin} : ∀ {n : Nat} {r : Rho} {s : Vs}, iter c f n r s ≠ .err → ∀ m, n ≤ m → iter c f m r s = iter c f n r s
  | 0, r, s, h, _, _ => absurd rfl h
  | n + 1, r, s, h, m + 1, hm => by
    unfold iter at h ⊢
    cases hc : c r s with
    | exc x s1 => simp only [hc]
    | err => simp only [hc]
    | ok b s1 =>
      cases b with
      | false => simp only [hc]; rfl
      | true =>
        cases hf : f r s1 with
        | nx r' s' =>
          simp only [hc, hf, if_true] at h ⊢
          exact whl_mono h m (by omega)
        | ct r' s' =>
          simp only [hc, hf, if_true] at h ⊢
          exact whl_mono h m (by omega)
        | bk r' s' => simp only [hc, hf]
        | rt w s' => simp only [hc, hf]
        | exc x r' s' => simp only [hc, hf]
        | err => simp only [hc, hf]
  | n + 1, r, s, h, 0, hm => by omega
/-- so many turns are enough -/
theorem whl_eq {c : Rho → Vs → Out Bool} {f : Rho → Vs → Fin} {n : Nat} {r : Rho} {s : Vs} (h : iter c f n r s ≠ .err) : whlL c f r s = iter c f n r s := by
  unfold whlL
  have hx : ∃ n, iter c f n r s ≠ .err := ⟨n, h⟩
  rw [dif_pos hx]
  have h2 := Classical.choose_spec hx
  rcases Nat.le_total (Classical.choose hx) n with hle | hle
  · exact (whl_mono h2 n hle).symm
  · exact whl_mono h _ hle
theorem whl_some {c : Rho → Vs → Out Bool} {f : Rho → Vs → Fin} {r : Rho} {s : Vs} (h : whlL c f r s ≠ .err) : ∃ n, iter c f n r s = whlL c f r s ∧ iter c f n r s ≠ .err := by
  unfold whlL at h ⊢
  split
  · rename_i hx
    rw [dif_pos hx] at h
    exact ⟨_, rfl, h⟩
  · rename_i hx
    rw [dif_neg hx] at h
    exact absurd rfl h
theorem psv_whl {b : List Stmt} {ib : IB} (hp : PassesOwn (model X.prog X.w) X.A X.env X.xe) (hc : PTV X D Wx c ic) (hb : PSVs X D Wx b ib) : PSV X D Wx (.While c b [] pos) (.whl ic ib) := psMono (ps_while hp hc hb) fun E σ H ⟨io, S, r, s, e, p⟩ => by
  rw [denS] at p
  by_cases hn : whlL (test D ic) (denB D ib) r S = .err
  · rw [hn] at p; exact p.elim
  obtain ⟨n, h1, h2⟩ := whl_some hn
  rw [← h1] at p
  refine ⟨fun m σ H => ∃ io S r, Sim X.K X.mg io H S ∧ RepE X.K X.mg io H r σ ∧ PoS X.K X.mg Wx (iter (test D ic) (denB D ib) m r S) io H E, ⟨n, io, S, r, s, e, p⟩, ?_⟩
  rintro m σ H ⟨io, S, r, s, e, p⟩
  cases m with
  | zero => exact p.elim
  | succ m =>
    refine ⟨io, S, r, s, e, ?_⟩
    unfold iter at p
    cases ht : test D ic r S with
    | exc x S1 =>
      rw [ht] at p
      exact fun io' H' cls d x' s' q => p io' σ H' cls d x' s' (e.mono s x') q
    | err => rw [ht] at p; exact p
    | ok t S1 =>
      rw [ht] at p
      intro io1 t' H1 x1 s1 hb'
      subst hb'
      have e1 := e.mono s x1
      cases t with
      | false => exact p io1 σ H1 x1 s1 e1
      | true =>
        refine ⟨fun σ' H' => ∃ io S r, Sim X.K X.mg io H' S ∧ RepE X.K X.mg io H' r σ' ∧ PoS X.K X.mg Wx (iter (test D ic) (denB D ib) m r S) io H' E, fun σ' H' h => ⟨m, Nat.lt_succ_self m, h⟩, io1, S1, r, s1, e1, ?_⟩
        have p := PoS.ext x1 p
        simp only [if_true] at p
        cases hf : denB D ib r S1 with
        | nx r' S' =>
          rw [hf] at p
          exact fun io' σ' H' x' s' e' => ⟨io', S', r', s', e', PoS.ext x' p⟩
        | ct r' S' =>
          rw [hf] at p
          exact fun io' σ' H' x' s' e' => ⟨io', S', r', s', e', PoS.ext x' p⟩
        | bk r' S' => rw [hf] at p; exact p
        | rt w S' => rw [hf] at p; exact p
        | exc x r' S' => rw [hf] at p; exact p
        | err => rw [hf] at p; exact p
/-- what a for asks of its turns -/
def forJ (J : It) (g : TG) (tb : TS) (D : Ends) (σ : L2.St) (H1 : Hp) : Prop := ∃ W : Nat → Nat → L2.St → Hp → Prop, (∃ m, W 0 m σ H1) ∧ ∀ i m σ H, W i m σ H →
  (J.stop i H ∧ D.nx σ H) ∨ (J.go i H ∧ ∃ N : L2.St → Hp → Prop, (∀ σ' H', N σ' H' → ∃ m', m' < m ∧ W (i + 1) m' σ' H') ∧ ∀ x H', J.yld i H x H' → g x σ H' fun σ2 H2 => tb { D with nx := N, ct := N, bk := D.nx } σ2 H2)
theorem for_rdG {J : It} {ok : Vs → Prop} {items : List W} {tg : Tg} {ib : IB} {io1 : List Addr} {H1 : Hp} {S1 : Vs} {r : Rho} {σ : L2.St} {E : Ends} (s1 : Sim X.K X.mg io1 H1 S1) (e1 : RepE X.K X.mg io1 H1 r σ) (hJ : ItOkG X.K X.mg J ok items io1 H1)
    (p : PoS X.K X.mg Wx (forL ok (fun x r' s2 => match setT tg x r' with
      | some r2 => denB D ib r2 s2
      | none => .err) items r S1) io1 H1 E) : forJ J (gTg X.K tg) (trS X.K X.mg Wx (denB D ib)) E σ H1 := by
  refine ⟨fun i m σ H => m = items.length - i ∧ i ≤ items.length ∧ ∃ io S r, Ex io1 H1 io H ∧ Sim X.K X.mg io H S ∧ RepE X.K X.mg io H r σ ∧ PoS X.K X.mg Wx (forL ok (fun x r' s2 => match setT tg x r' with
    | some r2 => denB D ib r2 s2
    | none => .err) (items.drop i) r S) io H E, ⟨items.length, by simp, Nat.zero_le _, io1, S1, r, Ex.refl _ _, s1, e1, p⟩, ?_⟩
  rintro i m σ H ⟨rfl, hi2, io, S, r, x2, s2, e2, p⟩
  by_cases hlt : i < items.length
  · rw [List.drop_eq_getElem_cons hlt] at p
    unfold forL at p
    by_cases hok : ok S
    · rw [if_pos hok] at p
      obtain ⟨hgo, hyl⟩ := (hJ i io H S x2 s2 hok).1 hlt
      refine .inr ⟨hgo, fun σ' H' => ∃ m', m' = items.length - (i + 1) ∧ i + 1 ≤ items.length ∧ ∃ io S r, Ex io1 H1 io H' ∧ Sim X.K X.mg io H' S ∧ RepE X.K X.mg io H' r σ' ∧ PoS X.K X.mg Wx (forL ok (fun x r' s2 => match setT tg x r' with
        | some r2 => denB D ib r2 s2
        | none => .err) (items.drop (i + 1)) r S) io H' E, fun σ' H' ⟨m', hm, hw⟩ => ⟨m', by omega, hm, hw⟩, fun x H3 hy => ?_⟩
      obtain ⟨x3, s3, w, hw, rw3⟩ := hyl x H3 hy
      have hw' : w = items[i] := by rw [List.getElem?_eq_getElem hlt] at hw; exact (Option.some.inj hw).symm
      subst hw'
      have e3 := e2.mono s2 x3
      have p := PoS.ext x3 p
      cases hst : setT tg items[i] r with
      | none => simp only [hst] at p; exact p.elim
      | some r' =>
        simp only [hst] at p
        refine gTg_ok s3 e3.q rw3 hst fun σ' eq' hlen hout => ⟨io, S, r', s3, eq'.e fun j h => h.1, ?_⟩
        cases hf : denB D ib r' S with
        | nx r2 S' =>
          rw [hf] at p
          exact fun io' σ' H' x' s' e' => ⟨_, rfl, hlt, io', S', r2, (x2.trans x3).trans x', s', e', PoS.ext x' p⟩
        | ct r2 S' =>
          rw [hf] at p
          exact fun io' σ' H' x' s' e' => ⟨_, rfl, hlt, io', S', r2, (x2.trans x3).trans x', s', e', PoS.ext x' p⟩
        | bk r2 S' => rw [hf] at p; exact p
        | rt w S' => rw [hf] at p; exact p
        | exc x r2 S' => rw [hf] at p; exact p
        | err => rw [hf] at p; exact p.elim
    · rw [if_neg hok] at p; exact p.elim
  · have hi3 : i = items.length := by omega
    subst hi3
    rw [List.drop_length] at p
    unfold forL at p
    by_cases hok : ok S
    · rw [if_pos hok] at p
      exact .inl ⟨(hJ items.length io H S x2 s2 hok).2 rfl, p io σ H (Ex.refl _ _) s2 e2⟩
    · rw [if_neg hok] at p; exact p.elim
theorem psv_fors {tge it : Expr} {tg : Tg} {ii : II} {b : List Stmt} {ib : IB} (hp : PassesOwn (model X.prog X.w) X.A X.env X.xe) (hc : X.calm = true) (hs : notSet it = true) (hi : PIV X D Wx tge it ii) (hg : PGV X tge tg) (hb : PSVs X D Wx b ib) :
    PSV X D Wx (.For tge it b [] pos) (.fors tg ii ib) := psMono (ps_for hp hc hi hg hb (set_of hs)) fun E σ H ⟨io, S, r, s, e, p⟩ => by
  rw [denS] at p
  refine ⟨io, S, r, s, e, ?_⟩
  cases hq : denI D ii r S with
  | exc z S1 =>
    rw [hq] at p
    exact fun io' H' cls d x' s' q => p io' σ H' cls d x' s' (e.mono s x') q
  | err => rw [hq] at p; exact p
  | ok q S1 =>
    rw [hq] at p
    intro io1 H1 x1 s1 J hJ
    have p := PoS.ext x1 (show PoS X.K X.mg Wx (forL q.ok (fun x r' s2 => match setT tg x r' with
      | some r2 => denB D ib r2 s2
      | none => .err) q.items r S1) io H E from p)
    exact for_rdG s1 (e.mono s x1) hJ p
end
end Vm
set_option Elab.async false
set_option linter.all false
set_option maxRecDepth 100000
set_option maxHeartbeats 2000000
/-! Dicts: displays, get, pop, setdefault, in. -/
namespace Vm
open PySem L2
section
variable {X : Cx} {D : Wd} {Wx : WX} {io : List Addr} {H : Hp} {S : Vs} {σ : L2.St} {x y z : W} {v u : V} {Q : VK} {a b c : Expr} {ia ib ic : IE} {pos apos : Pos}
theorem isD_of (s : Sim X.K X.mg io H S) (r : Rep X.K X.mg io H x v) (h : isDct x S = true) : ∃ a, v = .ref a ∧ IsD H a := by
  obtain ⟨l, hl⟩ := Option.isSome_iff_exists.mp h
  obtain ⟨a, kvs, h1, h2, _⟩ := dctR_rep s r hl
  exact ⟨a, h1, .inl ⟨kvs, h2⟩⟩
theorem meth1 {o e : Expr} {m : Str} {cpos : Pos} (hb : baseOk o = true) (hs : notStar e = true) (hl : (apos.endLine == cpos.line) = true) : M1 X o m apos e cpos where
  base := base_of hb _
  few := nostar_few (es := [e]) (by unfold noStars; simp [hs]) (by show 1 < 29; decide)
  line := hl
  trees := by
    have e1 : starEach [e] X.env = [(false, eval e X.env)] := star_of (es := []) hs
    rw [e1]
    rfl
theorem meth2 {o e f : Expr} {m : Str} {cpos : Pos} (hb : baseOk o = true) (hs : notStar e = true) (hs2 : notStar f = true) (hl : (apos.endLine == cpos.line) = true) : M2 X o m apos e f cpos where
  base := base_of hb _
  few := nostar_few (es := [e, f]) (by unfold noStars; simp [hs, hs2]) (by show 2 < 29; decide)
  line := hl
  trees := by
    have e1 : starEach [e, f] X.env = [(false, eval e X.env), (false, eval f X.env)] := by
      rw [star_of hs, star_of (es := []) hs2]
      rfl
    rw [e1]
    rfl
theorem pv_dget (hu : X.A.units + 64 < cLine) (hb : baseOk a = true) (hs : notStar b = true) (hs2 : notStar c = true) (hl : (apos.endLine == pos.line) = true) (ha : PV X D Wx a ia) (hb' : PV X D Wx b ib) (hc : PV X D Wx c ic) :
    PV X D Wx (.Call (.Attribute a "get" apos) [b, c] [] pos) (.dget ia ib ic) := peMono (pe_dget2 (by omega) ha hb' hc (meth2 hb hs hs2 hl)) fun σ H Q ⟨io, S, r, s, e, p⟩ => by
  rw [den] at p
  refine ⟨io, S, r, s, e, p.bind fun x S1 io1 v H1 _ x1 s1 r1 p1 => ?_⟩
  by_cases hd : isDct x S1 = true
  · rw [if_pos hd] at p1
    obtain ⟨d, rfl, hd2⟩ := isD_of s1 r1 hd
    refine ⟨d, rfl, hd2, io1, S1, r, s1, e.mono s x1, p1.bind fun y S2 io2 u H2 _ x2 s2 r2 p2 => ⟨io2, S2, r, s2, (e.mono s x1).mono s1 x2, p2.bind fun z S3 io3 w H3 _ x3 s3 r3 p3 => ?_⟩⟩
    unfold dgetV at p3
    split at p3
    · rename_i l k e1 e2
      obtain ⟨d', kvs, h1, h2, h3⟩ := dctR_rep s3 ((r1.mono s1 x2).mono s2 x3) e1
      cases h1
      refine ⟨_, .inl ⟨kvs, k, h2, keyW_rep (r2.mono s2 x3) e2, rfl⟩, ?_⟩
      have g := getK_rep h3 k
      cases hg : getK l k with
      | none => rw [hg] at p3; rw [g.2 hg]; exact p3.now s3 r3
      | some w' =>
        rw [hg] at p3
        obtain ⟨v', e3, r4⟩ := g.1 w' hg
        rw [e3]
        exact p3.now s3 r4
    · exact p3.elim
  · rw [if_neg hd] at p1; exact p1.elim
theorem dropD_rep {k : Key} {l : List (Key × W)} {xs : List (Key × V)} (r : RepP X.K X.mg io H l xs) : RepP X.K X.mg io H (dropD l k) (dropK xs k) := by
  induction r with
  | nil => exact .nil
  | @cons k' w v l xs q t ih =>
    unfold dropD dropK at ih ⊢
    by_cases h : k' = k
    · rw [List.filter_cons_of_neg (by simp [h]), List.filter_cons_of_neg (by simp [h])]
      exact ih
    · rw [List.filter_cons_of_pos (by simp [h]), List.filter_cons_of_pos (by simp [h])]
      exact .cons q ih
theorem pv_dpop (hb : baseOk a = true) (hs : notStar b = true) (hl : (apos.endLine == pos.line) = true) (ha : PV X D Wx a ia) (hb' : PV X D Wx b ib) :
    PV X D Wx (.Call (.Attribute a "pop" apos) [b] [] pos) (.dpop ia ib) := peMono (pe_dpop1 ha hb' (meth1 hb hs hl)) fun σ H Q ⟨io, S, r, s, e, p⟩ => by
  rw [den] at p
  refine ⟨io, S, r, s, e, p.bind fun x S1 io1 v H1 _ x1 s1 r1 p1 => ?_⟩
  by_cases hd : isDct x S1 = true
  · rw [if_pos hd] at p1
    obtain ⟨d, rfl, hd2⟩ := isD_of s1 r1 hd
    refine ⟨d, rfl, hd2, io1, S1, r, s1, e.mono s x1, p1.bind fun y S2 io2 u H2 _ x2 s2 r2 p2 => ?_⟩
    unfold dpopV at p2
    split at p2
    · rename_i n l k e1 e2
      split at p2
      · rename_i w e3
        obtain ⟨rfl, e4, d', kvs, h1, h2, h3, h4⟩ := dctW_rep s2 (r1.mono s1 x2) e1
        cases h1
        obtain ⟨v', e5, r4⟩ := (getK_rep h4 k).1 w e3
        have hm : d ∈ io2 := List.mem_iff_getElem?.mpr ⟨n, h2⟩
        exact ⟨kvs, k, v', h3, keyW_rep r2 e2, e5, p2 io2 v' _ (Ex.write hm (nf_of h3 trivial)) (s2.write h2 (nf_of h3 trivial) (.dct (dropD_rep h4))) (r4.mono s2 (Ex.write hm (nf_of h3 trivial)))⟩
      · exact p2.elim
    · exact p2.elim
  · rw [if_neg hd] at p1; exact p1.elim
theorem pv_dsetd (hb : baseOk a = true) (hs : notStar b = true) (hs2 : notStar c = true) (hl : (apos.endLine == pos.line) = true) (ha : PV X D Wx a ia) (hb' : PV X D Wx b ib) (hc : PV X D Wx c ic) :
    PV X D Wx (.Call (.Attribute a "setdefault" apos) [b, c] [] pos) (.dsetd ia ib ic) := peMono (pe_dsetd ha hb' hc (meth2 hb hs hs2 hl)) fun σ H Q ⟨io, S, r, s, e, p⟩ => by
  rw [den] at p
  refine ⟨io, S, r, s, e, p.bind fun x S1 io1 v H1 _ x1 s1 r1 p1 => ?_⟩
  by_cases hd : isDct x S1 = true
  · rw [if_pos hd] at p1
    obtain ⟨d, rfl, hd2⟩ := isD_of s1 r1 hd
    refine ⟨d, rfl, hd2, io1, S1, r, s1, e.mono s x1, p1.bind fun y S2 io2 u H2 _ x2 s2 r2 p2 => ⟨io2, S2, r, s2, (e.mono s x1).mono s1 x2, p2.bind fun z S3 io3 w H3 _ x3 s3 r3 p3 => ?_⟩⟩
    unfold dsetdV at p3
    split at p3
    · rename_i n l k e1 e2
      obtain ⟨rfl, e4, d', kvs, h1, h2, h3, h4⟩ := dctW_rep s3 ((r1.mono s1 x2).mono s2 x3) e1
      cases h1
      have g := getK_rep h4 k
      have hm : d ∈ io3 := List.mem_iff_getElem?.mpr ⟨n, h2⟩
      split at p3
      · rename_i hl2
        have hl3 : kvs.length < sizeLine := by rw [← repP_len h4]; exact of_decide_eq_true hl2
        cases hg : getK l k with
        | none =>
          rw [hg] at p3
          refine ⟨kvs, k, h3, keyW_rep (r2.mono s2 x3) e2, hl3, fun v' e5 => ?_, fun _ => p3 io3 w _ (Ex.write hm (nf_of h3 trivial)) (s3.write h2 (nf_of h3 trivial) (.dct (putD_rep r3 h4))) (r3.mono s3 (Ex.write hm (nf_of h3 trivial)))⟩
          rw [g.2 hg] at e5
          cases e5
        | some w' =>
          rw [hg] at p3
          obtain ⟨v', e5, r4⟩ := g.1 w' hg
          refine ⟨kvs, k, h3, keyW_rep (r2.mono s2 x3) e2, hl3, fun v2 e6 => ?_, fun e6 => ?_⟩
          · rw [e5] at e6
            cases e6
            exact p3.now s3 r4
          · rw [e5] at e6; cases e6
      · exact p3.elim
    · exact p3.elim
  · rw [if_neg hd] at p1; exact p1.elim
/-! ### in -/
def inOp : Bool → CmpOp
  | true => .NotIn
  | false => .In
def tDin (ng : Bool) (ty td : TE) : TE := fun σ H Q => ty σ H fun y H1 => td σ H1 fun x H2 => ∃ a o, x = .ref a ∧ DGet H2 a y o ∧ Q (.bl (o.isSome != ng)) H2
theorem pc_dinV {ng : Bool} {ty td : TE} (hu : X.A.units + 64 < cLine) (ha : PE X a ty) (hb : PE X b td) : PC X (inOp ng) a b (tDin ng ty td) := by
  have imp : ∀ {σ H Q} (f : Option V → Bool), (∀ o, f o = (o.isSome != ng)) → tDin ng ty td σ H Q → ty σ H fun y H1 => td σ H1 fun x H2 => ∃ a o, x = .ref a ∧ DGet H2 a y o ∧ Q (.bl (f o)) H2 := fun {σ H Q} f hf h => by
    unfold tDin at h
    have e : f = fun o => (o.isSome != ng) := funext hf
    rw [e]
    exact h
  cases ng with
  | false => exact ⟨fun pins s σ H Q I q => (pc_din (by omega) ha hb).run pins s σ H Q I (imp (fun o => o.isSome) (fun o => by cases o <;> rfl) q)⟩
  | true => exact ⟨fun pins s σ H Q I q => (pc_dnotin (by omega) ha hb).run pins s σ H Q I (imp (fun o => !o.isSome) (fun o => by cases o <;> rfl) q)⟩
theorem din_rd {ng : Bool} {Q : VK} (h : tr X.K X.mg Wx (den D (.din ng ia ib)) σ H Q) : tDin ng (tr X.K X.mg Wx (den D ia)) (tr X.K X.mg Wx (den D ib)) σ H Q := by
  obtain ⟨io, S, r, s, e, p⟩ := h
  rw [den] at p
  refine ⟨io, S, r, s, e, p.bind fun y S1 io1 u H1 _ x1 s1 r1 p1 => ⟨io1, S1, r, s1, e.mono s x1, p1.bind fun x S2 io2 v H2 _ x2 s2 r2 p2 => ?_⟩⟩
  unfold dinV at p2
  split at p2
  · rename_i l k e1 e2
    obtain ⟨d, kvs, rfl, h2, h3⟩ := dctR_rep s2 r2 e1
    refine ⟨d, _, rfl, .inl ⟨kvs, k, h2, keyW_rep (r1.mono s1 x2) e2, rfl⟩, ?_⟩
    rw [← getK_some h3 k]
    exact p2.now s2 (.bl _)
  · exact p2.elim
theorem marks_in {ng : Bool} (h : notSet b = true) : behindInMarks (inOp ng) b = false := by cases b <;> first | rfl | cases h
theorem pv_din {ng : Bool} (hu : X.A.units + 64 < cLine) (hs : notSet b = true) (ha : PV X D Wx a ia) (hb : PV X D Wx b ib) : PV X D Wx (.Compare a [inOp ng] [b] pos) (.din ng ia ib) :=
  peMono (pe_cmp (pc_dinV hu ha hb) (marks_of hs)) fun σ H Q h => din_rd h
theorem dinV_bl {ng : Bool} {s s' : Vs} {x y w : W} (h : dinV ng y x s = .ok w s') : ∃ b, w = .bl b := by
  unfold dinV at h
  split at h
  · cases h; exact ⟨_, rfl⟩
  · cases h
theorem ptv_din {ng : Bool} (hu : X.A.units + 64 < cLine) (hs : notSet b = true) (ha : PV X D Wx a ia) (hb : PV X D Wx b ib) : PTV X D Wx (.Compare a [inOp ng] [b] pos) (.din ng ia ib) :=
  ptMono (pt_cmp (pc_dinV hu ha hb) (marks_of hs)) fun σ H Q h => by
    obtain ⟨io, S, r, s, e, p⟩ := h
    have p := test_bl (fun w s' h => by
      rw [den] at h
      obtain ⟨x, s1, _, h⟩ := bind_get h
      obtain ⟨y, s2, _, h⟩ := bind_get h
      exact dinV_bl h) p
    exact din_rd ⟨io, S, r, s, e, p⟩
/-! ### displays -/
theorem Reps.cons_inv {w : W} {l : List W} {xs : List V} (r : Reps X.K X.mg io H (w :: l) xs) : ∃ v ys, xs = v :: ys ∧ Rep X.K X.mg io H w v ∧ Reps X.K X.mg io H l ys := by
  cases r with
  | cons a b => exact ⟨_, _, rfl, a, b⟩
/-- the rules of a display's entries, keys and values by turns in the interpreter's list -/
inductive PairsV (X : Cx) (D : Wd) (Wx : WX) (pos : Pos) : List (Option Expr) → List Expr → IL → Prop where
  | nil : PairsV X D Wx pos [] [] .nil
  | cons {k v : Expr} {ks : List (Option Expr)} {vs : List Expr} {ik iv : IE} {l : IL} : PV X D Wx k ik → PV X D Wx v iv → PairsV X D Wx pos ks vs l → PairsV X D Wx pos (some k :: ks) (v :: vs) (.cons ik (.cons iv l))
def trsOf (X : Cx) (D : Wd) (Wx : WX) : IL → List (TE × TE)
  | .cons k (.cons v l) => (tr X.K X.mg Wx (den D k), tr X.K X.mg Wx (den D v)) :: trsOf X D Wx l
  | _ => []
theorem PairsV.pps {pos : Pos} {ks : List (Option Expr)} {vs : List Expr} {l : IL} (h : PairsV X D Wx pos ks vs l) : PPs X pos ks vs (trsOf X D Wx l) := by
  induction h with
  | nil => exact pps_nil
  | cons hk hv _ ih => exact pps_cons hk hv ih
theorem pairD_len {k v : W} {l : List W} {m : List (Key × W)} (h : pairD (k :: v :: l) = some m) : ∃ k' m', keyW k = some k' ∧ pairD l = some m' ∧ m = (k', v) :: m' := by
  unfold pairD at h
  split at h
  · rename_i k' m' e1 e2
    cases h
    exact ⟨k', m', e1, e2, rfl⟩
  · cases h
/-- the entries in turn -/
theorem pairs_rd {pos : Pos} {ks : List (Option Expr)} {vs : List Expr} {l : IL} (hp : PairsV X D Wx pos ks vs l) : ∀ {io : List Addr} {S : Vs} {r : Rho} {H : Hp} {Q : List (V × V) → Hp → Prop} {G : List (Key × W) → Vs → Prop}, Sim X.K X.mg io H S → RepE X.K X.mg io H r σ →
    (match denL D l r S with
      | .ok ws S' => ∃ m, pairD ws = some m ∧ ∀ io' H' kvs, Ex io H io' H' → Sim X.K X.mg io' H' S' → RepP X.K X.mg io' H' m kvs → Q (kvs.map fun kv => (kV kv.1, kv.2)) H'
      | .exc z S' => ∀ io' H' cls d, Ex io H io' H' → Sim X.K X.mg io' H' S' → RepX X.K X.mg io' H' z cls d → Wx cls d σ H'
      | .err => False) → tPairs (trsOf X D Wx l) σ H Q := by
  induction hp with
  | nil =>
    intro io S r H Q G s e p
    rw [denL] at p
    obtain ⟨m, hm, p⟩ := p
    cases hm
    exact p io H [] (Ex.refl _ _) s .nil
  | @cons k v ks vs ik iv l hk hv hp ih =>
    intro io S r H Q G s e p
    rw [denL] at p
    refine ⟨io, S, r, s, e, ?_⟩
    cases h1 : den D ik r S with
    | err => rw [h1] at p; exact p
    | exc z S1 => rw [h1] at p; exact p
    | ok wk S1 =>
      rw [h1] at p
      intro io1 xk H1 x1 s1 r1
      refine ⟨io1, S1, r, s1, e.mono s x1, ?_⟩
      change (match (denL D (.cons iv l) r S1).bind fun xs s2 => .ok (wk :: xs) s2 with
        | .ok ws S' => _
        | .exc z S' => _
        | .err => False) at p
      rw [denL] at p
      cases h2 : den D iv r S1 with
      | err => rw [h2] at p; exact p
      | exc z S2 => rw [h2] at p; exact fun io' H' cls d x' => p io' H' cls d (x1.trans x')
      | ok wv S2 =>
        rw [h2] at p
        simp only [bind_ok] at p
        intro io2 xv H2 x2 s2 r2
        refine ih (io := io2) (S := S2) (r := r) (G := fun _ _ => True) s2 ((e.mono s x1).mono s1 x2) ?_
        cases h3 : denL D l r S2 with
        | err => rw [h3] at p; exact p
        | exc z S3 => rw [h3] at p; exact fun io' H' cls d x' => p io' H' cls d ((x1.trans x2).trans x')
        | ok ws S3 =>
          rw [h3] at p
          obtain ⟨m, hm, p⟩ := p
          obtain ⟨k', m', e1, e2, rfl⟩ := pairD_len hm
          refine ⟨m', e2, fun io' H' kvs x' s' rp => ?_⟩
          have ek := keyW_rep r1 e1
          subst ek
          exact p io' H' ((k', xv) :: kvs) ((x1.trans x2).trans x') s' (.cons (r2.mono s2 x') rp)
theorem mergeD_rep {l m : List (Key × W)} {xs ys : List (Key × V)} (r1 : RepP X.K X.mg io H l xs) (r2 : RepP X.K X.mg io H m ys) : RepP X.K X.mg io H (mergeD l m) (mergeK xs ys) := by
  induction r2 generalizing l xs with
  | nil => exact r1
  | cons q _ ih => exact ih (putD_rep q r1)
theorem pv_dic0 : PV X D Wx (.Dict [] [] pos) (.dic .nil) := peMono pe_dnewK fun σ H Q ⟨io, S, r, s, e, p⟩ => by
  rw [den, denL] at p
  intro d hd
  exact p _ _ _ (Ex.push hd) (s.push hd (.dct .nil)) (.ref (by rw [← s.len]; simp))
theorem pv_dic {keys : List (Option Expr)} {values : List Expr} {l : IL} (hp : PairsV X D Wx pos keys values l) (hall : keys.all (·.isSome) = true) (hl : keys.length = values.length) (h0 : keys ≠ []) (h15 : keys.length ≤ 15) : PV X D Wx (.Dict keys values pos) (.dic l) := peMono (pe_disp hp.pps hall hl h0 h15) fun σ H Q ⟨io, S, r, s, e, p⟩ => by
  rw [den] at p
  intro d hd
  have x0 : Ex io H io (upd H d (.dK [])) := Ex.new hd
  have s0 := s.new (o := .dK []) hd
  refine pairs_rd hp (G := fun _ _ => True) s0 (e.mono s x0) ?_
  cases h : denL D l r S with
  | err => rw [h] at p; exact p
  | exc z S1 => rw [h] at p; exact fun io' H' cls d x' => p io' H' cls d (x0.trans x')
  | ok ws S1 =>
    rw [h] at p
    have p : Po X.K X.mg Wx (Rep X.K X.mg) (dicV ws S1) io H σ Q := p
    unfold dicV at p
    split at p
    · rename_i m hm
      split at p
      · rename_i h15'
        refine ⟨m, hm, fun io' H' kvs x' s' rp => ?_⟩
        obtain ⟨hd1, hd2⟩ := x'.fr d (.dK []) (s.fresh hd) upd_same
        refine ⟨hd1, kvs, rfl, by rw [← repP_len rp]; exact of_decide_eq_true h15', ?_⟩
        have kt : Kt H' (upd H' d (.dK (mergeK [] kvs))) := ⟨fun a xs e => (by rw [upd_ne]; exact e; intro z; subst z; rw [hd1] at e; cases e), fun a o xs e => (by rw [upd_ne]; exact e; intro z; subst z; rw [hd1] at e; cases e), fun a o xs e => (by rw [upd_ne]; exact e; intro z; subst z; rw [hd1] at e; cases e), fun a f e => (by rw [upd_ne]; exact e; intro z; subst z; rw [hd1] at e; cases e)⟩
        have s2 : Sim X.K X.mg io' (upd H' d (.dK (mergeK [] kvs))) S1 := ⟨s'.len, s'.nd, fun n ob e => by
          obtain ⟨a, ha, q⟩ := s'.at_ n ob e
          exact ⟨a, ha, q.keep kt (by rw [upd_ne]; intro z; subst z; exact hd2 (List.mem_iff_getElem?.mpr ⟨n, ha⟩))⟩⟩
        have s3 := s2.adopt2 (p := d) (u := .dK (mergeK [] kvs)) (o := .dct (mergeD [] m)) upd_same hd2 (.dct ((mergeD_rep .nil rp).keep kt))
        have xx := x0.trans x'
        have x3 : Ex io H (io' ++ [d]) (upd H' d (.dK (mergeK [] kvs))) := ⟨by obtain ⟨l, hl⟩ := xx.pre; exact ⟨l ++ [d], by rw [hl, List.append_assoc]⟩, fun a o ha ho => by
          obtain ⟨z1, z2⟩ := xx.fr a o ha ho
          have ne : a ≠ d := ne_of_none ho hd
          exact ⟨by rw [upd_ne ne]; exact z1, fun z => by rcases List.mem_append.mp z with z | z; exact z2 z; exact ne (List.mem_singleton.mp z)⟩, fun a ob u ho => by
          have ne : a ≠ d := ne_of_none ho hd
          rw [upd_ne ne]; exact xx.lk a ob u ho⟩
        exact p _ _ _ x3 s3 (.ref (by rw [← s'.len]; simp))
      · exact p.elim
    · exact p.elim
end
end Vm
set_option Elab.async false
set_option linter.all false
set_option maxRecDepth 100000
set_option maxHeartbeats 2000000
/-! Walks over a dict's keys: it is locked meanwhile. -/
namespace Vm
open PySem L2
section
variable {K : Fg} {mg : Mg} {Wx : WX} {io jo io1 : List Addr} {H J H1 : Hp} {S : Vs} {σ : L2.St} {r : Rho} {E : Ends} {n : Nat} {d : Addr} {od : Obj} {kvs : List (Key × V)} {l : List (Key × W)}
theorem Kt.unl {u : HO} (h : H d = some (.frz od (.dK kvs))) : Kt H (upd H d u) where
  tup := fun a xs e => by rw [upd_ne]; exact e; intro z; subst z; rw [h] at e; cases e
  ftup := fun a o xs e => by rw [upd_ne]; exact e; intro z; subst z; rw [h] at e; cases e
  flst := fun a o xs e => by rw [upd_ne]; exact e; intro z; subst z; rw [h] at e; cases e
  ext := fun a f e => by rw [upd_ne]; exact e; intro z; subst z; rw [h] at e; cases e
theorem RepE.keep (k : Kt H J) (e : RepE K mg io H r σ) : RepE K mg io J r σ := ⟨e.len, fun i w h => let ⟨v, h1, h2⟩ := e.at_ i w h; ⟨v, h1, h2.keep k⟩⟩
theorem Sim.lock (s : Sim K mg io H S) (ha : io[n]? = some d) (h : H d = some (.dK kvs)) (rl : RepP K mg io H l kvs) : Sim K mg io (upd H d (.frz od (.dK kvs))) (S.set n (.lck (.dct l))) := by
  have hm : d ∈ io := List.mem_iff_getElem?.mpr ⟨n, ha⟩
  have hn : n < S.length := by rw [← s.len]; exact (List.getElem?_eq_some_iff.mp ha).1
  have nf : NF H d := nf_of h trivial
  refine ⟨by rw [List.length_set]; exact s.len, s.nd, fun m ob e => ?_⟩
  by_cases hmn : n = m
  · subst hmn
    rw [List.getElem?_set_self hn] at e
    cases e
    exact ⟨d, ha, .lck upd_same (rl.mono s (Ex.write hm nf))⟩
  · rw [List.getElem?_set_ne hmn] at e
    obtain ⟨b, hb, q⟩ := s.at_ m ob e
    refine ⟨b, hb, q.mono s (Ex.write hm nf) ?_⟩
    rw [upd_ne]
    intro z
    subst z
    exact hmn (nodup_ixA s.nd ha hb)
theorem Sim.unl (s : Sim K mg io H S) (ha : io[n]? = some d) (h : H d = some (.frz od (.dK kvs))) (rl : RepP K mg io H l kvs) : Sim K mg io (upd H d (.dK kvs)) (S.set n (.dct l)) := by
  have hm : d ∈ io := List.mem_iff_getElem?.mpr ⟨n, ha⟩
  have hn : n < S.length := by rw [← s.len]; exact (List.getElem?_eq_some_iff.mp ha).1
  have kt : Kt H (upd H d (.dK kvs)) := Kt.unl h
  refine ⟨by rw [List.length_set]; exact s.len, s.nd, fun m ob e => ?_⟩
  by_cases hmn : n = m
  · subst hmn
    rw [List.getElem?_set_self hn] at e
    cases e
    exact ⟨d, ha, .mk upd_same (.dct (rl.keep kt))⟩
  · rw [List.getElem?_set_ne hmn] at e
    obtain ⟨b, hb, q⟩ := s.at_ m ob e
    refine ⟨b, hb, q.keep kt ?_⟩
    rw [upd_ne]
    intro z
    subst z
    exact hmn (nodup_ixA s.nd ha hb)
theorem Ex.unl (hm : d ∈ io) (h : H d = some (.dK kvs)) (x : Ex io (upd H d (.frz od (.dK kvs))) jo J) : Ex io H jo (upd J d (.dK kvs)) := by
  have nf : NF H d := nf_of h trivial
  have xx := (Ex.write (u := .frz od (.dK kvs)) hm nf).trans x
  refine ⟨xx.pre, fun a o ha e => ?_, fun a ob u e => ?_⟩
  · obtain ⟨z1, z2⟩ := xx.fr a o ha e
    exact ⟨by rw [upd_ne]; exact z1; intro z; subst z; exact ha hm, z2⟩
  · rw [upd_ne]
    exact xx.lk a ob u e
    intro z
    subst z
    exact nf _ _ e
/-- what holds behind the walk, with the lock off -/
theorem unl_pos {o : Fin} (p : PoS K mg Wx (unlF n l o) io H E) (s : Sim K mg io H S) (ha : io[n]? = some d) (h : H d = some (.dK kvs)) (rl : RepP K mg io H l kvs) (x1 : Ex io (upd H d (.frz od (.dK kvs))) io1 H1) :
    PoS K mg Wx o io1 H1 ⟨fun σ' H' => H' d = some (.frz od (.dK kvs)) ∧ E.nx σ' (upd H' d (.dK kvs)), fun v H' => H' d = some (.frz od (.dK kvs)) ∧ E.rt v (upd H' d (.dK kvs)), fun σ' H' => H' d = some (.frz od (.dK kvs)) ∧ E.bk σ' (upd H' d (.dK kvs)), fun σ' H' => H' d = some (.frz od (.dK kvs)) ∧ E.ct σ' (upd H' d (.dK kvs))⟩ := by
  have hm : d ∈ io := List.mem_iff_getElem?.mpr ⟨n, ha⟩
  have nf : NF H d := nf_of h trivial
  have x0 : Ex io H io (upd H d (.frz od (.dK kvs))) := Ex.write hm nf
  cases o with
  | nx r' S' =>
    intro io' σ' H' x' s' e'
    have xx := x1.trans x'
    have hd : H' d = some (.frz od (.dK kvs)) := xx.lk d od _ upd_same
    have rl' := rl.mono s (x0.trans xx)
    exact ⟨hd, p io' σ' _ (Ex.unl hm h xx) (s'.unl (xx.get ha) hd rl') (e'.keep (Kt.unl hd))⟩
  | rt w S' =>
    intro io' v H' x' s' e'
    have xx := x1.trans x'
    have hd : H' d = some (.frz od (.dK kvs)) := xx.lk d od _ upd_same
    have rl' := rl.mono s (x0.trans xx)
    exact ⟨hd, p io' v _ (Ex.unl hm h xx) (s'.unl (xx.get ha) hd rl') (e'.keep (Kt.unl hd))⟩
  | _ => exact p.elim
theorem dlock_get {o : Out W} (h : dlock o S = some (n, l)) : S[n]? = some (.dct l) := by
  unfold dlock at h
  split at h
  · rename_i x s'
    unfold dctW at h
    split at h
    · split at h
      · cases h; assumption
      · cases h
    · cases h
  · cases h
theorem Sim.dct (s : Sim K mg io H S) (h : S[n]? = some (.dct l)) : ∃ d kvs, io[n]? = some d ∧ H d = some (.dK kvs) ∧ RepP K mg io H l kvs := by
  obtain ⟨d, ha, q⟩ := s.at_ n _ h
  cases q with
  | mk e' r => cases r with | dct r => exact ⟨d, _, ha, e', r⟩
theorem repP_keys {l : List (Key × W)} {xs : List (Key × V)} (r : RepP K mg io H l xs) : l.map (·.1) = xs.map (·.1) := by
  induction r with
  | nil => rfl
  | cons _ _ ih => rw [List.map_cons, List.map_cons, ih]
theorem wOf_rep (k : Key) : Rep K mg io H (wOf k) (kV k) := by
  cases k with
  | inl i => exact .int i
  | inr x => exact .str x
theorem it_keys (hd : H1 d = some (.frz od (.dK kvs))) (hl : l.map (·.1) = kvs.map (·.1)) : ItOkG K mg (Itk d od kvs) (fun s => lckAt s n l) (l.map fun p => wOf p.1) io1 H1 := fun i io' H' S' x' s' _ => by
  have hd' : H' d = some (.frz od (.dK kvs)) := x'.lk d od _ hd
  have ll : l.length = kvs.length := by
    have := congrArg List.length hl
    rw [List.length_map, List.length_map] at this
    exact this
  refine ⟨fun hi => ⟨⟨hd', by rw [List.length_map] at hi; omega⟩, fun x H'' hy => ?_⟩, fun hi => ⟨hd', by rw [List.length_map] at hi; omega⟩⟩
  obtain ⟨rfl, k, v, hk, rfl⟩ := hy
  refine ⟨Ex.refl _ _, s', wOf k, ?_, wOf_rep k⟩
  have e : (l.map (·.1))[i]? = some k := by rw [hl, List.getElem?_map, hk]; rfl
  rw [List.getElem?_map] at e ⊢
  cases e2 : l[i]? with
  | none => rw [e2] at e; cases e
  | some p =>
    rw [e2] at e
    cases e
    rfl
theorem isRef_of {w : W} (h : isRef w n = true) : w = .ref n := by
  cases w <;> first | (cases h; done) | (rw [of_decide_eq_true (show decide (_ = n) = true from h)])
end
section
variable {X : Cx} {D : Wd} {Wx : WX} {io : List Addr} {H : Hp} {S : Vs} {σ : L2.St} {a b c : Expr} {ia ib ic : IE} {pos : Pos}
theorem psv_ford {tge : Expr} {tg : Tg} {b : List Stmt} {ib : IB} (hp : PassesOwn (model X.prog X.w) X.A X.env X.xe) (hc : X.calm = true) (hs : notSet a = true) (ha : PV X D Wx a ia) (hg : PGV X tge tg) (hb : PSVs X D Wx b ib) :
    PSV X D Wx (.For tge a b [] pos) (.ford tg ia ib) := psMono (ps_lock (ps_for hp hc (pi_keys ha) hg hb (set_of hs))) fun E σ H ⟨io, S, r, s, e, p⟩ => by
  rw [denS] at p
  cases hk : dlock (den D ia r S) S with
  | none => rw [hk] at p; exact p.elim
  | some q =>
    obtain ⟨n, l⟩ := q
    rw [hk] at p
    have hS := dlock_get hk
    obtain ⟨d, kvs, hd, hH, rl⟩ := s.dct hS
    have hm : d ∈ io := List.mem_iff_getElem?.mpr ⟨n, hd⟩
    refine ⟨d, .dK kvs, hH, trivial, fun od => ?_⟩
    have x0 : Ex io H io (upd H d (.frz od (.dK kvs))) := Ex.write hm (nf_of hH trivial)
    have s0 := s.lock (od := od) hd hH rl
    have e0 := e.mono s x0
    refine ⟨io, _, r, s0, e0, ?_⟩
    have p : PoS X.K X.mg Wx ((den D ia r (S.set n (.lck (.dct l)))).fin r fun x s1 => if isRef x n then unlF n l (forL (fun s => lckAt s n l) (fun x r' s2 => match setT tg x r' with
      | some r2 => denB D ib r2 s2
      | none => .err) (l.map fun p => wOf p.1) r s1) else .err) io H E := p
    cases h1 : den D ia r (S.set n (.lck (.dct l))) with
    | err => rw [h1] at p; exact p
    | exc z S1 => rw [h1] at p; exact fun io' H' cls dd x' s' q => p io' σ H' cls dd (x0.trans x') s' (e0.mono s0 x') q
    | ok x S1 =>
      rw [h1] at p
      intro io1 v H1 x1 s1 r1
      change PoS X.K X.mg Wx (if isRef x n = true then unlF n l (forL (fun s => lckAt s n l) (fun x r' s2 => match setT tg x r' with
        | some r2 => denB D ib r2 s2
        | none => .err) (l.map fun p => wOf p.1) r S1) else .err) io H E at p
      by_cases hx : isRef x n = true
      · rw [if_pos hx] at p
        obtain rfl := isRef_of hx
        cases r1 with
        | @ref _ a1 h3 =>
          rw [x1.get hd] at h3
          cases h3
          have hd1 : H1 d = some (.frz od (.dK kvs)) := x1.lk d od _ upd_same
          exact ⟨d, od, rfl, .inl ⟨kvs, hd1, for_rdG s1 (e0.mono s0 x1) (it_keys hd1 (repP_keys rl)) (unl_pos p s hd hH rl x1)⟩⟩
      · rw [if_neg hx] at p; exact p.elim
/-- a comprehension over a dict's keys -/
theorem lcd_rd {own : List (Str × Nat)} {tg : Tg} {ie : IE} (ho : own.map (·.2) = tgSlots tg) {Q : VK} (h : tr X.K X.mg Wx (den D (.lcd ie tg ia ic)) σ H Q) : tLockE (tLc (iKeys (tr X.K X.mg Wx (den D ia))) (gTg X.K tg) (trT X.K X.mg WxF (test D ic)) (tr X.K X.mg WxF (den D ie)) (own.map (·.2))) σ H Q := by
  obtain ⟨io, S, r, s, e, p⟩ := h
  rw [den] at p
  cases hk : dlock (den D ia r S) S with
  | none => rw [hk] at p; exact p.elim
  | some q =>
    obtain ⟨n, l⟩ := q
    rw [hk] at p
    have hS := dlock_get hk
    obtain ⟨d, kvs, hd, hH, rl⟩ := s.dct hS
    have hm : d ∈ io := List.mem_iff_getElem?.mpr ⟨n, hd⟩
    refine ⟨d, .dK kvs, hH, trivial, fun od => ?_⟩
    have x0 : Ex io H io (upd H d (.frz od (.dK kvs))) := Ex.write hm (nf_of hH trivial)
    have s0 := s.lock (od := od) hd hH rl
    have e0 := e.mono s x0
    refine ⟨io, _, r, s0, e0, ?_⟩
    have p : Po X.K X.mg Wx (Rep X.K X.mg) ((den D ia r (S.set n (.lck (.dct l)))).bind fun x s1 => if isRef x n && fits l.length then (lcL (fun s => lckAt s n l) (lcF D ie tg ic r) (l.map fun p => wOf p.1) s1).bind fun ys s6 => unlE n l (newL ys s6) else .err) io H σ Q := p
    cases h1 : den D ia r (S.set n (.lck (.dct l))) with
    | err => rw [h1] at p; exact p
    | exc z S1 => rw [h1] at p; exact fun io' H' cls dd x' s' q => p io' H' cls dd (x0.trans x') s' q
    | ok x S1 =>
      rw [h1] at p
      intro io1 v H1 x1 s1 r1
      change Po X.K X.mg Wx (Rep X.K X.mg) (if (isRef x n && fits l.length) = true then (lcL (fun s => lckAt s n l) (lcF D ie tg ic r) (l.map fun p => wOf p.1) S1).bind fun ys s6 => unlE n l (newL ys s6) else .err) io H σ Q at p
      by_cases hx : (isRef x n && fits l.length) = true
      · rw [if_pos hx] at p
        rw [Bool.and_eq_true] at hx
        obtain rfl := isRef_of hx.1
        cases r1 with
        | @ref _ a1 h3 =>
          rw [x1.get hd] at h3
          cases h3
          have hd1 : H1 d = some (.frz od (.dK kvs)) := x1.lk d od _ upd_same
          refine ⟨d, od, rfl, .inl ⟨kvs, hd1, ?_⟩⟩
          cases hl : lcL (fun s => lckAt s n l) (lcF D ie tg ic r) (l.map fun p => wOf p.1) S1 with
          | exc z S2 => exact absurd hl lcL_noexc
          | err => rw [hl] at p; exact p.elim
          | ok ys S2 =>
            rw [hl] at p
            refine lc_rdG (Q := fun v H' => H' d = some (.frz od (.dK kvs)) ∧ Q v (upd H' d (.dK kvs))) ho s1 (e0.mono s0 x1) (it_keys hd1 (repP_keys rl)) (by rw [List.length_map]; exact hx.2) hl fun io' b H' x' s' r' => ?_
            have xx := x1.trans x'
            have hd2 : H' d = some (.frz od (.dK kvs)) := xx.lk d od _ upd_same
            have rl' := rl.mono s (x0.trans xx)
            exact ⟨hd2, p io' b _ (Ex.unl hm hH xx) (s'.unl (xx.get hd) hd2 rl') (r'.keep (Kt.unl hd2))⟩
      · rw [if_neg hx] at p; exact p.elim
theorem pv_lcd {elt te ti : Expr} {ifs : List Expr} {scope : Scope} {own : List (Str × Nat)} {ie : IE} {tg : Tg} (hc : X.calm = true) (hN : X.N.Nodup) (hi : PV X D Wx ti ia) (ok : BlkOk X.N X.env.scope scope own) (ho : own.map (·.2) = tgSlots tg)
    (hg : ∀ (s : Shared) (H : Hp) (C : Addr) (cl : List (Str × Addr)) (fp : List Addr), PGV (X.blk s H scope (compEnvC scope cl C X.env) fp) te tg)
    (ht : ∀ (s : Shared) (H : Hp) (C : Addr) (cl : List (Str × Addr)) (fp : List Addr), PTs (X.blk s H scope (compEnvC scope cl C X.env) fp) ifs (trT X.K X.mg WxF (test D ic)))
    (he : ∀ (s : Shared) (H : Hp) (C : Addr) (cl : List (Str × Addr)) (fp : List Addr), PV (X.blk s H scope (compEnvC scope cl C X.env) fp) D WxF elt ie) (hs : notSet ti = true) :
    PV X D Wx (.ListComp elt [⟨te, ti, ifs, 0⟩] scope pos) (.lcd ie tg ia ic) :=
  peMono (pe_lock (pe_lc (g := gTg X.K tg) (tt := trT X.K X.mg WxF (test D ic)) (te := tr X.K X.mg WxF (den D ie)) hc hN (pi_keys hi) ok hg ht he (set_of hs))) fun σ H Q h => lcd_rd ho h
end
end Vm
set_option Elab.async false
set_option linter.all false
set_option maxRecDepth 100000
set_option maxHeartbeats 4000000
/-! list.remove of data; sorted(set(..)) of whole numbers. -/
namespace Vm
open PySem PySem.Spec PyProof.Rows L2
section
variable {X : Cx} {D : Wd} {Wx : WX} {io : List Addr} {H : Hp} {S : Vs} {σ : L2.St} {x y z : W} {v u : V} {Q : VK} {a b c : Expr} {ia ib ic : IE} {pos apos : Pos}
/-! ### remove -/
def rRemD (K : Fg) : V → List V → Hp → VK → Prop := fun x ys H Q => ∃ (l : Addr) (y : V) (d : PyData) (ds : List PyData) (xs : List V) (j : Nat), x = .ref l ∧ ys = [y] ∧ H l = some (.lst xs) ∧ Dp K H (.ref l) (.list ds) ∧ Dp K H y d ∧
  SeqAt.shaped (.list ds) = true ∧ SeqAt.shaped d = true ∧ (ds.findIdx? fun z => PyData.eqv z d) = some j ∧ Q .non (upd H l (.lst (xs.eraseIdx j)))
theorem mt_removeD (hu : X.A.units + 65 < cLine) : MtR X "list.remove" (rRemD X.K) := by
  intro pins s σ H x xs v us Q I rx rxs h
  obtain ⟨l, y, d, ds, ys, j, rfl, rfl, hH, hl, hy, sl, sd, hj, q⟩ := h
  cases rx
  obtain ⟨uy, rfl, ry⟩ := rxs.one
  obtain ⟨bs, r1⟩ := Dp.reads I d y uy hy ry
  have hxs : PyData.canLayAll0 ds = true := SeqAt.canLay_of_shaped sl
  have hroom : X.A.units + 1 + min (PyData.depthAll ds) d.depth < cLine := room_in_shaped sd hu
  obtain ⟨z, its, n, r, hlen, e⟩ := I.lstM hH
  have rd : ∃ as, ReadsAll s.heap its ds as := by
    cases hl with
    | lst hs ha =>
      obtain ⟨its', rv, ⟨⟨cls, dd, data, sls⟩, n', ho, hc, hdn, hdt⟩, _⟩ := I.list hs
      simp only at hc hdt
      subst hc hdt
      rw [e] at ho
      cases ho
      have h4 := Dp.readsAll I ds _ _ ha rv
      exact h4
  obtain ⟨as, h4⟩ := rd
  have hn : its.length = ds.length := SeqAt.ReadsAll.length ds its as h4
  have hmap : its.map (SeqAt.readOf s.heap) = ds := SeqAt.readsAll_map ds its as hxs h4
  obtain ⟨hjd, hj2, hj3⟩ := List.findIdx?_eq_some_iff_getElem.mp hj
  have hjl : j < its.length := by omega
  have hjs : j < its.toArray.size := by simpa using hjl
  have at_ : ∀ (m : Nat) (hm : m < its.toArray.size) (hd : m < ds.length), SeqAt.readOf s.heap its.toArray[m] = ds[m] := by
    intro m hm hd
    have hml : m < its.length := by simpa using hm
    have e1 : ds[m]? = some (SeqAt.readOf s.heap its[m]) := by rw [← hmap, List.getElem?_map, List.getElem?_eq_getElem hml] <;> rfl
    rw [List.getElem?_eq_getElem hd] at e1
    have e2 := Option.some.inj e1
    rw [e2]
    simp
  refine call_meets PySem.F.slot_list_remove ⟨_, e, rfl⟩ PySem.F.entry_list_remove (PySem.F.args_list_remove_2 _ _)
    (SeqAt.list_removeAt l its.toArray n none #[] uy (fun u => PyData.eqv (SeqAt.readOf s.heap u) d) j hjs ?_ ?_ ?_) ⟨e, SeqAt.items_eqAt (vs := its.toArray) (show ReadsAll s.heap its.toArray.toList ds as from h4) r1 hxs (SeqAt.canLay_of_shaped sd) hroom, ?_⟩
  · show PyData.eqv (SeqAt.readOf s.heap its.toArray[j]) d = true
    rw [at_ j hjs hjd]
    exact hj2
  · intro m hm hmj
    show PyData.eqv (SeqAt.readOf s.heap its.toArray[m]) d = false
    rw [at_ m hm (by omega)]
    have := hj3 m hmj
    simpa using this
  · rw [List.size_toArray, ← hlen]; exact z
  · refine ⟨.non, _, I.lset (its' := its.eraseIdx j) hH e ?_ (r.eraseIdx j) ?_, rfl, q⟩
    · show its.toArray.eraseIdxIfInBounds j = (its.eraseIdx j).toArray
      rw [List.eraseIdxIfInBounds_toArray]
    · have := List.length_eraseIdx_le ys j
      omega
theorem Reps.eraseIdx : ∀ {l : List W} {xs : List V} (n : Nat), Reps X.K X.mg io H l xs → Reps X.K X.mg io H (l.eraseIdx n) (xs.eraseIdx n)
  | _, _, _, .nil => by simp; exact .nil
  | _, _, 0, .cons _ t => t
  | _, _, n + 1, .cons r t => .cons r (Reps.eraseIdx n t)
theorem remove_ok : MOk X.K X.mg Wx "remove" (rRemD X.K) := fun io H S σ x v ws vs Q s rx r p => by
  rw [mtV_remove] at p
  cases rx with
  | @ref n q h =>
    cases r with
    | nil => exact p.elim
    | @cons w u ws vs q1 t =>
      cases t with
      | cons _ _ => exact p.elim
      | nil =>
        have p : Po X.K X.mg Wx (Rep X.K X.mg) (match S[n]?, toD S 100000 w, toD S 100000 (.ref n) with
          | some (.lst l), some d, some (.list ds) => if SeqAt.shaped d && SeqAt.shaped (.list ds) then (match ds.findIdx? fun z => PyData.eqv z d with
            | some j => .ok .non (S.set n (.lst (l.eraseIdx j)))
            | none => .err) else .err
          | _, _, _ => .err) io H σ Q := p
        split at p
        · rename_i l d ds e1 e2 e3
          obtain ⟨xs, hx, r1⟩ := s.lst h e1
          by_cases hf : (SeqAt.shaped d && SeqAt.shaped (.list ds)) = true
          · rw [if_pos hf] at p
            rw [Bool.and_eq_true] at hf
            split at p
            · rename_i j ej
              exact ⟨_, _, d, ds, xs, j, rfl, rfl, hx, toD_ok s _ (.ref h) e3, toD_ok s _ q1 e2, hf.2, hf.1, ej, p _ _ _ (Ex.write (List.mem_iff_getElem?.mpr ⟨n, h⟩) (nf_of hx trivial)) (s.write h (nf_of hx trivial) (.lst (r1.eraseIdx j))) .non⟩
            · exact p.elim
          · rw [if_neg hf] at p; exact p.elim
        · exact p.elim
  | _ => cases r <;> exact p.elim
theorem pv_remove {es : List Expr} {l : IL} {apos : Pos} (hu : X.A.units + 65 < cLine) (hb : baseOk a = true) (hline : (apos.endLine == pos.line) = true) (hs : noStars (b :: es) = true) (hl : (b :: es).length < 29) (ha : PV X D Wx a ia) (hes : PVs X D Wx (b :: es) l) :
    PV X D Wx (.Call (.Attribute a "remove" apos) (b :: es) [] pos) (.meth ia "remove" l) := pv_lmeth PySem.F.plainAttrs_list PySem.F.slot_list_remove PySem.F.type_list_remove (mt_removeD hu) remove_ok (by decide +kernel) hb hline hs hl ha hes
end
end Vm
set_option Elab.async false
set_option linter.all false
set_option maxRecDepth 100000
set_option maxHeartbeats 6400000
/-! set(list), whatever the members are; sorted(set(list)) of whole numbers. -/
namespace Vm
open PySem PySem.Spec PyProof.Rows L2
/-- a new set, nothing in it -/
abbrev eSet (w : World) : Obj := { cls := .type "set", dict := none, data := .set #[] 0 (.fresh 0 0 (!w.params.followText "set-order")) }
section
variable {P : Program} {w : World} {A : Around} {E : Value → Shared → Prop} {s : Shared}
/-- the loop of set(l): what it leaves behind -/
def UpLoop (P : Program) (w : World) (items : Array Value) (Z : Heap → Addr → Prop) : Prop := ∀ (A' : Around) (I : Addr) (fp wr : List Addr) (G : Array GenState → Array GenState → Prop) (St : Nat → Shared → Prop) (R : Result → Shared → Prop)
  (_ : WalksS P w A'.in1 I fp wr G items.size (fun i v => items[i]? = some v) St) (S : Addr) (_ : S ∉ fp) (s1 : Shared), St 0 s1 → s1.heap.get? S = some (eSet w) →
  (∀ s', Moved (S :: wr) G s1 s' → Z s'.heap S → R (.ok (.ret .none)) s') → codeAny (model P w) A' (.builtin "set.update.loop" ⟨[.ref S, .ref I], []⟩) R s1
theorem call_set_by {l : Addr} {items : Array Value} {Z : Heap → Addr → Prop} {Q : Value → Shared → Prop} (hup : UpLoop P w items Z) (hh : A.handled = none) (hl : s.heap.IsList l items)
    (h : ∀ (h' : Heap) (tk : Nat), Z h' s.heap.objs.size → (∀ b o, s.heap.get? b = some o → h'.get? b = some o) → Q (.ref s.heap.objs.size) { s with heap := h', toks := tk }) :
    wpAny (model P w) A (call (.type "set") [.ref l]) Q E s := by
  obtain ⟨c, tl, hmro⟩ := F.called_set.mro
  have g1 := F.called_set.made
  have g2 := F.called_set.sub
  have g3 := F.called_set.notType
  have g4 := F.called_set.canCreate
  have g5 := F.typeCall_set_1 (.ref l)
  have g6 := F.called_set.init.lookup
  generalize hT0 : s.heap.objs.size = T at h
  have hget : (s.heap.push (eSet w)).get? T = some (eSet w) := by rw [← hT0]; exact Heap.get?_push_size _ rfl
  have hty : Shared.TypeIs { s with heap := s.heap.push (eSet w) } (.ref T) "set" := ⟨_, hget, rfl⟩
  have g7 := F.called_set.init.bind (.ref T)
  have hlt : l < T := by
    obtain ⟨ol, hol, _⟩ := hl
    rw [← hT0]
    exact Heap.lt_size hol
  refine wpAny_call (codeAny_of_tree ?_)
  show wpAny _ _ (callAny (.type "set") _) _ _ _
  refine wpAny_pure ⟨Code.quiet_builtin _ (by decide +kernel), codeAny_builtin F.entry_type_call ?_⟩
  rw [Around.under_plain (weight_type_call_type "set" [.ref l] []) rfl]
  repeat (any_goals (first | assumption | wp_step))
  refine codeAny_mono (code_set_led1 (.ref l) (E := E) (Q₁ := fun obj s₁ => obj = .ref T ∧ s₁ = { s with heap := s.heap.push (eSet w) }) ⟨by rw [hT0], rfl⟩) fun r s₁ hr => ?_
  match r, hr with
  | .error e, hr => exact hr
  | .ok (.ret obj), hr =>
    obtain ⟨rfl, rfl⟩ := hr
    repeat (any_goals (first | assumption | wp_step))
    refine codeAny_mono (codeAny_call_builtin (R := wants (fun r s₂ => r = .none ∧ ∃ h' tk, s₂ = { s with heap := h', toks := tk } ∧ Z h' T ∧ ∀ b o, s.heap.get? b = some o → h'.get? b = some o) E)
      F.called_set.init.plain F.entry_set_init (check_set_init_1 hty ?_)) fun r₂ s₂ hr₂ => ?_
    · obtain ⟨ol, hol, hcl, nl, hdl⟩ := id hl
      obtain ⟨ocls, odict, odata, oslots⟩ := ol
      simp only at hcl hdl
      subst hcl; subst hdl
      have hol' := Heap.get?_push_of_some (eSet w) hol
      have k1 := F.sub_list_set
      have k2 := F.sub_list_frozenset
      have k3 : (Value.type "list" == Value.type "dict") = false := by decide
      have hl1 : (s.heap.push (eSet w)).IsList l items := ⟨_, hol', rfl, nl, rfl⟩
      unfold Builtin.«set.__init__» noKeywords Builtin.Frozenset.updateFrom
      generalize hPI : pyIter = PI
      wp_walk
      subst hPI
      refine wpAny_pyIter_list hl1 ?_
      refine wpAny_bind (wpAny_runValue ?_)
      have hz : (s.heap.push (eSet w)).objs.size = T + 1 := by rw [Heap.size_push, hT0]
      have hh3 : A.in1.in1.in1.handled = none := by simp [hh]
      have hneI : l ≠ (s.heap.push (eSet w)).objs.size := by rw [hz]; exact Nat.ne_of_lt (Nat.lt_succ_of_lt hlt)
      refine hup _ _ _ _ _ _ _ (Walks.list hh3 _ l hneI items).toS T (by simp only [List.mem_cons, List.mem_singleton, List.not_mem_nil, or_false, not_or]; exact ⟨by rw [hz]; exact Nat.ne_of_lt (Nat.lt_succ_self _), Nat.ne_of_gt hlt⟩) _
        ⟨⟨_, Heap.get?_push_size _ rfl, rfl, rfl⟩, (hl1.push _)⟩ (Heap.get?_push_of_some _ hget) fun s' hm hZ => ?_
      obtain ⟨h', g', d', tk', os'⟩ := s'
      have eg : g' = s.gens := hm.gens
      have ed : d' = s.drawn := hm.drawn
      have eo : os' = s.os := hm.os
      subst eg; subst ed; subst eo
      show wpAny _ _ _ _ _ _
      refine wpAny_pure ?_
      show wpAny _ _ (ret Value.none) _ _ _
      refine wpAny_pure ⟨rfl, h', tk', rfl, hZ, fun b o e => ?_⟩
      have hb : b < T := by rw [← hT0]; exact Heap.lt_size e
      exact hm.heap b o (by simp only [List.mem_cons, List.mem_singleton, List.not_mem_nil, or_false, not_or]; exact ⟨Nat.ne_of_lt hb, by rw [hz]; exact Nat.ne_of_lt (Nat.lt_succ_of_lt hb)⟩) (Heap.get?_push_of_some _ (Heap.get?_push_of_some _ e))
    · match r₂, hr₂ with
      | .error e, hr₂ => exact hr₂
      | .ok (.ret r), hr₂ =>
        obtain ⟨rfl, h', tk, rfl, hZ, hk⟩ := hr₂
        repeat (any_goals (first | assumption | wp_step))
        exact h _ _ hZ hk
theorem up_ints {items : Array Value} (ns : List Int) (hit : IntsAre items.toList ns) (hb : ns.length + 1 < scanBound) : UpLoop P w items (fun h S => ∃ c, SetR w h S (fun j => decide (j ∈ ns)) c ∧ c ≤ ns.length) := by
  intro A' I fp wr G St R W S hS s1 h0 hg hR
  have hisz : items.size = ns.length := by
    have q := IntsAre.length hit
    rw [Array.length_toList] at q
    exact q
  refine set_update_ints W S hS ns hisz hb (fun i v hv => ?_) (items.size - 0) 0 s1 (by omega) (Nat.zero_le _) h0 ⟨0, Nat.le_refl 0, setR_new_at hg⟩ fun s' c hm hc hz => hR s' hm ⟨c, hz, by rw [← hisz]; exact hc⟩
  have hi : i < ns.length := by rw [← hisz]; exact (Array.getElem?_eq_some_iff.mp hv).1
  obtain ⟨t, e⟩ := IntsAre.int_at hit i v (by rw [Array.getElem?_toList]; exact hv)
  refine ⟨ns[i], t, List.getElem?_eq_getElem hi, ?_⟩
  rw [e, List.getD_eq_getElem?_getD, List.getElem?_eq_getElem hi] <;> rfl
end
end Vm
set_option Elab.async false
set_option linter.all false
set_option maxRecDepth 100000
set_option maxHeartbeats 2000000
/-! sorted(set(list)) of whole numbers. -/
namespace Vm
open PySem PySem.Spec L2
theorem mem_insI (k : Int) : ∀ (l : List Int) (j : Int), j ∈ insI k l ↔ j = k ∨ j ∈ l
  | [], j => by simp [insI]
  | x :: r, j => by
    unfold insI
    split
    · simp
    · split
      · rename_i e
        subst e
        simp
      · rw [List.mem_cons, List.mem_cons, mem_insI k r j]
        constructor
        · rintro (h | h | h)
          · exact .inr (.inl h)
          · exact .inl h
          · exact .inr (.inr h)
        · rintro (h | h | h)
          · exact .inr (.inl h)
          · exact .inl h
          · exact .inr (.inr h)
theorem mem_sortI : ∀ (l : List Int) (j : Int), j ∈ sortI l ↔ j ∈ l
  | [], j => Iff.rfl
  | x :: r, j => by
    show j ∈ insI x (sortI r) ↔ _
    rw [mem_insI, mem_sortI r j, List.mem_cons]
theorem insI_pw (k : Int) : ∀ {l : List Int}, l.Pairwise (· < ·) → (insI k l).Pairwise (· < ·)
  | [], _ => List.pairwise_singleton _ _
  | x :: r, h => by
    obtain ⟨h1, h2⟩ := List.pairwise_cons.mp h
    unfold insI
    split
    · rename_i hl
      refine List.pairwise_cons.mpr ⟨fun z hz => ?_, h⟩
      rcases List.mem_cons.mp hz with rfl | hz
      · exact hl
      · have := h1 z hz; omega
    · split
      · exact h
      · refine List.pairwise_cons.mpr ⟨fun z hz => ?_, insI_pw k h2⟩
        rcases (mem_insI k r z).mp hz with rfl | hz
        · omega
        · exact h1 z hz
theorem sortI_pw : ∀ l, (sortI l).Pairwise (· < ·)
  | [] => List.Pairwise.nil
  | x :: r => insI_pw x (sortI_pw r)
theorem pw_uniq : ∀ {l m : List Int}, l.Pairwise (· < ·) → m.Pairwise (· < ·) → (∀ k, k ∈ l ↔ k ∈ m) → l = m
  | [], [], _, _, _ => rfl
  | [], y :: m, _, _, h => absurd ((h y).mpr List.mem_cons_self) (by simp)
  | x :: l, [], _, _, h => absurd ((h x).mp List.mem_cons_self) (by simp)
  | x :: l, y :: m, h1, h2, h => by
    obtain ⟨a1, a2⟩ := List.pairwise_cons.mp h1
    obtain ⟨b1, b2⟩ := List.pairwise_cons.mp h2
    have e : x = y := by
      rcases List.mem_cons.mp ((h x).mp List.mem_cons_self) with e | e
      · exact e
      · rcases List.mem_cons.mp ((h y).mpr List.mem_cons_self) with f | f
        · exact f.symm
        · have := a1 y f
          have := b1 x e
          omega
    subst e
    congr 1
    refine pw_uniq a2 b2 fun k => ⟨fun z => ?_, fun z => ?_⟩
    · rcases List.mem_cons.mp ((h k).mp (List.mem_cons_of_mem _ z)) with e | e
      · subst e
        have := a1 _ z
        omega
      · exact e
    · rcases List.mem_cons.mp ((h k).mpr (List.mem_cons_of_mem _ z)) with e | e
      · subst e
        have := b1 _ z
        omega
      · exact e
section
variable {X : Cx} {D : Wd} {Wx : WX} {io : List Addr} {H : Hp} {S : Vs} {σ : L2.St} {x y z : W} {v u : V} {Q : VK} {a b c : Expr} {ia ib ic : IE} {pos apos : Pos}
def rSetOfI (K : Fg) (w : World) : List V → Hp → VK → Prop := fun xs H Q => ∃ (l : Addr) (ns : List Int), xs = [V.ref l] ∧ SqL K H l (ns.map V.int) ∧ ns.length < 60 ∧
  ∀ a c, H a = none → c ≤ ns.length → Q (.ref a) (upd H a (SetO w a (fun j => decide (j ∈ ns)) c))
theorem cr_setOfI (hc : X.calm = true) : CallR X (.type "set") (rSetOfI X.K X.w) := by
  intro pins s σ H xs us Q I r h
  obtain ⟨l, ns, rfl, hl, hf, q⟩ := h
  rw [Vals.ref1 r]
  obtain ⟨its, rv, pl, hz⟩ := I.list hl
  have hn : H s.heap.objs.size = none := I.hok.fresh (Nat.le_refl _)
  refine call_set_by (up_ints ns (by simpa using ints_of_vals rv) (by unfold scanBound; omega)) (I.ok.hd hc) pl.isList fun h' tk ⟨c, R, hc'⟩ k => ?_
  exact ⟨.ref s.heap.objs.size, _, I.laid (t' := tk) k (Nat.le_refl _) (setO_new R), rfl, q _ c hn hc'⟩
theorem ints_rep : ∀ {l : List W} {xs : List V}, Reps X.K X.mg io H l xs → ∀ {is : List Int}, intsW l = some is → xs = is.map V.int
  | _, _, .nil, is, h => by cases h; rfl
  | _, _, .cons q t, is, h => by
    cases q with
    | int b =>
      obtain ⟨is', e, rfl⟩ := map_some (show (intsW _).map (b :: ·) = some is from h)
      rw [ints_rep t e]
      rfl
    | _ => cases h
theorem reps_ints : ∀ (is : List Int), Reps X.K X.mg io H (is.map W.int) (is.map V.int)
  | [] => .nil
  | i :: is => .cons (.int i) (reps_ints is)
theorem pv_srtset {l : IL} {p p2 q : Pos} (hc : X.calm = true) (hg : Gl X "sorted") (hm : X.mg "sorted" = none) (hg2 : Gl X "set") (hm2 : X.mg "set" = none) (hs : notStar a = true) (ha : PVs X D Wx [a] l) :
    PV X D Wx (.Call (.Name "sorted" p) [.Call (.Name "set" p2) [a] [] q] [] pos) (.bi .srtset l) := by
  have h1 : PE X (.Call (.Name "set" p2) [a] [] q) (tCB (rSetOfI X.K X.w) (trA X.K X.mg Wx (denL D l))) := pe_callTy (cr_setOfI hc) hg2 hm2 PyProof.Rows.boot_set ha (by decide) (by decide) (star_of hs) rfl
  refine peMono (pe_callB (cr_sortedSet hc) hg hm PyProof.Rows.boot_sorted (pa_cons h1 pa_nil rfl) (by decide) (by decide) rfl rfl) fun σ H Q ⟨io, S, r, s, e, p⟩ => ?_
  rw [den] at p
  refine ⟨io, S, r, s, e, p.bind fun ws S1 io1 vs H1 _ x1 s1 r1 p1 => ?_⟩
  cases r1 with
  | nil => exact p1.elim
  | cons r1 t =>
    cases t with
    | cons _ _ => cases r1 <;> exact p1.elim
    | nil =>
      cases r1 with
      | @ref n ad hn =>
        have p1 : Po X.K X.mg Wx (Rep X.K X.mg) (match lstAt S1 n with
          | some l => (match intsW l with
            | some is => if decide (is.length < 60) then newL ((sortI is).map .int) S1 else .err
            | none => .err)
          | none => .err) io1 H1 σ Q := p1
        split at p1
        · rename_i l e1
          split at p1
          · rename_i is e2
            by_cases hf : decide (is.length < 60) = true
            · rw [if_pos hf] at p1
              have hf := of_decide_eq_true hf
              obtain ⟨xs, hx, r2⟩ := s1.lst hn (lstAt_of e1)
              have e3 := ints_rep r2 e2
              subst e3
              refine ⟨ad, is, rfl, SqL.of hx, hf, fun b c hb hcl => ⟨b, _, c, rfl, upd_same, by omega, fun ns p hw hm hl hp => ?_⟩⟩
              have e4 : ns = sortI is := pw_uniq hw (sortI_pw is) fun k => by rw [hm k, mem_sortI]; simp
              rw [e4]
              have y1 : Ex io1 H1 io1 (upd H1 b (SetO X.w b (fun j => decide (j ∈ is)) c)) := Ex.new hb
              exact (s1.new (o := SetO X.w b (fun j => decide (j ∈ is)) c) hb).nu _ _ (reps_ints (sortI is)) (Po.ext y1 p1) p hp
            · rw [if_neg hf] at p1; exact p1.elim
          · exact p1.elim
        · exact p1.elim
      | _ => exact p1.elim
end
end Vm
set_option Elab.async false
set_option linter.all false
set_option maxRecDepth 100000
set_option maxHeartbeats 1000000
/-! That a text is the interpreter's: a check, and what it shows. -/
namespace Vm
open PySem L2
/-- what is known of the module: constants, defs, classes by their __init__, methods, names that it does not bind -/
structure Tb where
  gl : Str → Option W
  fn : Str → Option Fd
  cl : Str → Option Fd
  mt : Str → Str → Option Fd
  bi : List Str
  eq : List Str
  isc : List Str
  fw : Bool := true
  xn : Bool := false
  xh : List Str := []
  kn : Bool := false
  kw : Str → Option (List Str × List Nat) := fun _ => none
def visB (sc : Scope) (x : Str) : Bool := match sc.names.lookup x with
  | some .local => true | some .cell => true | some .free => true | _ => false
def locB (sc : Scope) (x : Str) : Bool := match sc.names.lookup x with
  | some .local => true | some .cell => true | _ => false
def glB (sc : Scope) (x : Str) : Bool := match sc.names.lookup x with
  | some .globalImplicit => true | _ => false
def lclB (sc : Scope) (x : Str) : Bool := match sc.names.lookup x with
  | some .local => true | _ => false
def celB (sc : Scope) (x : Str) : Bool := match sc.names.lookup x with
  | some .cell => true | _ => false
def nmOk (x : Str) : Bool := !(x == ("__debug__" : Str)) && !(x == ("__classdict__" : Str)) && !(x == ("__name__" : Str))
def conB : Const → W → Bool
  | .none, .non => true
  | .bool a, .bl b => decide (a = b)
  | .int a, .int b => decide (a = b)
  | .str a, .str b => decide (a = b)
  | _, _ => false
/-- the target's names and their slots -/
def tgB (N : List Str) (sc : Scope) : Expr → Tg → Bool
  | .Name x _, .nm i => decide (N[i]? = some x) && locB sc x
  | .Tuple es _ _, .tp l => noStars es && decide (es.length = l.length) && (es.zip l).all fun p => match p.1 with
    | .Name x _ => decide (N[p.2]? = some x) && locB sc x
    | _ => false
  | _, _ => false
def tgNames : Expr → Tg → List (Str × Nat)
  | .Name x _, .nm i => [(x, i)]
  | .Tuple es _ _, .tp l => (es.zip l).map fun p => (match p.1 with
    | .Name x _ => x
    | _ => Str.empty, p.2)
  | _, _ => []
def argB (d : Fd) (k : Nat) : Bool := decide (k ≤ d.np ∧ d.np - k ≤ d.dfl.length)
def isSrt : Bf → Bool
  | .srtset => true
  | _ => false
section
variable (T : Tb)
mutual
def chkE : Nat → List Str → Scope → Expr → IE → Bool
  | 0, _, _, _, _ => false
  | n + 1, N, sc, e, i => match i with
    | .var k => (match e with
      | .Name x _ => decide (N[k]? = some x) && visB sc x && nmOk x
      | _ => false)
    | .con w => (match e with
      | .Constant c _ _ => conB c w
      | _ => false)
    | .glo x => (match e with
      | .Name y _ => decide (y = x) && glB sc x && (T.gl x).isSome && nmOk x
      | _ => false)
    | .bin o a b => (match e with
      | .BinOp a' op b' _ => decide (op = opOf o) && chkE n N sc a' a && chkE n N sc b' b
      | _ => false)
    | .not a => (match e with
      | .UnaryOp .Not a' _ => chkE n N sc a' a
      | _ => false)
    | .neg a => (match e with
      | .UnaryOp .USub a' _ => chkE n N sc a' a
      | _ => false)
    | .and a b => (match e with
      | .BoolOp .And [x, y] _ => chkE n N sc x a && chkE n N sc y b
      | .BoolOp .And (x :: y :: r) p => chkE n N sc x a && chkE n N sc (.BoolOp .And (y :: r) p) b
      | _ => false)
    | .or a b => (match e with
      | .BoolOp .Or [x, y] _ => chkE n N sc x a && chkE n N sc y b
      | .BoolOp .Or (x :: y :: r) p => chkE n N sc x a && chkE n N sc (.BoolOp .Or (y :: r) p) b
      | _ => false)
    | .ite c a b => (match e with
      | .IfExp c' a' b' _ => chkT n N sc c' c && chkE n N sc a' a && chkE n N sc b' b
      | _ => false)
    | .cmp o a b => (match e with
      | .Compare a' [op] [b'] _ => decide (op = cmpOf o) && notSet b' && chkE n N sc a' a && chkE n N sc b' b
      | _ => false)
    | .chn o p a b c => (match e with
      | .Compare a' [op, op'] [b', c'] _ => decide (op = cmpOf o) && decide (op' = cmpOf p) && notSet c' && chkE n N sc a' a && chkE n N sc b' b && chkE n N sc c' c
      | _ => false)
    | .tup l => (match e with
      | .Tuple es _ _ => chkL n N sc es l
      | _ => false)
    | .lst l => (match e with
      | .List es _ => chkL n N sc es l
      | _ => false)
    | .idx a b => (match e with
      | .Subscript a' b' _ => notSlice b' && chkE n N sc a' a && chkE n N sc b' b
      | _ => false)
    | .slc a lo hi => (match e with
      | .Subscript a' (.Slice l h none _) _ => chkE n N sc a' a && chkO n N sc l lo && chkO n N sc h hi
      | _ => false)
    | .fld a f => (match e with
      | .Attribute a' g _ => decide (g = f) && baseOk a' && chkE n N sc a' a
      | _ => false)
    | .call f l => (match e with
      | .Call (.Name g _) (a' :: es) [] _ => decide (g = f) && glB sc f && nmOk f && noStars (a' :: es) && chkL n N sc (a' :: es) l && (match T.fn f with
        | some d => argB d (lenL l)
        | none => (match T.cl f with
          | some d => argB d (lenL l + 1)
          | none => false))
      | _ => false)
    | .callk f pm ks vs => (match e with
      | .Call (.Name g _) [] kws _ => decide (g = f) && glB sc f && nmOk f && decide (T.kw f = some (ks, pm)) && decide (kws.map (·.arg) = ks.map some) && chkL n N sc (kws.map (·.value)) vs
      | _ => false)
    | .bi f l => (match e with
      | .Call (.Name g _) (a' :: es) [] _ => decide (g = biName f) && biHas f && glB sc g && T.bi.contains g && noStars (a' :: es) && chkL n N sc (a' :: es) l
      | _ => false) || (isSrt f && (match e with
      | .Call (.Name g _) [.Call (.Name g2 _) [a'] [] _] [] _ => decide (g = "sorted") && decide (g2 = "set") && glB sc g && T.bi.contains g && glB sc g2 && T.bi.contains g2 && notStar a' && chkL n N sc [a'] l
      | _ => false))
    | .isi a t => (match e with
      | .Call (.Name g _) [a', .Name t' _] [] _ => decide (g = "isinstance") && decide (t' = t) && (isBase t).isSome && glB sc g && T.bi.contains g && glB sc t && T.bi.contains t && notStar a' && chkE n N sc a' a
      | _ => false)
    | .meth a m l => (match e with
      | .Call (.Attribute a' g ap) (b' :: es) [] p => decide (g = m) && (decide (m = "append") || decide (m = "insert") || decide (m = "remove")) && baseOk a' && (ap.endLine == p.line) && noStars (b' :: es) && decide ((b' :: es).length < 29) && chkE n N sc a' a && chkL n N sc (b' :: es) l
      | _ => false) || (decide (m = "join") && (match e, l with
      | .Call (.Attribute a' g ap) [b'] [] p, .cons ib .nil => decide (g = "join") && baseOk a' && (ap.endLine == p.line) && notStar b' && chkE n N sc a' a && chkE n N sc b' ib
      | _, _ => false))
    | .rev a => (match e with
      | .Subscript a' (.Slice none none (some (.UnaryOp .USub (.Constant (.int 1) _ _) _)) _) _ => chkE n N sc a' a
      | _ => false)
    | .omt c m a l => (match e with
      | .Call (.Attribute a' g ap) es [] p => decide (g = m) && baseOk a' && (ap.endLine == p.line) && noStars es && decide (es.length < 29) && chkE n N sc a' a && chkL n N sc es l && (match T.mt c m with
        | some d => argB d (lenL l + 1)
        | none => false)
      | _ => false)
    | .fmt a => (match e with
      | .FormattedValue a' k none _ => decide (k = -1) && chkE n N sc a' a
      | _ => false)
    | .fst l => (match e with
      | .JoinedStr (x :: y :: r) _ => chkL n N sc (x :: y :: r) l
      | _ => false)
    | .ostr c a => (match e with
      | .Call (.Name f _) [a'] [] _ => decide (f = "str") && glB sc "str" && T.bi.contains "str" && notStar a' && T.fw && (match T.mt c "__str__" with
        | some d => decide (d.np = 1)
        | none => false) && chkE n N sc a' a
      | _ => false)
    | .ceq ng cs a b => (match e with
      | .Compare a' [op] [b'] _ => T.fw && decide (op = ngOp ng) && cs.all T.eq.contains && notSet b' && chkE n N sc a' a && chkE n N sc b' b
      | _ => false)
    | .iso a t cs => (match e with
      | .Call (.Name g _) [a', .Name t' _] [] _ => decide (g = "isinstance") && decide (t' = t) && decide (cs = T.isc) && cs.contains t && glB sc g && T.bi.contains g && glB sc t && nmOk t && notStar a' && chkE n N sc a' a
      | _ => false)
    | .lc ie tg it ic => (match e with
      | .ListComp elt [⟨te, ti, ifs, 0⟩] scope _ => chkC n N sc elt te ti ifs scope ie tg it ic
      | _ => false)
    | .dic l => (match e with
      | .Dict ks vs _ => ks.all (·.isSome) && decide (ks.length = vs.length) && decide (ks.length ≤ 15) && chkP n N sc ks vs l
      | _ => false)
    | .dget a k d => (match e with
      | .Call (.Attribute a' g ap) [b', c'] [] p => decide (g = "get") && baseOk a' && (ap.endLine == p.line) && notStar b' && notStar c' && chkE n N sc a' a && chkE n N sc b' k && chkE n N sc c' d
      | _ => false)
    | .dpop a k => (match e with
      | .Call (.Attribute a' g ap) [b'] [] p => decide (g = "pop") && baseOk a' && (ap.endLine == p.line) && notStar b' && chkE n N sc a' a && chkE n N sc b' k
      | _ => false)
    | .dsetd a k d => (match e with
      | .Call (.Attribute a' g ap) [b', c'] [] p => decide (g = "setdefault") && baseOk a' && (ap.endLine == p.line) && notStar b' && notStar c' && chkE n N sc a' a && chkE n N sc b' k && chkE n N sc c' d
      | _ => false)
    | .din ng k a => (match e with
      | .Compare a' [op] [b'] _ => decide (op = inOp ng) && notSet b' && chkE n N sc a' k && chkE n N sc b' a
      | _ => false)
    | .lcd ie tg ia ic => (match e with
      | .ListComp elt [⟨te, ti, ifs, 0⟩] scope _ => chkC n N sc elt te ti ifs scope ie tg (.val ia) ic && chkE n N sc ti ia
      | _ => false)
    | _ => false
def chkC : Nat → List Str → Scope → Expr → Expr → Expr → List Expr → Scope → IE → Tg → II → IE → Bool
  | 0, _, _, _, _, _, _, _, _, _, _, _ => false
  | n + 1, N, sc, elt, te, ti, ifs, scope, ie, tg, it, ic => blkC N sc scope (tgNames te tg) && tgB N scope te tg && decide ((tgNames te tg).map (·.2) = tgSlots tg) && notSet ti && chkI n N sc te ti it && chkE n N scope elt ie && (match ifs with
    | [] => (match ic with
      | .con (.bl true) => true
      | _ => false)
    | [c] => chkT n N scope c ic
    | _ => false)
def chkP : Nat → List Str → Scope → List (Option Expr) → List Expr → IL → Bool
  | 0, _, _, _, _, _ => false
  | n + 1, N, sc, ks, vs, l => match ks, vs, l with
    | [], [], .nil => true
    | some k :: ks, v :: vs, .cons ik (.cons iv l) => chkE n N sc k ik && chkE n N sc v iv && chkP n N sc ks vs l
    | _, _, _ => false
def chkL : Nat → List Str → Scope → List Expr → IL → Bool
  | 0, _, _, _, _ => false
  | n + 1, N, sc, es, l => match es, l with
    | [], .nil => true
    | e :: es, .cons i l => notStar e && chkE n N sc e i && chkL n N sc es l
    | _, _ => false
def chkO : Nat → List Str → Scope → Option Expr → IE → Bool
  | 0, _, _, _, _ => false
  | n + 1, N, sc, o, i => match o with
    | none => (match i with
      | .con .non => true
      | _ => false)
    | some e => !miss i && chkE n N sc e i
def chkI : Nat → List Str → Scope → Expr → Expr → II → Bool
  | 0, _, _, _, _, _ => false
  | n + 1, N, sc, te, e, i => match i with
    | .val a => chkE n N sc e a
    | .rng1 a => (match e with
      | .Call (.Name g _) [a'] [] _ => decide (g = "range") && glB sc g && T.bi.contains g && notStar a' && chkE n N sc a' a
      | _ => false)
    | .zip a b => (match e with
      | .Call (.Name g _) [a', b'] [] _ => (match te with
        | .Tuple _ _ _ => true
        | _ => false) && decide (g = "zip") && glB sc g && T.bi.contains g && notStar a' && notStar b' && chkE n N sc a' a && chkE n N sc b' b
      | _ => false)
    | .enum a => (match e with
      | .Call (.Name g _) [a'] [] _ => (match te with
        | .Tuple _ _ _ => true
        | _ => false) && decide (g = "enumerate") && glB sc g && T.bi.contains g && notStar a' && chkE n N sc a' a
      | _ => false)
    | _ => false
def chkT : Nat → List Str → Scope → Expr → IE → Bool
  | 0, _, _, _, _ => false
  | n + 1, N, sc, e, i => match e with
    | .UnaryOp .Not a' _ => (match i with
      | .not a => chkT n N sc a' a
      | _ => false)
    | .BoolOp op es _ => chkW n N sc op es i
    | .Compare a' [op] [b'] _ => (match i with
      | .cmp o a b => decide (op = cmpOf o) && notSet b' && chkE n N sc a' a && chkE n N sc b' b
      | .ceq ng cs a b => T.fw && decide (op = ngOp ng) && cs.all T.eq.contains && notSet b' && chkE n N sc a' a && chkE n N sc b' b
      | .din ng k a => decide (op = inOp ng) && notSet b' && chkE n N sc a' k && chkE n N sc b' a
      | _ => false)
    | .Compare a' [op, op'] [b', c'] _ => (match i with
      | .chn o p a b c => decide (op = cmpOf o) && decide (op' = cmpOf p) && notSet c' && chkE n N sc a' a && chkE n N sc b' b && chkE n N sc c' c
      | _ => false)
    | e => plainT e && chkE n N sc e i
def chkW : Nat → List Str → Scope → BoolOp → List Expr → IE → Bool
  | 0, _, _, _, _, _ => false
  | n + 1, N, sc, op, es, i => match es with
    | [x] => chkT n N sc x i
    | x :: y :: r => (match op, i with
      | .And, .and a b => chkT n N sc x a && chkW n N sc .And (y :: r) b
      | .Or, .or a b => chkT n N sc x a && chkW n N sc .Or (y :: r) b
      | _, _ => false)
    | _ => false
end
/-- raise C(..) -/
def rseB (n : Nat) (N : List Str) (sc : Scope) (e : Option Expr) (cl : Str) (l : IL) : Bool := match e with
  | some (.Call (.Name x _) es [] _) => decide (x = cl) && glB sc x && (match xTab.lookup cl with
    | some i => if i.fs.isEmpty then (match es, l with
        | [.Constant (.str _) _ _], .nil => true
        | _, _ => false) else decide (lenL l ≤ i.fs.length ∧ i.fs.length - lenL l ≤ i.dfl.length) && chkL T n N sc es l
    | none => false)
  | _ => false
/-- the suites' expressions -/
def haB (N : List Str) (sc : Scope) (slot : Nat) : Expr → HA → Bool
  | .Call (.Name f _) [.Name y _] [] _, .kinds => T.kn && decide (f = "_law_kinds") && glB sc f && decide (N[slot]? = some y) && visB sc y && nmOk y
  | .Attribute (.Name y _) g _, .fld f => decide (g = f) && decide (N[slot]? = some y) && visB sc y && nmOk y
  | .Constant (.str y) _ _, .str z => decide (y = z)
  | _, _ => false
def hasB (N : List Str) (sc : Scope) (slot : Nat) : List Expr → List HA → Bool
  | [], [] => true
  | e :: es, h :: l => notStar e && haB T N sc slot e h && hasB N sc slot es l
  | _, _ => false
def hxB (N : List Str) (sc : Scope) (slot : Nat) : Expr → HX → Bool
  | .List es _, .lst l => hasB T N sc slot es l
  | .IfExp (.Compare e [.Eq] [.Constant (.str y) _ _] _) b c _, .ite h z hb hc => haB T N sc slot e h && decide (y = z) && hxB N sc slot b hb && hxB N sc slot c hc
  | e, .at_ h => haB T N sc slot e h
  | _, _ => false
def hdB (N : List Str) (sc : Scope) : ExceptHandler → Hd → Bool
  | .ExceptHandler (some (.Name x _)) (some n) [.Assign [.Name t _] e _] _, h => decide (x = h.cls) && T.xh.contains x && glB sc x && decide (N[h.slot]? = some n) && lclB sc n && decide (N[h.tgt]? = some t) && locB sc t && notComp e && hxB T N sc h.slot e h.e
  | _, _ => false
def hdsB (N : List Str) (sc : Scope) : List ExceptHandler → List Hd → Bool
  | [], [] => true
  | e :: es, h :: l => hdB T N sc e h && hdsB N sc es l
  | _, _ => false
end
mutual
def chkS (T : Tb) : Nat → List Str → Scope → Stmt → IS → Bool
  | 0, _, _, _, _ => false
  | n + 1, N, sc, st, i => match i with
    | .asg k ie => (match st with
      | .Assign [.Name x p2] e pos => decide (N[k]? = some x) && locB sc x && ((notComp e && chkE T n N sc e ie) || (match e with
        | .ListComp elt [⟨te, ti, ifs, 0⟩] scope lpos => (celB sc x && chkE T n N sc e ie) || (lclB sc x && (p2.line == lpos.line) && !(scope.names.any fun (m, k) => m == x && (k == .local || k == .cell)) && (match ie with
          | .lc ie tg it ic => chkC T n N sc elt te ti ifs scope ie tg it ic
          | _ => false))
        | _ => false))
      | _ => false)
    | .asgT l ie => (match st with
      | .Assign [.Tuple es k p2] e pos => notTup e && tgB N sc (.Tuple es k p2) (.tp l) && chkE T n N sc e ie
      | _ => false)
    | .par i j ia ib => (match st with
      | .Assign [.Tuple [.Name x px, .Name y py] _ _] (.Tuple [a, b] _ _) _ => decide (N[i]? = some x) && decide (N[j]? = some y) && decide (i ≠ j) && lclB sc x && lclB sc y && decide (x ≠ y) && (py.line == px.line) && notStar a && notStar b
        && !(foldedForSure 8 a && foldedForSure 8 b) && !(constantsAlone 8 a && constantsAlone 8 b) && chkE T n N sc a ia && chkE T n N sc b ib
      | _ => false)
    | .sfld o f ie => (match st with
      | .Assign [.Attribute a' g _] e _ => decide (g = f) && chkE T n N sc a' o && chkE T n N sc e ie
      | _ => false)
    | .ssub o k ie => (match st with
      | .Assign [.Subscript a' b' _] e _ => notSlice b' && chkE T n N sc a' o && chkE T n N sc b' k && chkE T n N sc e ie
      | _ => false)
    | .exp ie => (match st with
      | .Expr e _ => notComp e && chkE T n N sc e ie
      | _ => false)
    | .ret ie => (match st with
      | .Return (some e) _ => chkE T n N sc e ie
      | _ => false)
    | .retN => (match st with
      | .Return none _ => true
      | _ => false)
    | .ifs c a b => (match st with
      | .If c' a' b' _ => chkT T n N sc c' c && chkB T n N sc a' a && chkB T n N sc b' b
      | _ => false)
    | .whl c b => (match st with
      | .While c' b' [] _ => chkT T n N sc c' c && chkB T n N sc b' b
      | _ => false)
    | .fors tg it b => (match st with
      | .For te ti b' [] _ => tgB N sc te tg && notSet ti && chkI T n N sc te ti it && chkB T n N sc b' b
      | _ => false)
    | .ford tg a b => (match st with
      | .For te ti b' [] _ => tgB N sc te tg && notSet ti && chkE T n N sc ti a && chkB T n N sc b' b
      | _ => false)
    | .rse cl l => (match st with
      | .Raise e none _ => if (xTab.lookup cl).isNone then (match l with
          | .nil => true
          | _ => false) else T.xn && rseB T n N sc e cl l
      | _ => false)
    | .tryx b hs => (match st with
      | .Try body (h0 :: hds) [] [] _ => T.xn && chkB { T with fw := false } n N sc body b && hdsB T N sc (h0 :: hds) hs
      | _ => false)
    | .pass => (match st with
      | .Pass _ => true
      | _ => false)
    | _ => false
def chkB (T : Tb) : Nat → List Str → Scope → List Stmt → IB → Bool
  | 0, _, _, _, _ => false
  | n + 1, N, sc, l, b => match l, b with
    | [], .nil => true
    | st :: l, .cons i b => chkS T n N sc st i && chkB T n N sc l b
    | _, _ => false
end
end Vm
set_option Elab.async false
set_option linter.all false
set_option maxRecDepth 100000
set_option maxHeartbeats 4000000
/-! Making exceptions of one's own classes, raising them. -/
namespace Vm
open PySem PySem.Spec PyProof.Rows L2
/-- an own class of exceptions whose __init__ is that of ValueError -/
structure XbC (K : Fg) (B : Addr) : Prop where
  ex : ∃ mc, PySem.W.readsIn K B mc = true ∧ PySem.W.findCls K (.ref B) mc "__init__" = some (.val (.builtin "ValueError.__init__"))
  ga : PySem.W.specialIn K (.ref B) "__getattribute__" = some (some (.builtin "type.__getattribute__"))
section
variable {X : Cx} {e : Expr} {es : List Expr} {ta : TA} {b x f : Str} {B C fI : Addr} {p p1 p2 pos : Pos}
/-- B.__init__(self, ..) -/
theorem pe_binit {pl : Sem Bool} (hg : Gl X b) (hm : X.mg b = some (.ref B)) (c : XbC X.K B) (hdb : (b == ("__debug__" : Str)) = false) (ha : PA X (e :: es) ta)
    (hc : eval (.Call (.Attribute (.Name b p1) "__init__" p2) (e :: es) [] pos) X.env = (do
      let ov ← eval (.Name b p1) X.env
      standAt p2.atName
      let (g, l) ← holding [ov] (getMethod ov "__init__" pl)
      callWith pos g l (backTo pos (starEach (e :: es) X.env)) (backToKw pos (keywordEach [] X.env))))
    (he : starEach (e :: es) X.env = (false, eval e X.env) :: starEach es X.env) (hpl : (backTo pos (starEach es X.env)).any (·.1) = false) : PE X (.Call (.Attribute (.Name b p1) "__init__" p2) (e :: es) [] pos) (tVeI X.K ta) := by
  obtain ⟨mc, c1, c2⟩ := c.ex
  refine ⟨fun pins s σ H Q I h => PySem.W.methodCall_KW (ld_glob I hg hm (PySem.W.method_cls I.kIn c.ga (PySem.W.cls_value I.kIn c1 c2 (by decide +kernel) ?_)) hdb) hc⟩
  show wpAny _ _ (callWith pos (Value.builtin "ValueError.__init__") [] (backTo pos (starEach (e :: es) X.env)) []) _ _ _
  refine PyProof.Rows.callWith_method1 (thn (ha.run pos pins _ σ H _ (I.tok _) h) fun us s1 hs => ?_) he hpl
  obtain ⟨vs, H1, I1, r1, a, C, ws, ev, hl, T, ea, q⟩ := hs
  subst ev
  match us, r1 with
  | _ :: ur, .cons (.refl _) rw' =>
    have n : ur.length ≤ sizeLine := by
      have := Paired.length rw'
      rw [sizeLine_eq]
      omega
    exact oinit_ok T I1 ea n fun s' J => ⟨.non, H1, J, rfl, q⟩
end
/-- what the __init__ of an own class of exceptions promises: it stores its parameters -/
def xsp (K : Fg) (fs : List Str) : Sp := fun vs H Q E => ∃ (a C : Addr) (ws : List V), vs = .ref a :: ws ∧ ws.length = fs.length ∧ OexC K C ∧ (∀ f ∈ fs, PySem.W.findIn K (.ref C) f = some none) ∧ H a = some (exo a C none) ∧
  ∀ d, H d = none → d ≠ a → Q .non (upd (upd H d (exd d (fs.zip ws).reverse)) a (exo a C (some d)))
theorem upd_comm {H : Hp} {a b : Addr} {u v : HO} (h : a ≠ b) : upd (upd H a u) b v = upd (upd H b v) a u := by
  funext c
  by_cases h1 : c = a
  · subst h1
    rw [upd_ne h, upd_same, upd_same]
  · by_cases h2 : c = b
    · subst h2
      rw [upd_same, upd_ne h1, upd_same]
    · rw [upd_ne h2, upd_ne h1, upd_ne h1, upd_ne h2]
section
variable {P : Program} {w : World} {K : Fg} {mg : Mg} {base : Heap} {CX : CXT} {xn qual b f g t : Str} {params : Arguments} {scope : Scope} {dvs : List V} {kws : List (Str × V)} {fa B : Addr} {fd : FuncData} {j : Nat} {p1 p2 p3 p4 p5 p6 q1 q2 q3 q4 r1 r2 r3 r4 : Pos}
/-- def __init__(self, f): B.__init__(self, 't'); self.f = f -/
theorem par_vis {N ps : List Str} {sc : Scope} (S : FnScope N ps sc) {x : Str} (h : x ∈ ps) : Vis sc x := (S.par x h).elim .inl fun z => .inr (.inl z)
theorem xinit1 {k : Nat} (F : FunD K xn qual params [.Expr (.Call (.Attribute (.Name b p1) "__init__" p2) [.Name "self" p3, .Constant (.str t) j p4] [] p5) p6, .Assign [.Attribute (.Name "self" q1) f q2] (.Name f q3) q4] scope dvs kws fa fd)
    (S : FnScope ["self", f] ["self", f] scope) (hg : scope.names.lookup b = some .globalImplicit) (hm : mg b = some (.ref B)) (c : XbC K B) (hb : (b == ("__debug__" : Str)) = false) (hf : (f == ("__debug__" : Str)) = false) (hf2 : (f == ("__classdict__" : Str)) = false)
    (hl : (p2.endLine == p5.line) = true) : FnOk P w K mg base CX (k + 1) fa fd ["self", f] (xsp K [f]) := by
  refine F.ok S (fun vs H Q E ⟨a, C, ws, ev, hl, _⟩ => by rw [ev, List.length_cons, hl]; rfl) fun cdv A outer s H vs Q E hr ⟨a, C, ws, ev, hw, T, hno, ea, q⟩ => ?_
  match ws, hw with
  | [y], _ =>
    subst ev
    let X := cxOf CX P w K mg base ["self", f] qual scope fa cdv A outer s H E
    have v0 : ∀ {p : Pos}, PE X (.Name "self" p) (tVar 0) := pe_var rfl (par_vis S (by simp))
    have v1 : ∀ {p : Pos}, PE X (.Name f p) (tVar 1) := pe_var rfl (par_vis S (by simp)) hf hf2
    have e0 : PE X (.Call (.Attribute (.Name b p1) "__init__" p2) [.Name "self" p3, .Constant (.str t) j p4] [] p5) (tVeI K (tCons (tVar 0) (tCons (tC (.str t)) tNil))) :=
      pe_binit (X := X) hg hm c hb (pa_cons v0 (pa_cons pe_str pa_nil)) (meth_line rfl rfl (show 2 < 29 by decide) hl) (star_of rfl) (nostar_anyB rfl)
    refine ⟨_, pss_cons (ps_expr e0 (comp_of rfl)) (pss_one (ps_ost v0 v1 sole_fld)), ?_⟩
    refine ⟨.ref a, rfl, a, C, [.str t], rfl, (show 1 ≤ 1000 by decide), T, ea, y, rfl, .ref a, rfl, a, C, rfl, T, hno f (by simp), .inl ⟨ea, fun d hd hne => q d hd hne⟩⟩
/-- def __init__(self, f, g): B.__init__(self, 't'); self.f = f; self.g = g -/
theorem xinit2 {k : Nat} (F : FunD K xn qual params [.Expr (.Call (.Attribute (.Name b p1) "__init__" p2) [.Name "self" p3, .Constant (.str t) j p4] [] p5) p6, .Assign [.Attribute (.Name "self" q1) f q2] (.Name f q3) q4, .Assign [.Attribute (.Name "self" r1) g r2] (.Name g r3) r4] scope dvs kws fa fd)
    (S : FnScope ["self", f, g] ["self", f, g] scope) (hg : scope.names.lookup b = some .globalImplicit) (hm : mg b = some (.ref B)) (c : XbC K B) (hb : (b == ("__debug__" : Str)) = false) (hf : (f == ("__debug__" : Str)) = false) (hf2 : (f == ("__classdict__" : Str)) = false)
    (hf3 : (g == ("__debug__" : Str)) = false) (hf4 : (g == ("__classdict__" : Str)) = false) (hl : (p2.endLine == p5.line) = true) : FnOk P w K mg base CX (k + 1) fa fd ["self", f, g] (xsp K [f, g]) := by
  refine F.ok S (fun vs H Q E ⟨a, C, ws, ev, hl, _⟩ => by rw [ev, List.length_cons, hl]; rfl) fun cdv A outer s H vs Q E hr ⟨a, C, ws, ev, hw, T, hno, ea, q⟩ => ?_
  match ws, hw with
  | [y, z], _ =>
    subst ev
    let X := cxOf CX P w K mg base ["self", f, g] qual scope fa cdv A outer s H E
    have v0 : ∀ {p : Pos}, PE X (.Name "self" p) (tVar 0) := pe_var rfl (par_vis S (by simp))
    have v1 : ∀ {p : Pos}, PE X (.Name f p) (tVar 1) := pe_var rfl (par_vis S (by simp)) hf hf2
    have v2 : ∀ {p : Pos}, PE X (.Name g p) (tVar 2) := pe_var rfl (par_vis S (by simp)) hf3 hf4
    have e0 : PE X (.Call (.Attribute (.Name b p1) "__init__" p2) [.Name "self" p3, .Constant (.str t) j p4] [] p5) (tVeI K (tCons (tVar 0) (tCons (tC (.str t)) tNil))) :=
      pe_binit (X := X) hg hm c hb (pa_cons v0 (pa_cons pe_str pa_nil)) (meth_line rfl rfl (show 2 < 29 by decide) hl) (star_of rfl) (nostar_anyB rfl)
    refine ⟨_, pss_cons (ps_expr e0 (comp_of rfl)) (pss_cons (ps_ost v0 v1 sole_fld) (pss_one (ps_ost v0 v2 sole_fld))), ?_⟩
    refine ⟨.ref a, rfl, a, C, [.str t], rfl, (show 1 ≤ 1000 by decide), T, ea, y, rfl, .ref a, rfl, a, C, rfl, T, hno f (by simp), .inl ⟨ea, fun d hd hne => ⟨z, rfl, .ref a, rfl, a, C, rfl, T, hno g (by simp), .inr ⟨d, [(f, y)], upd_same, by rw [upd_ne hne, upd_same], (show 1 ≤ 900 by decide), ?_⟩⟩⟩⟩
    have k := q d hd hne
    rw [upd_comm (Ne.symm hne), upd_upd]
    exact k
end

/-! ### a class called that makes its exception -/
section
variable {X : Cx} {x : Str} {C fI : Addr} {k : Nat} {fd : FuncData} {ps : List Str} {sp : Sp} {ds : List Value} {dvs : List V} {e : Expr} {es : List Expr} {ta : TA} {p pos : Pos}
theorem xnew_run {pins : List (Addr × Obj)} {σ : L2.St} {H : Hp} {s : Shared} {Q : XK} {us : List Value} {vs : List V} (T : OexC X.K C) (iC : PySem.W.findIn X.K (.ref C) "__init__" = some (some (.ref fI))) (tI : PySem.W.typeIn X.K (.ref fI) = some (.type "function"))
    (FO : FnOk X.prog X.w X.K X.mg X.base (L2N.CX X.prog X.w) k fI fd ps sp) (hr : Room (k + 1) X.A) (hb : Binds X.K fd ps ds) (hd : Vals dvs ds) (I : Inv X pins σ H s) (r : Vals vs us) (hl : vs.length ≤ 1000)
    (h : ∀ a, H a = none → sp (.ref a :: (vs ++ dvs)) (upd H a (exo a C none)) (fun v H2 => v = .non ∧ ∃ (d : Addr) (fs : List (Str × V)), H2 a = some (exo a C (some d)) ∧ H2 d = some (exd d fs) ∧ H d = none ∧ Q (.ref C) (some d) (upd (L2.del H2 a) d (.xd fs))) fun _ _ _ => False) :
    wpAny (model X.prog X.w) X.A (call (.ref C) us) (L2N.MkP X pins σ Q) X.xe s := by
  obtain ⟨nm, q, N, bs, bm, sn, sub, ab, col, dd, k0, k1, k2, k3, k5, hC, hbm⟩ := T.cls
  obtain ⟨hp, g, dr, tk, os⟩ := s
  have le1 : hp.objs.size ≤ hp.objs.size + 1 := Nat.le_succ _
  have g1 := h (hp.objs.size + 1) (I.hok.fresh le1)
  generalize hh : (hp.push (PySem.W.kdv_tup us)).push (PySem.HandSPX.excO C hp.objs.size) = h2
  have kp : ∀ b o, hp.get? b = some o → h2.get? b = some o := fun b o z => by
    subst hh
    exact Heap.get?_push_of_some _ (Heap.get?_push_of_some _ z)
  have at_ : h2.get? (hp.objs.size + 1) = some (PySem.HandSPX.excO C hp.objs.size) := by
    subst hh
    heap_get
  have J : Inv X pins σ (upd H (hp.objs.size + 1) (exo (hp.objs.size + 1) C none)) ⟨h2, g, dr, tk, os⟩ := I.laid (t' := tk) kp le1 (exo_ok at_)
  have rr : Vals (V.ref (hp.objs.size + 1) :: (vs ++ dvs)) (Value.ref (hp.objs.size + 1) :: (us ++ ds)) := .cons rfl (r.append hd)
  have ln : (Value.ref (hp.objs.size + 1) :: us ++ ds).length = ps.length := rr.length.symm.trans (FO.len _ _ _ _ g1)
  have few : us.length ≤ sizeLine := by
    have := Paired.length r
    rw [sizeLine_eq]
    omega
  have body := FO.run _ X.stack _ _ ⟨Value.ref (hp.objs.size + 1) :: us, []⟩ _ _ _ (fun _ _ _ => False) (hr.make C us []) (J.env0.make C us []) (hb _ (Value.ref (hp.objs.size + 1) :: us) J.kIn ln) rr g1
  refine wpAny_call (PySem.HandSPX.call_own F.excBase_ValueError (fun Y => PySem.HandSPX.refsVE_contains Y bm hbm) (I.kIn _ _ hC) (PySem.W.looks_findIn I.kIn iC) (fun self => PySem.W.bind_fn I.kIn self tI) few ?_)
  rw [hh]
  refine codeAny_mono body fun z s1 hz => ?_
  match z, hz with
  | .error y, hz =>
    obtain ⟨_, _, _, _, _, _, _, _, _, _, _, _, no⟩ := hz
    exact no.elim
  | .ok (.ret y), hz =>
    obtain ⟨v, H2, os2, bare2, un2, hok2, rv, ev, d, fs, ea, ed, hd1, q2⟩ := hz
    subst ev
    obtain ⟨h3, g3, d3, t3, os3⟩ := s1
    obtain ⟨t0, G, J2, kG, ge, hoe, na⟩ := mk_end0 (d2 := d3) (t2 := t3) I le1 kp un2 hok2 os2 bare2 ea ed hd1
    exact ⟨rv, ⟨hp.objs.size + 1, _, _, ⟨G, g3, d3, t3, os3⟩, _, .ref C, some d, rfl, J2, kG, ge, hoe, ⟨rfl, rfl, fun ws hw => by cases hw; rfl⟩, rfl, rfl, na, rfl, bare2, raises_own T.exC T.tyC, q2⟩⟩
  | .ok .next, hz => exact hz.elim
  | .ok .brk, hz => exact hz.elim
  | .ok .cont, hz => exact hz.elim
end
/-! ### what the head must show of a class of exceptions -/
abbrev bmVE : List Value := [.type "ValueError", .type "Exception", .type "BaseException", .type "object"]
structure XcOk (X : Cx) (lv : Nat) (c : Str) (i : XI) (C : Addr) : Prop where
  tab : xTab.lookup c = some i
  mg : X.mg c = some (.ref C)
  ra : Raises X (.ref C)
  kp : PySem.W.keepIn X.K (.ref C) = true
  nd : (c == ("__debug__" : Str)) = false
  how : (i.fs = [] ∧ ∃ bm id, PySem.W.excIn X.K C bm id = true ∧ ∃ B n, ExcBaseFacts B id n bm) ∨ (i.fs ≠ [] ∧ OexC X.K C ∧ (∀ f ∈ i.fs, PySem.W.findIn X.K (.ref C) f = some none) ∧ ∃ fI fd, PySem.W.findIn X.K (.ref C) "__init__" = some (some (.ref fI)) ∧ PySem.W.typeIn X.K (.ref fI) = some (.type "function") ∧
    FnOk X.prog X.w X.K X.mg X.base (L2N.CX X.prog X.w) lv fI fd ("self" :: i.fs) (xsp X.K i.fs) ∧
      ∀ j, j ≤ i.fs.length → i.fs.length - j ≤ i.dfl.length → ∃ ds dvs, Binds X.K fd ("self" :: i.fs) ds ∧ Vals dvs ds ∧ conVs (i.dfl.drop (i.dfl.length - (i.fs.length - j))) = some dvs)
section
variable {X : Cx} {D : Wd} {Wx : WX} {lv : Nat} {c : Str} {i : XI} {C : Addr} {l : IL} {a : Expr} {es : List Expr} {p p2 pos rpos : Pos}
theorem heap_end {H : Hp} {a d : Addr} {u v w y : HO} (ha : H a = none) (hne : d ≠ a) : upd (L2.del (upd (upd (upd H a u) d v) a w) a) d y = upd H d y := by
  funext b
  by_cases h1 : b = d
  · subst h1
    rw [upd_same, upd_same]
  · rw [upd_ne h1, upd_ne h1]
    by_cases h2 : b = a
    · subst h2
      rw [del_same, ha]
    · rw [del_ne h2, upd_ne h2, upd_ne h1, upd_ne h2]
theorem repP_zip {K : Fg} {mg : Mg} {io : List Addr} {H : Hp} : ∀ {fs : List Str} {ws : List W} {vs : List V}, Reps K mg io H ws vs → RepP K mg io H (fs.zip ws) (fs.zip vs)
  | [], _, _, _ => .nil
  | _ :: _, _, _, .nil => .nil
  | _ :: _, _, _, .cons r t => .cons r (repP_zip t)
theorem repP_append {K : Fg} {mg : Mg} {io : List Addr} {H : Hp} {κ : Type} : ∀ {l m : List (κ × W)} {xs ys : List (κ × V)}, RepP K mg io H l xs → RepP K mg io H m ys → RepP K mg io H (l ++ m) (xs ++ ys)
  | _, _, _, _, .nil, h => h
  | _, _, _, _, .cons r t, h => .cons r (repP_append t h)
theorem repP_rev {K : Fg} {mg : Mg} {io : List Addr} {H : Hp} {κ : Type} : ∀ {l : List (κ × W)} {xs : List (κ × V)}, RepP K mg io H l xs → RepP K mg io H l.reverse xs.reverse
  | _, _, .nil => .nil
  | _, _, .cons r t => by
    rw [List.reverse_cons, List.reverse_cons]
    exact repP_append (repP_rev t) (.cons r .nil)
/-- the exception with fields is made and flies -/
theorem xfly {io : List Addr} {H : Hp} {S : Vs} {r : Rho} {σ : L2.St} {E : Ends} {ws : List W} {vs dvs : List V} {x : Exn} (mc : X.mg c = some (.ref C)) (T : OexC X.K C) (hno : ∀ f ∈ i.fs, PySem.W.findIn X.K (.ref C) f = some none) (s : Sim X.K X.mg io H S) (e : RepE X.K X.mg io H r σ) (rs : Reps X.K X.mg io H ws vs)
    (ht : xTab.lookup c = some i) (hm : xMake c ws = some x) (hc : conVs (i.dfl.drop (i.dfl.length - (i.fs.length - ws.length))) = some dvs) (p : PoS X.K X.mg Wx (.exc x r S) io H E) :
    vs.length ≤ 1000 ∧ ∀ a, H a = none → xsp X.K i.fs (.ref a :: (vs ++ dvs)) (upd H a (exo a C none))
      (fun v H2 => v = .non ∧ ∃ (d : Addr) (fs : List (Str × V)), H2 a = some (exo a C (some d)) ∧ H2 d = some (exd d fs) ∧ H d = none ∧ Wx (.ref C) (some d) σ (upd (L2.del H2 a) d (.xd fs))) fun _ _ _ => False := by
  unfold xMake at hm
  rw [ht] at hm
  dsimp only at hm
  split at hm
  · rename_i h
    cases hm
    have l3 : i.fs.length ≤ 2 := by
      have hmem := PySem.mem_of_lookup ht
      simp only [xTab, List.mem_cons, Prod.mk.injEq, List.not_mem_nil, or_false] at hmem
      rcases hmem with h | h | h | h | h | h | h | h | h | h <;> (rw [h.2]; decide)
    have rr : Reps X.K X.mg io H (ws ++ i.dfl.drop (i.dfl.length - (i.fs.length - ws.length))) (vs ++ dvs) := rs.append (conVs_rep hc)
    have ll := rr.length
    refine ⟨by have := rs.length; omega, fun a ha => ⟨a, C, vs ++ dvs, rfl, ?_, T, hno, upd_same, fun d hd hne => ?_⟩⟩
    · rw [← ll, List.length_append, List.length_drop]
      omega
    · have hd1 : H d = none := by
        rw [upd_ne hne] at hd
        exact hd
      refine ⟨rfl, d, _, upd_same, by rw [upd_ne hne, upd_same], hd1, ?_⟩
      rw [heap_end ha hne]
      exact p io σ _ (.ref C) (some d) (Ex.new hd1) (s.new hd1) (e.mono s (Ex.new hd1)) ⟨C, mc, rfl, .inr ⟨d, _, rfl, upd_same, repP_rev (repP_zip (rr.mono s (Ex.new hd1))), s.fresh hd1⟩⟩
  · cases hm
/-- raise C(e, ..), C with an __init__ of its own -/
theorem psv_rseI (k : XcOk X lv c i C) (hne : i.fs ≠ []) (hc : X.calm = true) (tk : L2N.Takes X Wx) (hr : Room (lv + 1) X.A) (hg : Gl X c) (hj : lenL l ≤ i.fs.length ∧ i.fs.length - lenL l ≤ i.dfl.length) (hs : noStars es = true) (hnil : es = [] → l = .nil) (hes : PVs X D Wx es l) :
    PSV X D Wx (.Raise (some (.Call (.Name c p) es [] pos)) none rpos) (.rse c l) := by
  rcases k.how with ⟨h0, _⟩ | ⟨_, T, hno, fI, fd, iC, tI, FO, hb⟩
  · exact absurd h0 hne
  obtain ⟨ds, dvs, b1, b2, b3⟩ := hb (lenL l) hj.1 hj.2
  have mk : L2N.PMk X (.Call (.Name c p) es [] pos) (tMkO C (xsp X.K i.fs) dvs (trA X.K X.mg Wx (denL D l))) := fun pins s σ H Q I h => by
    refine wpAny_Call_Name_kw (ld_glob I hg k.mg ?_ k.nd)
    cases es with
    | nil =>
      obtain ⟨io, S, r, sm, e, p⟩ := h
      rw [hnil rfl, denL] at p
      obtain ⟨q1, q2⟩ := p.now sm .nil
      exact PySem.W.callWith_K0 I.kIn k.kp (xnew_run (us := []) (vs := []) T iC tI FO hr b1 b2 I .nil q1 q2)
    | cons a es =>
      have n1 : notStar a = true := by unfold noStars at hs; rw [List.all_cons, Bool.and_eq_true] at hs; exact hs.1
      have n2 : noStars es = true := by unfold noStars at hs; rw [List.all_cons, Bool.and_eq_true] at hs; exact hs.2
      refine PySem.W.callWith_K (h₀ := X.base) I.ok.mod.kin k.kp (thn (hes.run pos pins s σ H _ I h) fun us s1 hu => ?_) (star_of n1) (nostar_anyB n2)
      obtain ⟨vs, H1, I1, r, q1, q2⟩ := hu
      exact ⟨I1.kIn, xnew_run T iC tI FO hr b1 b2 I1 r q1 q2⟩
  refine psMono (L2N.ps_raise hc tk mk) fun E σ H ⟨io, S, r, s, e, p⟩ => ?_
  rw [denS] at p
  refine ⟨io, S, r, s, e, p.fin s e fun ws S1 io1 vs H1 ew x1 s1 r1 p1 => ?_⟩
  cases hm : xMake c ws with
  | none => rw [hm] at p1; exact p1.elim
  | some x =>
    rw [hm] at p1
    exact xfly k.mg T hno s1 (e.mono s x1) r1 k.tab hm (by rw [lenL_ok ew]; exact b3) p1
/-- raise C('t'), C without an __init__ -/
theorem psv_rseT {t : Str} {j : Nat} (k : XcOk X lv c i C) (he : i.fs = []) (hc : X.calm = true) (tk : L2N.Takes X Wx) (hg : Gl X c) : PSV X D Wx (.Raise (some (.Call (.Name c p) [.Constant (.str t) j p2] [] pos)) none rpos) (.rse c .nil) := by
  rcases k.how with ⟨_, bm, id, q, B, n, F⟩ | ⟨no, _⟩
  · refine psMono (L2N.ps_raise hc tk (L2N.pmk_own F q k.mg k.kp k.ra hg k.nd)) fun E σ H ⟨io, S, r, s, e, p⟩ => ?_
    rw [denS, denL] at p
    have p : PoS X.K X.mg Wx (match xMake c [] with
      | some x => .exc x r S
      | none => .err) io H E := p
    have hm : xMake c [] = some ⟨c, []⟩ := by
      unfold xMake
      rw [k.tab]
      dsimp only
      rw [he]
      rfl
    rw [hm] at p
    exact p io σ H (.ref C) none (Ex.refl io H) s e ⟨C, k.mg, rfl, .inl ⟨rfl, rfl⟩⟩
  · exact absurd he no
end
end Vm
set_option Elab.async false
set_option linter.all false
set_option maxRecDepth 100000
set_option maxHeartbeats 4000000
/-! try: several clauses, each with a name. -/
namespace Vm
open PySem PySem.Spec PyProof.Rows L2
abbrev XTs := Addr → Value → Option Addr → TS
/-- the clause's name is gone behind its suite -/
def endsOff (i : Nat) (D : Ends) : Ends := { nx := fun σ H => D.nx (σ.set i none) H, rt := D.rt, bk := fun σ H => D.bk (σ.set i none) H, ct := fun σ H => D.ct (σ.set i none) H }
/-- what clauses want of an exception of the body -/
def xWish (K : Fg) (W0 : WX) (D : Ends) : List (Value × Nat × XTs) → WX
  | [] => W0
  | (c, i, ts) :: r => fun cls d σ H => ∃ b, PySem.W.exmOne K cls c = some b ∧ (b = true → ∀ a, H a = none → ts a cls d (endsOff i D) (σ.set i (some (.ref a))) H) ∧ (b = false → xWish K W0 D r cls d σ H)
/-- the clauses' texts -/
inductive XHs (X : Cx) : List ExceptHandler → List (Value × Nat × XTs) → Prop
  | nil : XHs X [] []
  | cons {x n : Str} {c : Value} {i : Nat} {ts : XTs} {st : Stmt} {q1 q2 : Pos} {hs : List ExceptHandler} {l : List (Value × Nat × XTs)} (hc : Names X x c) (hi : X.N[i]? = some n) (hn : X.env.kindOf n = some .local)
      (su : ∀ (a : Addr) (oe : Obj) (cls : Value) (d : Option Addr) (pn : List (Addr × Obj)), L2N.Zn cls d oe → (∃ vs, oe.data = .fields vs) → PSs (X.suite a ((a, oe) :: pn)) [st] (ts a cls d)) (r : XHs X hs l) :
      XHs X (.ExceptHandler (some (.Name x q1)) (some n) [st] q2 :: hs) ((c, i, ts) :: l)
section
variable {X : Cx} {body : List Stmt} {h0 : ExceptHandler} {hs : List ExceptHandler} {l : List (Value × Nat × XTs)} {pos : Pos} {tb : WX → TS} {W0 : WX}
theorem xfr_no {B : Heap} {st : List Env} {a : Addr} {h : Heap} {o : Obj} {vs : Array Value} (ff : h.FunFrames B st) (e : h.get? a = some o) (dd : o.data = .fields vs) : a ∉ frs st := fun hm => by
  obtain ⟨_, u, e2, no⟩ := ff.mem hm
  rw [e] at e2
  cases e2
  exact no _ dd
/-- a clause's suite has run: its name goes -/
theorem xoff {pins : List (Addr × Obj)} {D : Ends} {a : Addr} {q : Addr × Obj} {i : Nat} {n : Str} {fl : Flow} {s : Shared} {p : Pos} (ok : X.Ok) (nd : X.N.Nodup) (hi : X.N[i]? = some n) (hn : X.env.kindOf n = some .local)
    (h : SP (X.suite a (q :: (X.pn ++ pins))) [] (endsOff i D) fl s) : wpAny (model X.prog X.w) X.A (do bindName X.env n .none; unbindBehindTheSuite X.env n p) (fun _ s2 => SP X pins D fl s2) X.xe s := by
  have go : ∀ {σ1 : L2.St} {H1 : Hp} {R : Shared → Prop}, Inv (X.suite a (q :: (X.pn ++ pins))) [] σ1 H1 s → (∀ s2, Inv X pins (σ1.set i none) H1 s2 → R s2) → wpAny (model X.prog X.w) X.A (do bindName X.env n .none; unbindBehindTheSuite X.env n p) (fun _ s2 => R s2) X.xe s :=
    fun J k => gone_ok (J.unsuite ok) nd hi hn k
  match fl, h with
  | .next, ⟨_, _, J, z⟩ => exact go J fun s2 J2 => ⟨_, _, J2, z⟩
  | .brk, ⟨_, _, J, z⟩ => exact go J fun s2 J2 => ⟨_, _, J2, z⟩
  | .cont, ⟨_, _, J, z⟩ => exact go J fun s2 J2 => ⟨_, _, J2, z⟩
  | .ret u, ⟨_, _, _, J, r, z⟩ => exact go J fun s2 J2 => ⟨_, _, _, J2, r, z⟩
/-- the clauses, one after the other -/
theorem xclauses {pins : List (Addr × Obj)} {D : Ends} {a : Addr} {B : Heap} {sI s' : Shared} {σ1 : L2.St} {H1 : Hp} {cls : Value} {d : Option Addr} (stk : X.stack = X.env :: X.outer) (fr : X.env.frame = some X.env.locals) (nd : X.N.Nodup) (tk : L2N.Takes X W0)
    (J : Inv X pins σ1 H1 sI) (nb : ∀ b o, sI.heap.get? b = some o → b ∉ frs X.stack → B.get? b = some o) (na : H1 a = none) (os : s'.os = sI.os) (ag : AllBare s'.gens)
    {h3 : Heap} (fl3 : HandSPX.FlyingZ B (X.env :: X.outer) a (L2N.Zn cls d) h3) (up3 : sI.heap.UpToSlots h3) (hh : XHs X hs l) (w : xWish X.K W0 D l cls d σ1 H1) :
    wpAny (model X.prog X.w) X.A (handleBy (.ref a) X.env hs) (SP X pins D) X.xe { s' with heap := h3 } := by
  have ok := J.ok
  have J3 : Inv X pins σ1 H1 { s' with heap := h3 } := J.landed nb fl3.1 up3 os ag
  obtain ⟨oe, vs, eo, zo, dv⟩ := fl3.there
  have off := xfr_no fl3.2.2.1 eo dv
  have nL : a ≠ X.env.locals := fun z => off (List.mem_filterMap.mpr ⟨X.env, List.mem_cons_self, by rw [fr, z]⟩)
  have nF : a ∉ X.fs := fun z => by
    obtain ⟨v, hv, q⟩ := List.mem_filterMap.mp z
    exact off (List.mem_filterMap.mpr ⟨v, List.mem_cons_of_mem _ hv, q⟩)
  have JS := J3.suite eo dv na nL nF
  have ty : PySem.W.Looks (model X.prog X.w) h3 (typeOf (.ref a)) cls := fun A Q E s k q => wpAny_typeOf_ref (k _ _ eo) (by rw [zo.1]; exact q)
  induction hh with
  | nil =>
    obtain ⟨f1, f2, f3, o1, v1, T, oT, t1, g1, g2, g3, g4, g5⟩ := id fl3
    refine wpAny_handleBy_nil ?_
    unfold PySem.passOn
    refine wpAny_bind (wpAny_field g1 g3 g4 ?_)
    rw [if_neg (show ¬ ((Value.ref T == Value.none) = true) from by simp)]
    have last : wpAny (model X.prog X.w) X.A (setFlight (.ref a) X.env.frame) (fun _ s4 => wpAny (model X.prog X.w) X.A (throw (.ref a) : Sem Flow) (SP X pins D) X.xe s4) X.xe { s' with heap := h3 } := by
      rw [fr]
      refine HandSPX.setFlight_upZ fl3 fun h4 hold up4 => wpAny_throw (tk _ _ ⟨a, B, sI, pins, σ1, H1, cls, d, rfl, J, nb, up3.trans up4, .inr (.inr ?_), na, os, ag, w⟩)
      rw [stk]
      exact hold
    first
      | exact wpAny_bind (wpAny_pure (wpAny_bind last))
      | exact wpAny_bind last
  | @cons x n c i ts st q1 q2 hs2 l2 hc hi hn su r ih =>
    obtain ⟨b, m1, yes, no⟩ := w
    refine wpAny_handleBy_cons (codeAny_handlers_test ?_) (by intro z; cases z)
    have named : ∀ {R : Value → Shared → Prop} {R2 : Value → Shared → Prop}, R c { s' with heap := h3 } → wpAny (model X.prog X.w) (X.A.mark (some (.ref a))) (eval (.Name x q1) X.env) R R2 { s' with heap := h3 } := fun {R R2} z => by
      obtain ⟨hg, hd, k | ⟨k1, k2, k3⟩⟩ := hc
      · exact ld_glob (X := X.suite a ((a, oe) :: (X.pn ++ pins))) JS hg k z hd
      · exact ld_blt (X := X.suite a ((a, oe) :: (X.pn ++ pins))) JS hg k1 k2 z k3 hd
    refine named ((PySem.W.exm_one (M := model X.prog X.w) J3.kIn ty m1).here ?_)
    cases b with
    | false => exact ih (no rfl)
    | true =>
      refine codeAny_handlers_suite_as (HandSPX.lands_againZ fl3 fun h4 fl4 up4 => ?_)
      have J4 : Inv X pins σ1 H1 { s' with heap := h4 } := J.landed nb fl4.1 (up3.trans up4) os ag
      obtain ⟨o4, v4, e4, z4, d4⟩ := fl4.there
      refine store_ok (X := X.suite a ((a, o4) :: (X.pn ++ pins))) (v := .ref a) (J4.suite e4 d4 na nL nF) nd hi (.inl hn) rfl (fun s5 J5 => ?_) (.inr hn)
      exact wpAny_mono ((su a o4 cls d (X.pn ++ pins) z4 ⟨_, d4⟩).run [] s5 _ H1 _ J5 (yes rfl a na)) (fun fl s6 z => xoff ok nd hi hn z) fun _ _ z => z.elim
theorem xps_try (stk : X.stack = X.env :: X.outer) (fr : X.env.frame = some X.env.locals) (nd : X.N.Nodup) (tk : L2N.Takes X W0)
    (hb : ∀ (W : WX) (pn : List (Addr × Obj)) (xe : Value → Shared → Prop), L2N.Takes (X.tr pn xe) W → PassesOwn (model X.prog X.w) X.A X.env xe → PSs (X.tr pn xe) body (tb W)) (hh : XHs X (h0 :: hs) l) :
    PS X (.Try body (h0 :: hs) [] [] pos) (fun D σ H => tb (xWish X.K W0 D l) D σ H) := by
  refine ⟨fun pins s σ H D I h => wpAny_Try_except ?_⟩
  have ok := I.ok
  have caught := hb (xWish X.K W0 D l) (X.pn ++ pins) (fun e s1 => wpAny (model X.prog X.w) X.A (noteFrame e X.env) (fun _ s2 => wpAny (model X.prog X.w) X.A (setFlight e none) (fun _ s3 => wpAny (model X.prog X.w) X.A (handleBy e X.env (h0 :: hs)) (SP X pins D) X.xe s3) X.xe s2) X.xe s1) ?_ PassesOwn.looking
  · refine wpAny_mono (caught.run [] s σ H D (I.toTry _) h) (fun fl s1 z => ?_) fun _ _ z => z
    match fl, z with
    | .next, ⟨_, _, J, q⟩ => exact wpAny_execs_nil ⟨_, _, J.ofTry ok, q⟩
    | .brk, ⟨_, _, J, q⟩ => exact ⟨_, _, J.ofTry ok, q⟩
    | .cont, ⟨_, _, J, q⟩ => exact ⟨_, _, J.ofTry ok, q⟩
    | .ret u, ⟨_, _, _, J, r, q⟩ => exact ⟨_, _, _, J.ofTry ok, r, q⟩
  · intro u s' z
    obtain ⟨a, B, sI, pins1, σ1, H1, cls, d, eu, J, nb, up, sky, na, os, ag, w⟩ := z
    subst eu
    have frm : X.A.frames = some (X.env :: X.outer) := by rw [ok.frames, stk]
    have sky2 : Sky B (X.env :: X.outer) a (L2N.Zn cls d) X.env.locals s'.heap := by
      have q := sky
      rw [show (X.tr (X.pn ++ pins) _).stack = X.env :: X.outer from stk] at q
      exact q
    show wpAny (model X.prog X.w) X.A (noteFrame (.ref a) X.env) _ _ _
    exact L2N.Sky.land L2N.Zn.steady frm fr sky2 fun h3 fl3 up3 => xclauses stk fr nd tk (J.ofTry ok) nb na os ag fl3 (up.trans up3) hh w
end
end Vm
set_option Elab.async false
set_option linter.all false
set_option maxRecDepth 100000
set_option maxHeartbeats 4000000
/-! A comprehension while an exception is handled. -/
namespace Vm
open PySem PySem.Spec PyProof.Rows L2 L2H
/-- a block's context, p pinned -/
abbrev blkH (X : Cx) (p : Addr × Obj) (s : Shared) (H : Hp) (scope : Scope) (ce : Env) (fp : List Addr) : Cx := { X.blk s H scope ce fp with pn := [p] }
section
variable {X : Cx} {p : Addr × Obj} {s0 s : Shared} {H0 H : Hp} {scope : Scope} {ce : Env} {fp : List Addr} {pins : List (Addr × Obj)} {σ : L2.St}
theorem okH (ok : (X.blk s0 H0 scope ce fp).Ok) : (blkH X p s0 H0 scope ce fp).Ok :=
  ⟨ok.mod, ok.kind, ok.glob, ok.blt, ok.above, ok.inj, ok.has, ok.cab, ok.hd, ok.frames, ok.stk, ok.exf, ok.bs, ok.bsz, ok.noex, ok.exfs, ok.funs, ok.frf⟩
theorem okB (ok : (blkH X p s0 H0 scope ce fp).Ok) : (X.blk s0 H0 scope ce fp).Ok :=
  ⟨ok.mod, ok.kind, ok.glob, ok.blt, ok.above, ok.inj, ok.has, ok.cab, ok.hd, ok.frames, ok.stk, ok.exf, ok.bs, ok.bsz, ok.noex, ok.exfs, ok.funs, ok.frf⟩
theorem invH (I : Inv (X.blk s0 H0 scope ce fp) pins σ H s) (h : s.heap.get? p.1 = some p.2 ∧ H p.1 = none ∧ p.1 ≠ ce.locals ∧ p.1 ∉ frs X.stack ∧ ∀ v, p.2.data ≠ .cell v) : Inv (blkH X p s0 H0 scope ce fp) pins σ H s :=
  ⟨okH I.ok, I.os, I.bare, I.base, I.loc, I.cell, I.free, I.freeC, fun q hq => by
    rcases List.mem_cons.mp (show q ∈ p :: pins from hq) with e | e
    · rw [e]; exact h
    · exact I.pin q e, I.hok, I.len⟩
theorem invB (I : Inv (blkH X p s0 H0 scope ce fp) pins σ H s) : Inv (X.blk s0 H0 scope ce fp) pins σ H s :=
  ⟨okB I.ok, I.os, I.bare, I.base, I.loc, I.cell, I.free, I.freeC, fun q hq => I.pin q (List.mem_cons_of_mem _ hq), I.hok, I.len⟩
end
section
variable {X : Cx} {p : Addr × Obj} {elt tg iter : Expr} {ifs : List Expr} {scope : Scope} {own : List (Str × Nat)} {pos : Pos} {wi : TI} {g : TG} {tt : TT} {te : TE}
/-- the rule -/
theorem xpe_lc (hot : Hot1 X.A p) (hp : p ∈ X.pn) (nd : X.N.Nodup) (hi : PIH X tg iter wi) (ok : BlkOk X.N X.env.scope scope own)
    (hg : ∀ (s : Shared) (H : Hp) (ce : Env) (fp : List Addr), ce.scope = relS scope X.env.scope → PG (blkH X p s H scope ce fp) tg g) (ht : ∀ (s : Shared) (H : Hp) (ce : Env) (fp : List Addr), ce.scope = relS scope X.env.scope → PTs (blkH X p s H scope ce fp) ifs tt)
    (he : ∀ (s : Shared) (H : Hp) (ce : Env) (fp : List Addr), ce.scope = relS scope X.env.scope → PE (blkH X p s H scope ce fp) elt te) (hs : ∀ x, foldedSetIterable iter X.env x = pure x) :
    PE X (.ListComp elt [⟨tg, iter, ifs, 0⟩] scope pos) (tLc wi g tt te (own.map (·.2))) := by
  refine ⟨fun pins s σ H Q I h => ?_⟩
  rw [eval_ListComp]
  have hfree : ∀ y ∈ scope.names, y.2 = .free → ∃ c, X.env.cells.lookup y.1 = some c := fun y hy z => (ok.free y hy z).elim (fun k => I.ok.has _ (.inl k)) fun k => I.ok.has _ (.inr k)
  refine wpAny_comprehension_free rfl hs (closure_ok hfree) ok.kind (fun y hy z => by rw [ok.uniq y hy, z]) (thn (hi.run pins s σ H _ I h) fun xv s1 hx => thn hx fun iv s2 h2 => ?_)
  obtain ⟨it, fp, tn, J, H2, ev, I2, T, st2, f2, q⟩ := h2
  subst ev
  refine wpAny_newObj_type (newEnv_comp ?_) (by show 0 ≤ sizeLine; decide)
  generalize hD : s2.heap.objs.size = D
  have nD : H2 D = none := I2.hok.fresh (Nat.le_of_eq hD)
  obtain ⟨Wf, ⟨m0, w0⟩, turn⟩ := q D nD
  generalize e3 : ({ s2 with heap := s2.heap.push { cls := .type "list", data := .seq ([] : List Value).toArray } } : Shared) = s3
  have k3 : ∀ b o, s2.heap.get? b = some o → s3.heap.get? b = some o := fun b o z => by
    subst e3
    exact Heap.get?_push_of_some _ z
  have z3 : s2.heap.objs.size < s3.heap.objs.size := by
    subst e3
    show _ < (s2.heap.push _).objs.size
    rw [Heap.size_push]
    exact Nat.lt_succ_self _
  have I3 : Inv X pins σ (upd H2 D (.lst [])) s3 := by
    subst e3
    refine I2.laid (t' := s2.toks) k3 (Nat.le_of_eq hD) ⟨Nat.zero_le _, [], 0, .nil, ?_⟩
    subst hD
    exact Heap.get?_push_size _ rfl
  have low : ∀ b ∈ fp, b < s2.heap.objs.size := fun b hb => let ⟨_, z, _⟩ := T.obj _ _ st2 b hb; Heap.lt_size z
  have nfp : ∀ b ∈ fp, (upd H2 D (.lst [])) b = none := fun b hb => by
    rw [upd_ne (by rw [← hD]; exact Nat.ne_of_lt (low b hb))]
    exact (f2 b hb).1
  have f3 : ∀ b ∈ fp, FpOk X pins (upd H2 D (.lst [])) b ∧ b < s3.heap.objs.size := fun b hb => ⟨⟨nfp b hb, (f2 b hb).2⟩, Nat.lt_trans (low b hb) z3⟩
  have I4 := block_start I3 ok nd f3
  generalize ec : compEnvC scope (cellsFrom (s3.heap.objs.size + 1) scope.names (cloFrom X.env.cells scope.names [])) s3.heap.objs.size X.env = ce at I4
  have scE : ce.scope = relS scope X.env.scope := by
    subst ec
    rfl
  have lcE : ce.locals = s3.heap.objs.size := by
    subst ec
    rfl
  generalize e4 : ({ s3 with heap := pushCells (s3.heap.push { cls := .type "dict", data := .dict #[] }) scope.names } : Shared) = s4 at I4
  have k4 : ∀ b o, s3.heap.get? b = some o → s4.heap.get? b = some o := fun b o z => by
    subst e4
    exact pushCells_keeps _ _ _ _ (Heap.get?_push_of_some _ z)
  have P3 := I3.pin p (List.mem_append_left _ hp)
  have I5 : Inv (blkH X p s3 (upd H2 D (.lst [])) scope ce fp) [] (wipe σ (own.map (·.2))) (upd H2 D (.lst [])) s4 := invH I4 ⟨k4 _ _ P3.1, P3.2.1, by rw [lcE]; exact Nat.ne_of_lt (Heap.lt_size P3.1), fun z => (List.mem_cons.mp (I3.stkSub p.1 z)).elim P3.2.2.1 P3.2.2.2.1, P3.2.2.2.2⟩
  generalize e5 : upd H2 D (.lst []) = H3 at I3 I4 I5 w0 nfp f3
  have pg := hg s3 H3 ce fp scE
  have pt := ht s3 H3 ce fp scE
  have pe := he s3 H3 ce fp scE
  have hc : HotC (blkH X p s3 H3 scope ce fp) := ⟨p, hot, List.mem_singleton_self _⟩
  have st4 : tn 0 s4.heap := T.keep _ _ _ st2 fun b _ o z => k4 _ _ (k3 _ _ z)
  have P4 := I5.pin p (by simp)
  have stat : ∀ {σ' : L2.St} {H' : Hp} {s' : Shared}, Inv (blkH X p s3 H3 scope ce fp) [] σ' H' s' → (∀ b ∈ fp, H' b = none) → ∀ b ∈ fp, FpOk (blkH X p s3 H3 scope ce fp) [] H' b := fun {σ' H' s'} I' hn b hb =>
    ⟨hn b hb, (I'.ok.exf b hb).1, I'.ok.exfs b hb, .inl hb, (I'.ok.exf b hb).2, fun q hq z => by
      have eq : q = p := List.mem_singleton.mp (show q ∈ [p] from hq)
      subst eq
      exact (f3 b hb).1.2.2.2.2.2 q (List.mem_append_left _ hp) z⟩
  have loop : codeAny (model X.prog X.w) X.A (.compLoop (.ListComp elt [⟨tg, iter, ifs, 0⟩] scope pos) 0 (.ref it) (.ref D) ce) (compPost (model X.prog X.w) X.A X.xe none (EP X pins σ Q) (.ref D) s3.heap.objs.size) s4 := by
    refine compLoop_any (fun n s' => ∃ i H', Inv (blkH X p s3 H3 scope ce fp) [] (wipe σ (own.map (·.2))) H' s' ∧ tn i s'.heap ∧ (∀ b ∈ fp, H' b = none) ∧ Wf i n H') ?_ m0 ⟨0, H3, I5, st4, nfp, w0⟩
    rintro n s5 ⟨i, H5, J5, st5, n5, w5⟩
    rcases turn i n H5 w5 with ⟨stop, fin⟩ | ⟨go, Nx, hNx, step⟩
    · refine thnF (T.done (blkH X p s3 H3 scope ce fp) rfl rfl rfl hc i [] s5 _ H5 (fun _ _ => False) J5 (stat J5 n5) st5 stop) fun r s6 hr => ?_
      obtain ⟨er, J6⟩ := hr
      subst er
      have J7 : Inv X pins σ H5 s6 := I3.call' (ch := fp) J6.os J6.base J6.hok J6.bare fun b hb => ⟨(f3 b hb).1.2.2.2.1, (f3 b hb).1.2.1, (f3 b hb).1.2.2.2.2.1, (f3 b hb).1.2.2.2.2.2⟩
      have nC : H5 s3.heap.objs.size = none := lcE ▸ J6.free
      obtain ⟨m, hn, _⟩ := J6.loc
      have hn2 : s6.heap.Ns s3.heap.objs.size m := lcE ▸ hn
      obtain ⟨g0, g1, g2, g3, g4, g5⟩ := I3.fpOk (Nat.le_refl _) nC
      exact ⟨m, hn2, fun h'' sb => ⟨.ref D, H5, J7.turned (t' := s6.toks) (fun b o hb z => (sb.2 b hb).trans z) g0 g1 g3 g4 g5, rfl, fin⟩⟩
    · refine thnF (T.item (blkH X p s3 H3 scope ce fp) rfl rfl rfl hc i [] s5 _ H5 (fun _ _ => False) J5 (stat J5 n5) st5 go) fun r s6 hr => ?_
      obtain ⟨u, er, h6⟩ := hr
      subst er
      refine thnF h6 fun _ s7 h7 => ?_
      obtain ⟨x, H7, J7, r7, y7, st7, n7⟩ := h7
      refine thnF (pg.run _ s7 _ H7 x u _ (J7.pinned (stat J7 n7) (T.obj _ _ st7)) r7 (step x H7 y7)) fun _ s8 h8 => ?_
      obtain ⟨σ8, H8, J8, w8, q8⟩ := h8
      have over : ∀ {s' : Shared} {H' : Hp}, Inv (blkH X p s3 H3 scope ce fp) ([] ++ pinsAt fp s7.heap) σ8 H' s' → Nx H' → ∃ m, m < n ∧ ∃ i H', Inv (blkH X p s3 H3 scope ce fp) [] (wipe σ (own.map (·.2))) H' s' ∧ tn i s'.heap ∧ (∀ b ∈ fp, H' b = none) ∧ Wf i m H' := fun {s' H'} J' nx => by
        obtain ⟨m', hm, w'⟩ := hNx H' nx
        have held : ∀ b ∈ fp, ∀ o, s7.heap.get? b = some o → s'.heap.get? b = some o ∧ H' b = none := fun b hb o z =>
          have y := J'.pin (b, o) (List.mem_append_right _ (List.mem_append_right _ (mem_pinsAt hb z)))
          ⟨y.1, y.2.1⟩
        refine ⟨m', hm, i + 1, H', (J'.unpinned (pins := [])).weak (by rw [← w8, wipe_length]) (fun j v z => by rw [← w8] at z; exact (wipe_some z).1), T.keep _ _ _ st7 fun b hb o z => (held b hb o z).1, fun b hb => ?_, w'⟩
        obtain ⟨o, z, _⟩ := T.obj _ _ st7 b hb
        exact (held b hb o z).2
      refine thnF (pt.run _ s8 σ8 H8 _ J8 q8) fun b s9 h9 => ?_
      obtain ⟨H9, J9, q9⟩ := h9
      cases b with
      | false => exact over J9 q9
      | true =>
        refine thnF (pe.run _ s9 σ8 H9 _ J9 q9) fun z s10 h10 => ?_
        obtain ⟨yv, H10, J10, r10, acc, at10, few, nx⟩ := h10
        exact app_ok (X := blkH X p s3 H3 scope ce fp) J10 at10 few r10 fun s11 J11 => over J11 nx
  have st := codeAny_compStart_list loop (T.self X.A 0 _ _ _ st4 loop)
  subst ec e4
  exact st
end
end Vm
set_option Elab.async false
set_option linter.all false
set_option maxRecDepth 100000
set_option maxHeartbeats 4000000
/-! The def that tells an exception's kinds, called while that exception is handled. -/
namespace Vm
open PySem PySem.Spec PyProof.Rows L2 L2H
/-- all that is tracked stands -/
def Grow (H J : Hp) : Prop := ∀ a o, H a = some o → J a = some o
theorem Grow.refl (H : Hp) : Grow H H := fun _ _ h => h
theorem Grow.trans {H J L : Hp} (g : Grow H J) (k : Grow J L) : Grow H L := fun a o h => k a o (g a o h)
theorem Grow.upd {H J : Hp} (g : Grow H J) {q : Addr} (h : H q = none) (o : HO) : Grow H (L2.upd J q o) := fun a u e => by
  rw [upd_ne (ne_of_none e h)]
  exact g a u e
theorem Grow.none {H J : Hp} (g : Grow H J) {q : Addr} (h : J q = none) : H q = none := by
  cases e : H q with
  | none => rfl
  | some u => rw [g q u e] at h; cases h
theorem Grow.ex {io : List Addr} {H J : Hp} (g : Grow H J) : Ex io H io J := ⟨⟨[], (List.append_nil io).symm⟩, fun a o h e => ⟨g a o e, h⟩, fun a ob u e => g a _ e⟩
theorem Grow.sim {K : Fg} {mg : Mg} {io : List Addr} {H J : Hp} {S : Vs} (g : Grow H J) (s : Sim K mg io H S) : Sim K mg io J S := ⟨s.len, s.nd, fun n ob e => by
  obtain ⟨a, ha, q⟩ := s.at_ n ob e
  obtain ⟨u, hu⟩ := s.there (List.mem_iff_getElem?.mpr ⟨n, ha⟩)
  exact ⟨a, ha, q.mono s g.ex (by rw [g a u hu, hu])⟩⟩
/-- the exception's dict, where it has one -/
def XDk (d : Option Addr) (H : Hp) : Prop := d = none ∨ ∃ dd fs, d = some dd ∧ H dd = some (.xd fs)
theorem XDk.grow {d : Option Addr} {H J : Hp} (h : XDk d H) (g : Grow H J) : XDk d J := h.imp id fun ⟨dd, fs, e, k⟩ => ⟨dd, fs, e, g _ _ k⟩
structure KnC (K : Fg) (mg : Mg) (D : Addr) (c : Str) (b : Bool) : Prop where
  one : (∃ C, mg c = some (.ref C) ∧ PySem.W.kitOne K (.ref D) (.ref C) = some b) ∨ (c = "ValueError" ∧ mg c = none ∧ PySem.W.kitOne K (.ref D) (.type "ValueError") = some b)
  nd : (c == ("__debug__" : Str)) = false
section
variable {X : Cx} {a D : Addr} {oe : Obj} {d : Option Addr} {e c : Str} {b : Bool} {q1 q2 q3 q4 : Pos}
/-- isinstance(e, c), e pinned -/
theorem call_isX (C : ExcC X.K D) (hp : (a, oe) ∈ X.pn) (hz : Zc (.ref D) d oe) (hf : ∃ vs, oe.data = .fields vs) :
    CallR X (.builtin "isinstance") fun xs H Q => ∃ (v : V) (u : Value) (b : Bool), xs = [.ref a, v] ∧ (∀ z, RelV v z → z = u) ∧ PySem.W.kitOne X.K (.ref D) u = some b ∧ XDk d H ∧ Q (.bl b) H := by
  intro pins s σ H xs us Q I r h
  obtain ⟨v, u, b, ex, hu, k, dk, q⟩ := h
  subst ex
  match us, r with
  | [_, z], .cons (.refl _) (.cons rz .nil) =>
    have ez := hu z rz
    subst ez
    have at_ := (I.pin (a, oe) (List.mem_append_left _ hp)).1
    obtain ⟨vs, hv⟩ := hf
    obtain ⟨od, J⟩ : ∃ od, PySem.W.InstAt s.heap a oe D od := by
      rcases dk with dn | ⟨dd, fs, ed, hd⟩
      · exact ⟨none, at_, hz.1, by unfold PySem.W.notCls; rw [hv] <;> rfl, by rw [hz.2, dn]; trivial⟩
      · obtain ⟨o, ho⟩ := objOk_get (I.hok dd _ hd)
        exact ⟨some o, at_, hz.1, by unfold PySem.W.notCls; rw [hv] <;> rfl, by rw [hz.2, ed]; exact ho⟩
    obtain ⟨cd, hc, _⟩ := PySem.W.any_some C.hd
    exact PySem.W.kia_one (PySem.W.kitx_exc (by rw [hc]; rfl) C.hg C.hk C.hs C.ha C.hn C.ht C.hm) I.kIn J k (fun z => nomatch z) fun tk => ⟨.bl b, H, I.kept (t' := tk) fun _ _ z => z, rfl, q⟩
/-- asked of e, which is the exception -/
def tIsX (a : Addr) (d : Option Addr) (b : Bool) : TE := fun σ H Q => σ[0]? = some (some (.ref a)) ∧ XDk d H ∧ Q (.bl b) H
theorem pe_isX (C : ExcC X.K D) (hp : (a, oe) ∈ X.pn) (hz : Zc (.ref D) d oe) (hf : ∃ vs, oe.data = .fields vs) (hg : Gl X "isinstance") (hm : X.mg "isinstance" = none) (hN : X.N[0]? = some e) (hv : Vis X.env.scope e) (he : (e == ("__debug__" : Str)) = false) (he2 : (e == ("__classdict__" : Str)) = false)
    (k : KnC X.K X.mg D c b) (hgc : Gl X c) : PE X (.Call (.Name "isinstance" q1) [.Name e q2, .Name c q3] [] q4) (tIsX a d b) := by
  have cl : ∃ (v : V) (u : Value), PE X (.Name c q3) (tC v) ∧ (∀ z, RelV v z → z = u) ∧ PySem.W.kitOne X.K (.ref D) u = some b := by
    rcases k.one with ⟨C, h1, h2⟩ | ⟨h0, h1, h2⟩
    · exact ⟨.ref C, .ref C, pe_glob hgc h1 rfl k.nd, fun z hz => hz, h2⟩
    · subst h0
      exact ⟨.ty "ValueError", .type "ValueError", pe_bltn hgc h1 PyProof.Rows.Boot.«ValueError» rfl (by decide) k.nd, fun z hz => hz, h2⟩
  obtain ⟨v, u, h1, h2, h3⟩ := cl
  exact peMono (pe_callB (call_isX C hp hz hf) hg hm PyProof.Rows.boot_isinstance (pa_cons (pe_var hN hv he he2) (pa_cons h1 pa_nil)) (by decide) (by decide)) fun σ H Q ⟨g1, g2, g3⟩ => ⟨.ref a, g1, v, u, b, rfl, h2, h3, g2, g3⟩
end

/-! ### an except clause's suite -/
/-- the def at fa tells the kind of the exception that is handled -/
def KnOk (P : Program) (w : World) (K : Fg) (mg : Mg) (base : Heap) (lv : Nat) (fa : Addr) (fd : FuncData) : Prop :=
  ∀ (A : Around) (outer : List Env) (s : Shared) (H : Hp) (args : Args) (Q : VK) (p : Addr × Obj) (C : Addr) (d : Option Addr) (c : Str) (i : XI), RoomH lv A → Hot1 A p → PinOk outer H s p → Env0 P w K mg base A outer s H → BindsTo s fd args ((["_law_e"] : List Str).zip [.ref p.1]) →
    Zc (.ref C) d p.2 → xTab.lookup c = some i → mg c = some (.ref C) → XDk d H → (∀ J, Grow H J → Q (.str i.kind) J) → codeAny (model P w) A (.call (.ref fa) args) (CR (L2N.CX P w) outer P w H s Q fun _ _ _ => False) s
/-- all of the text's exceptions are as the table says; the clauses' classes -/
structure XsOk (X : Cx) (lv : Nat) (hs : List Str) : Prop where
  ex : ∀ c i, xTab.lookup c = some i → ∃ C, XcOk X lv c i C ∧ XfC X.K C ∧ (∀ f ∈ i.fs, PySem.W.findIn X.K (.ref C) f = some none) ∧ ∀ h ∈ hs, ∃ B, X.mg h = some (.ref B) ∧ (h == ("__debug__" : Str)) = false ∧ PySem.W.exmOne X.K (.ref C) (.ref B) = some (i.up.contains h)
  hd : ∀ h ∈ hs, ∃ B, X.mg h = some (.ref B) ∧ (h == ("__debug__" : Str)) = false
section
variable {X : Cx} {a : Addr} {oe : Obj} {cls : Value} {d : Option Addr} {pn : List (Addr × Obj)} {n : Nat} {en : Str} {lv : Nat} {hs : List Str} {q1 q2 q3 q4 : Pos}
/-- an expression in a suite; slot n is the clause's name -/
def trX (K : Fg) (mg : Mg) (a : Addr) (cls : Value) (d : Option Addr) (n : Nat) (m : Exn → Vs → Out W) : TE := fun σ H Q => ∃ io S x, Sim K mg io H S ∧ RepX K mg io H x cls d ∧ σ[n]? = some (some (.ref a)) ∧ Po K mg WxF (Rep K mg) (m x S) io H σ Q
theorem repX_dk {K : Fg} {mg : Mg} {io : List Addr} {H : Hp} {x : Exn} (h : RepX K mg io H x cls d) : XDk d H := by
  obtain ⟨C, _, _, h | ⟨dd, fs, e, k, _⟩⟩ := h
  · exact .inl h.2
  · exact .inr ⟨dd, fs, e, k⟩
/-- what a part of a suite's expression is -/
abbrev haO (h : HA) (x : Exn) (S : Vs) : Out W := match haV h x with
  | some w => .ok w S
  | none => .err
theorem xv_str {z : Str} {j : Nat} : PE (X.suite a ((a, oe) :: pn)) (.Constant (.str z) j q1) (trX X.K X.mg a cls d n (haO (.str z))) :=
  peMono pe_str fun σ H Q ⟨io, S, x, s, rx, e, p⟩ => p.now s (.str z)
theorem xv_kinds {f : Str} {fa : Addr} {fd : FuncData} (xo : XsOk X lv hs) (hz : L2N.Zn cls d oe) (hf : ∃ vs, oe.data = .fields vs) (kn : KnOk X.prog X.w X.K X.mg X.base lv fa fd) (hr : Room lv X.A) (hg : Gl X f) (hm : X.mg f = some (.ref fa)) (hk : PySem.W.keepIn X.K (.ref fa) = true) (hb : Binds X.K fd ["_law_e"] [])
    (hN : X.N[n]? = some en) (hv : Vis X.env.scope en) (he : (en == ("__debug__" : Str)) = false) (he2 : (en == ("__classdict__" : Str)) = false) (hd : (f == ("__debug__" : Str)) = false) :
    PE (X.suite a ((a, oe) :: pn)) (.Call (.Name f q1) [.Name en q2] [] q3) (trX X.K X.mg a cls d n (haO .kinds)) := by
  refine ⟨fun pins s σ H Q I h => ?_⟩
  obtain ⟨io, S, x, sm, rx, es, p⟩ := h
  refine wpAny_Call_Name_kw (ld_glob (X := X.suite a ((a, oe) :: pn)) I hg hm ?_ hd)
  refine PySem.W.callWith_K (h₀ := X.base) I.ok.mod.kin hk (thn ((pa_cons (pe_var (X := X.suite a ((a, oe) :: pn)) (i := n) hN hv he he2) pa_nil).run q3 pins s σ H (fun vs H1 => vs = [.ref a] ∧ H1 = H) I ⟨.ref a, es, rfl, rfl⟩) fun us s1 hu => ?_) rfl rfl
  obtain ⟨vs, H1, I1, r1, ev, eH⟩ := hu
  subst ev eH
  refine ⟨I1.kIn, ?_⟩
  match us, r1 with
  | [_], .cons (.refl _) .nil =>
    have P1 := I1.pin (a, oe) (List.mem_append_left _ List.mem_cons_self)
    obtain ⟨vs, hv2⟩ := hf
    have hot : Hot1 (X.suite a ((a, oe) :: pn)).A (a, oe) := ⟨rfl, vs, hv2, hz.2.2 vs hv2⟩
    have pk : PinOk X.stack H1 s1 (a, oe) := ⟨P1.1, P1.2.1, fun z => (List.mem_cons.mp (I1.stkSub _ z)).elim P1.2.2.1 P1.2.2.2.1, P1.2.2.2.2⟩
    have b := hb s1 [.ref a] I1.kIn rfl
    have dk := repX_dk rx
    obtain ⟨C, mc, ec, _⟩ := id rx
    subst ec
    have p : Po X.K X.mg WxF (Rep X.K X.mg) (match (xTab.lookup x.cls).map fun i => W.str i.kind with
      | some w => .ok w S
      | none => .err) io H1 σ Q := p
    cases ht : xTab.lookup x.cls with
    | none => rw [ht] at p; exact p.elim
    | some i =>
      rw [ht] at p
      have go := kn (X.suite a ((a, oe) :: pn)).A X.stack s1 H1 ⟨[.ref a], []⟩ Q (a, oe) C d x.cls i (roomH_mark hr _) hot pk I1.env0 b hz.zc ht mc dk fun J g => p io (.str i.kind) J g.ex (g.sim sm) (.str _)
      refine wpAny_call (codeAny_mono go fun r s2 hq => ?_)
      match r, hq with
      | .error y, ⟨_, _, _, _, _, _, _, _, _, _, _, _, no⟩ => exact no.elim
      | .ok (.ret u), hq => exact I1.after hq
      | .ok .next, hq => exact hq.elim
      | .ok .brk, hq => exact hq.elim
      | .ok .cont, hq => exact hq.elim
theorem xv_fld {f : Str} (xo : XsOk X lv hs) (hz : L2N.Zn cls d oe) (hf : ∃ vs, oe.data = .fields vs) (hN : X.N[n]? = some en) (hv : Vis X.env.scope en) (he : (en == ("__debug__" : Str)) = false) (he2 : (en == ("__classdict__" : Str)) = false) :
    PE (X.suite a ((a, oe) :: pn)) (.Attribute (.Name en q1) f q2) (trX X.K X.mg a cls d n (haO (.fld f))) := by
  have go : ∀ C : { C : Addr // XfC X.K C ∧ PySem.W.findIn X.K (.ref C) f = some none }, PE (X.suite a ((a, oe) :: pn)) (.Attribute (.Name en q1) f q2) (tXf a cls d C.1 f (tVar n)) := fun C =>
    pe_xf C.2.1 C.2.2 hz.zc hf (pe_var (X := X.suite a ((a, oe) :: pn)) hN hv he he2)
  refine peMono (peAny go) fun σ H Q ⟨io, S, x, sm, rx, es, p⟩ => ?_
  have p : Po X.K X.mg WxF (Rep X.K X.mg) (match (match xTab.lookup x.cls with
      | some i => if i.fs.contains f then x.fs.lookup f else none
      | none => none) with
    | some w => .ok w S
    | none => .err) io H σ Q := p
  cases ht : xTab.lookup x.cls with
  | none => rw [ht] at p; exact p.elim
  | some i =>
    rw [ht] at p
    dsimp only at p
    by_cases hc : i.fs.contains f = true
    · rw [if_pos hc] at p
      cases hw : x.fs.lookup f with
      | none => rw [hw] at p; exact p.elim
      | some w =>
        rw [hw] at p
        obtain ⟨C, mc, ec, h | ⟨dd, fs, ed, k, r, _⟩⟩ := rx
        · rw [h.1] at hw
          cases hw
        · obtain ⟨v, hl, rv, _⟩ := repP_look (X := X) r hw
          obtain ⟨C2, xk, xf, hno, _⟩ := xo.ex _ _ ht
          have e2 := xk.mg
          rw [mc] at e2
          cases e2
          exact ⟨⟨C, xf, hno f (by simpa using hc)⟩, .ref a, es, rfl, ec, dd, fs, v, ed, k, hl, p.now sm rv⟩
    · rw [if_neg hc] at p
      exact p.elim
/-- a part -/
theorem xv_at {e : Expr} {h : HA} (he : PE (X.suite a ((a, oe) :: pn)) e (trX X.K X.mg a cls d n (haO h))) : PE (X.suite a ((a, oe) :: pn)) e (trX X.K X.mg a cls d n (hxV (.at_ h))) :=
  peMono he fun σ H Q ⟨io, S, x, sm, rx, es, p⟩ => ⟨io, S, x, sm, rx, es, p⟩
theorem RepX.mono {K : Fg} {mg : Mg} {io jo : List Addr} {H J : Hp} {S : Vs} {x : Exn} (s : Sim K mg io H S) (g : Ex io H jo J) (h : RepX K mg io H x cls d) : RepX K mg jo J x cls d := by
  obtain ⟨C, h1, h2, h3⟩ := h
  refine ⟨C, h1, h2, h3.imp id fun ⟨dd, fs, e, k, r, o⟩ => ?_⟩
  obtain ⟨k2, o2⟩ := g.fr _ _ o k
  exact ⟨dd, fs, e, k2, r.mono s g, o2⟩
def hasO (l : List HA) (x : Exn) (S : Vs) : Out (List W) := match hasV l x with
  | some ws => .ok ws S
  | none => .err
def trXs (K : Fg) (mg : Mg) (a : Addr) (cls : Value) (d : Option Addr) (n : Nat) (l : List HA) : TA := fun σ H Q => ∃ io S x, Sim K mg io H S ∧ RepX K mg io H x cls d ∧ σ[n]? = some (some (.ref a)) ∧ Po K mg WxF (Reps K mg) (hasO l x S) io H σ Q
theorem xvs_nil : PA (X.suite a ((a, oe) :: pn)) [] (trXs X.K X.mg a cls d n []) := paMono pa_nil fun σ H Q ⟨io, S, x, sm, rx, es, p⟩ => p.now sm .nil
theorem xvs_cons {e : Expr} {es : List Expr} {h : HA} {l : List HA} (he : PE (X.suite a ((a, oe) :: pn)) e (trX X.K X.mg a cls d n (haO h))) (hl : PA (X.suite a ((a, oe) :: pn)) es (trXs X.K X.mg a cls d n l)) (hs : notStar e = true) : PA (X.suite a ((a, oe) :: pn)) (e :: es) (trXs X.K X.mg a cls d n (h :: l)) :=
  paMono (pa_cons he hl (star_of hs)) fun σ H Q ⟨io, S, x, sm, rx, es, p⟩ => by
    have p : Po X.K X.mg WxF (Reps X.K X.mg) (match (match haV h x, hasV l x with
        | some w, some ws => some (w :: ws)
        | _, _ => none) with
      | some ws => .ok ws S
      | none => .err) io H σ Q := p
    cases e1 : haV h x with
    | none => rw [e1] at p; exact p.elim
    | some w =>
      cases e2 : hasV l x with
      | none => rw [e1, e2] at p; exact p.elim
      | some ws =>
        rw [e1, e2] at p
        refine ⟨io, S, x, sm, rx, es, ?_⟩
        show Po X.K X.mg WxF (Rep X.K X.mg) (match haV h x with
          | some w => .ok w S
          | none => .err) io H σ _
        rw [e1]
        intro io1 v H1 x1 s1 r1
        refine ⟨io1, S, x, s1, rx.mono sm x1, es, ?_⟩
        unfold hasO
        rw [e2]
        exact fun io2 vs H2 x2 s2 r2 => p io2 (v :: vs) H2 (x1.trans x2) s2 (.cons (r1.mono s1 x2) r2)
theorem xv_lst {es : List Expr} {l : List HA} (h : PA (X.suite a ((a, oe) :: pn)) es (trXs X.K X.mg a cls d n l)) : PE (X.suite a ((a, oe) :: pn)) (.List es q1) (trX X.K X.mg a cls d n (hxV (.lst l))) :=
  peMono (pe_lst h) fun σ H Q ⟨io, S, x, sm, rx, es, p⟩ => by
    have p : Po X.K X.mg WxF (Rep X.K X.mg) (match hasV l x with
      | some ws => if fits ws.length then newL ws S else .err
      | none => .err) io H σ Q := p
    cases e2 : hasV l x with
    | none => rw [e2] at p; exact p.elim
    | some ws =>
      rw [e2] at p
      refine ⟨io, S, x, sm, rx, es, ?_⟩
      unfold hasO
      rw [e2]
      intro io1 vs H1 x1 s1 r1
      by_cases hf : fits ws.length = true
      · have p : Po X.K X.mg WxF (Rep X.K X.mg) (newL ws S) io H σ Q := by
          have q := p
          simp only [hf, if_true] at q
          exact q
        exact ⟨by rw [← r1.length]; exact fits_le hf, fun q hq => Sim.nu s1 ws vs r1 (Po.ext x1 p) q hq⟩
      · exfalso
        simp only [hf] at p
        exact p
theorem xv_ite {c b e : Expr} {h : HA} {z : Str} {j : Nat} {hb hc : HX} (he : PE (X.suite a ((a, oe) :: pn)) c (trX X.K X.mg a cls d n (haO h))) (h1 : PE (X.suite a ((a, oe) :: pn)) b (trX X.K X.mg a cls d n (hxV hb))) (h2 : PE (X.suite a ((a, oe) :: pn)) e (trX X.K X.mg a cls d n (hxV hc))) :
    PE (X.suite a ((a, oe) :: pn)) (.IfExp (.Compare c [.Eq] [.Constant (.str z) j q1] q2) b e q3) (trX X.K X.mg a cls d n (hxV (.ite h z hb hc))) :=
  peMono (pe_ifExp (pt_cmpR op_eq he pe_str rfl) h1 h2) fun σ H Q ⟨io, S, x, sm, rx, es, p⟩ => by
    have p : Po X.K X.mg WxF (Rep X.K X.mg) (match haV h x with
      | some (.str y) => if y = z then hxV hb x S else hxV hc x S
      | _ => .err) io H σ Q := p
    refine ⟨io, S, x, sm, rx, es, ?_⟩
    show Po X.K X.mg WxF (Rep X.K X.mg) (match haV h x with
      | some w => .ok w S
      | none => .err) io H σ _
    cases e1 : haV h x with
    | none => rw [e1] at p; exact p.elim
    | some w =>
      rw [e1] at p
      cases w with
      | str y =>
        intro io1 v H1 x1 s1 r1
        cases r1
        refine ⟨rfl, decide (y = z), ?_, ?_⟩
        · congr 1
          exact decide_eq_decide.mpr ⟨fun q => V.str.inj q, fun q => congrArg V.str q⟩
        · have p : Po X.K X.mg WxF (Rep X.K X.mg) (if y = z then hxV hb x S else hxV hc x S) io H σ Q := p
          by_cases hy : y = z
          · rw [decide_eq_true hy]
            rw [if_pos hy] at p
            exact ⟨io1, S, x, s1, rx.mono sm x1, es, Po.ext x1 p⟩
          · rw [decide_eq_false hy]
            rw [if_neg hy] at p
            exact ⟨io1, S, x, s1, rx.mono sm x1, es, Po.ext x1 p⟩
      | _ => exact p.elim
/-- t = e -/
def xts (K : Fg) (mg : Mg) (n t : Nat) (h : HX) : XTs := fun a cls d D σ H => ∃ io S x, Sim K mg io H S ∧ RepX K mg io H x cls d ∧ σ[n]? = some (some (.ref a)) ∧ Po K mg WxF (Rep K mg) (hxV h x S) io H σ fun v H1 => D.nx (σ.set t (some v)) H1
theorem xsuite {e : Expr} {h : HX} {t : Nat} {tn : Str} (nd : X.N.Nodup) (ht : X.N[t]? = some tn) (hl : Loc X.env.scope tn) (hf : X.fn tn = true ∨ X.env.scope.names.lookup tn = some .local) (hs : notComp e = true) (he : PE (X.suite a ((a, oe) :: pn)) e (trX X.K X.mg a cls d n (hxV h))) :
    PSs (X.suite a ((a, oe) :: pn)) [.Assign [.Name tn q1] e q2] (xts X.K X.mg n t h a cls d) :=
  pssMono (pss_one (ps_set (X := X.suite a ((a, oe) :: pn)) nd ht hl he (comp_of hs) hf)) fun E σ H ⟨io, S, x, sm, rx, es, p⟩ => ⟨io, S, x, sm, rx, es, p⟩
end
end Vm
set_option Elab.async false
set_option linter.all false
set_option maxRecDepth 100000
set_option maxHeartbeats 4000000
/-! try, in the interpreter. -/
namespace Vm
open PySem PySem.Spec PyProof.Rows L2 L2H
/-- the clauses' texts are those of the interpreter's -/
inductive XHz (X : Cx) (chs : List Str) : List ExceptHandler → List Hd → Prop
  | nil : XHz X chs [] []
  | cons {n : Str} {st : Stmt} {q1 q2 : Pos} {hs : List ExceptHandler} {h : Hd} {l : List Hd} (hg : Gl X h.cls) (hm : h.cls ∈ chs) (hi : X.N[h.slot]? = some n) (hn : X.env.kindOf n = some .local)
      (su : ∀ (a : Addr) (oe : Obj) (cls : Value) (d : Option Addr) (pn : List (Addr × Obj)), L2N.Zn cls d oe → (∃ vs, oe.data = .fields vs) → PSs (X.suite a ((a, oe) :: pn)) [st] (xts X.K X.mg h.slot h.tgt h.e a cls d)) (r : XHz X chs hs l) :
      XHz X chs (.ExceptHandler (some (.Name h.cls q1)) (some n) [st] q2 :: hs) (h :: l)
section
variable {X : Cx} {D : Wd} {Wx : WX} {lv : Nat} {chs : List Str} {hs : List ExceptHandler} {l : List Hd}
theorem set_hd {K : Fg} {mg : Mg} {io : List Addr} {H : Hp} {r : Rho} {σ : L2.St} {i t : Nat} {u v : V} {w : W} (e : RepE K mg io H r σ) (q : Rep K mg io H w v) (ht : t ≠ i) : RepE K mg io H ((r.set t (some w)).set i none) (((σ.set i (some u)).set t (some v)).set i none) := by
  refine ⟨by simp [e.len], fun j w' h => ?_⟩
  by_cases hj : i = j
  · subst hj
    by_cases hl : i < (r.set t (some w)).length
    · rw [List.getElem?_set_self hl] at h; cases h
    · rw [List.getElem?_eq_none (by simpa using hl)] at h; cases h
  · rw [List.getElem?_set_ne hj] at h ⊢
    by_cases hk : t = j
    · subst hk
      by_cases hl : t < r.length
      · rw [List.getElem?_set_self hl] at h
        cases h
        exact ⟨v, List.getElem?_set_self (by rw [List.length_set, ← e.len]; exact hl), q⟩
      · rw [List.getElem?_eq_none (by simpa using hl)] at h; cases h
    · rw [List.getElem?_set_ne hk] at h ⊢
      rw [List.getElem?_set_ne hj]
      exact e.at_ j w' h
theorem xh_of (xo : XsOk X lv chs) (hh : XHz X chs hs l) : ∃ L : List (Value × Nat × XTs), XHs X hs L ∧ ∀ (x : Exn) (r : Rho) (S : Vs) (io : List Addr) (H : Hp) (σ : L2.St) (E : Ends) (cls : Value) (d : Option Addr), Sim X.K X.mg io H S → RepE X.K X.mg io H r σ → RepX X.K X.mg io H x cls d →
    PoS X.K X.mg Wx (handF l x r S) io H E → xWish X.K Wx E L cls d σ H := by
  induction hh with
  | nil => exact ⟨[], .nil, fun x r S io H σ E cls d s e rx p => p io σ H cls d (Ex.refl io H) s e rx⟩
  | @cons n st q1 q2 hs h l hg hm hi hn su r ih =>
    obtain ⟨L, k1, k2⟩ := ih
    obtain ⟨B, mb, nb⟩ := xo.hd _ hm
    refine ⟨(.ref B, h.slot, xts X.K X.mg h.slot h.tgt h.e) :: L, .cons ⟨hg, nb, .inl mb⟩ hi hn su k1, fun x r S io H σ E cls d s e rx p => ?_⟩
    have p : PoS X.K X.mg Wx (match xSub x.cls h.cls with
      | some true => if decide (h.slot < r.length ∧ h.tgt ≠ h.slot) then (match hxV h.e x S with
        | .ok w s' => .nx ((r.set h.tgt (some w)).set h.slot none) s'
        | _ => .err) else .err
      | some false => handF l x r S
      | none => .err) io H E := p
    obtain ⟨C, mc, ec, _⟩ := id rx
    cases hx : xTab.lookup x.cls with
    | none =>
      have : xSub x.cls h.cls = none := by unfold xSub; rw [hx]; rfl
      rw [this] at p
      exact p.elim
    | some i =>
      have hsb : xSub x.cls h.cls = some (i.up.contains h.cls) := by unfold xSub; rw [hx]; rfl
      obtain ⟨C2, xk, _, _, hex⟩ := xo.ex _ _ hx
      obtain ⟨B2, mb2, _, ex⟩ := hex _ hm
      rw [mb] at mb2
      cases mb2
      have e2 := xk.mg
      rw [mc] at e2
      cases e2
      rw [hsb] at p
      subst ec
      refine ⟨_, ex, fun hb a ha => ?_, fun hb => ?_⟩
      · rw [hb] at p
        have p : PoS X.K X.mg Wx (if decide (h.slot < r.length ∧ h.tgt ≠ h.slot) then (match hxV h.e x S with
          | .ok w s' => .nx ((r.set h.tgt (some w)).set h.slot none) s'
          | _ => .err) else .err) io H E := p
        by_cases hc : decide (h.slot < r.length ∧ h.tgt ≠ h.slot) = true
        · rw [if_pos hc] at p
          obtain ⟨c1, c2⟩ := of_decide_eq_true hc
          refine ⟨io, S, x, s, rx, List.getElem?_set_self (by rw [← e.len]; exact c1), ?_⟩
          cases ho : hxV h.e x S with
          | ok w S1 =>
            rw [ho] at p
            exact fun io1 v H1 x1 s1 r1 => p io1 _ H1 x1 s1 (set_hd (e.mono s x1) r1 c2)
          | exc y S1 => rw [ho] at p; exact p.elim
          | err => rw [ho] at p; exact p.elim
        · rw [if_neg hc] at p; exact p.elim
      · rw [hb] at p
        exact k2 x r S io H σ E _ d s e rx p
theorem psv_tryx {body : List Stmt} {h0 : ExceptHandler} {ib : IB} {pos : Pos} (stk : X.stack = X.env :: X.outer) (fr : X.env.frame = some X.env.locals) (nd : X.N.Nodup) (tk : L2N.Takes X Wx) (xo : XsOk X lv chs)
    (hb : ∀ (W : WX) (pn : List (Addr × Obj)) (xe : Value → Shared → Prop), L2N.Takes (X.tr pn xe) W → PassesOwn (model X.prog X.w) X.A X.env xe → PSVs (X.tr pn xe) D W body ib) (hh : XHz X chs (h0 :: hs) l) : PSV X D Wx (.Try body (h0 :: hs) [] [] pos) (.tryx ib l) := by
  obtain ⟨L, k1, k2⟩ := xh_of (Wx := Wx) xo hh
  refine psMono (xps_try (tb := fun W => trS X.K X.mg W (denB D ib)) stk fr nd tk hb k1) fun E σ H ⟨io, S, r, s, e, p⟩ => ⟨io, S, r, s, e, ?_⟩
  rw [denS] at p
  cases ho : denB D ib r S with
  | exc x r' S' =>
    rw [ho] at p
    exact fun io1 σ1 H1 cls d x1 s1 e1 rx => k2 x r' S' io1 H1 σ1 E cls d s1 e1 rx (PoS.ext x1 p)
  | nx r' S' => rw [ho] at p; exact p
  | rt w S' => rw [ho] at p; exact p
  | bk r' S' => rw [ho] at p; exact p
  | ct r' S' => rw [ho] at p; exact p
  | err => rw [ho] at p; exact p
end
end Vm
set_option Elab.async false
set_option linter.all false
set_option maxRecDepth 100000
set_option maxHeartbeats 4000000
/-! The check is right. -/
namespace Vm
open PySem L2
structure CtF (X : Cx) (D : Wd) (T : Tb) (lv : Nat) : Prop where
  bi : ∀ x, T.bi.contains x = true → X.mg x = none
  gl : ∀ x w, T.gl x = some w → ∃ v u, X.mg x = some u ∧ RelV v u ∧ (∀ io H, Rep X.K X.mg io H w v) ∧ D.gl x = some w
  fn : ∀ f d, T.fn f = some d → ∃ fa fd ps F, X.mg f = some (.ref fa) ∧ PySem.W.keepIn X.K (.ref fa) = true ∧ FnOk X.prog X.w X.K X.mg X.base (L2N.CX X.prog X.w) lv fa fd ps (spRun X.K X.mg d.np F) ∧ DefOk X.K fd ps d ∧ ∀ ws s, D.fe Str.empty f ws s = callD d F ws s
  cl : ∀ c d, T.cl c = some d → ∃ C fa fd ps F, X.mg c = some (.ref C) ∧ Mk X.K C fa ∧ Cls X.K C ∧ FnOk X.prog X.w X.K X.mg X.base (L2N.CX X.prog X.w) lv fa fd ps (spRun X.K X.mg d.np F) ∧ DefOk X.K fd ps d ∧ ∀ ws s, D.fe Str.empty c ws s = clsD c (callD d F) ws s
  mt : ∀ c m d, T.mt c m = some d → ∃ C fa fd ps F, X.mg c = some (.ref C) ∧ Cls X.K C ∧ Meth X.K C m fa ∧ FnOk X.prog X.w X.K X.mg X.base (L2N.CX X.prog X.w) lv fa fd ps (spRun X.K X.mg d.np F) ∧ DefOk X.K fd ps d ∧ ∀ ws s, D.fe c m ws s = callD d F ws s
  fl : FlOk X.K X.mg D.fl
  eq : ∀ c, T.eq.contains c = true → ∃ C fa, OwnC X D lv c C fa
  isc : ∀ c, T.isc.contains c = true → ∃ C, IsoC X T.isc c C
  xs : T.xn = true → XsOk X (lv + 2) T.xh
  kw : ∀ c ks pm, T.kw c = some (ks, pm) → ∃ C fa fd ps d F, X.mg c = some (.ref C) ∧ Mk X.K C fa ∧ Cls X.K C ∧ FnOk X.prog X.w X.K X.mg X.base (L2N.CX X.prog X.w) lv fa fd ps (spRun X.K X.mg d.np F) ∧ KBn X.K fd ps 1 ks (fun us ws => us ++ pm.filterMap (ws[·]?)) (fun vs zs => vs ++ pm.filterMap (zs[·]?)) ∧ pm.length + 1 = d.np ∧ (∀ i ∈ pm, i < ks.length) ∧ ∀ ws s, D.fe Str.empty c ws s = clsD c (callD d F) ws s
  kn : T.kn = true → ∃ fa fd, X.mg "_law_kinds" = some (.ref fa) ∧ PySem.W.keepIn X.K (.ref fa) = true ∧ Binds X.K fd ["_law_e"] [] ∧ KnOk X.prog X.w X.K X.mg X.base (lv + 2) fa fd
structure ScR (E sc : Scope) : Prop where
  lo : ∀ x, sc.names.lookup x = some .local → E.names.lookup x = some .local
  ce : ∀ x, sc.names.lookup x = some .cell → E.names.lookup x = some .cell
  gi : ∀ x, sc.names.lookup x = some .globalImplicit → E.names.lookup x = some .globalImplicit
  fr : ∀ x, sc.names.lookup x = some .free → E.names.lookup x = some .cell ∨ E.names.lookup x = some .free
theorem relab_look0 {g : Str × NameKind → Str × NameKind} (hg : ∀ p, (g p).1 = p.1 ∧ ((g p).2 = p.2 ∨ (p.2 = .free ∧ (g p).2 = .cell))) {k0 : NameKind} : ∀ {names : List (Str × NameKind)} {x : Str}, names.lookup x = some k0 →
    (names.map g).lookup x = some k0 ∨ (k0 = .free ∧ (names.map g).lookup x = some .cell)
  | [], _, h => by cases h
  | (m, k) :: names, x, h => by
    have hp := hg (m, k)
    rw [List.map_cons]
    generalize g (m, k) = q at hp ⊢
    obtain ⟨m', k'⟩ := q
    obtain ⟨h1, h2⟩ := hp
    cases h1
    rw [List.lookup_cons] at h
    cases hx : x == m with
    | true =>
      rw [hx] at h
      cases h
      have h2 : k' = k0 ∨ k0 = .free ∧ k' = .cell := h2
      rcases h2 with h2 | h2
      · left; rw [List.lookup_cons, hx, h2]
      · right; refine ⟨h2.1, ?_⟩; rw [List.lookup_cons, hx, h2.2]
    | false =>
      rw [hx] at h
      have ih := relab_look0 hg h
      rw [List.lookup_cons, hx]
      exact ih
theorem relab_look {env : Env} {sc : Scope} {k0 : NameKind} {x : Str} (h : sc.names.lookup x = some k0) : (relabel sc env).names.lookup x = some k0 ∨ (k0 = .free ∧ (relabel sc env).names.lookup x = some .cell) := by
  unfold relabel
  refine relab_look0 (fun p => ?_) h
  obtain ⟨m, k⟩ := p
  show (ite _ _ _ : Str × NameKind).1 = m ∧ ((ite _ _ _ : Str × NameKind).2 = k ∨ (k = .free ∧ (ite _ _ _ : Str × NameKind).2 = .cell))
  by_cases hk : (k == .free && env.scope.kind == .function && env.kindOf m == some .cell) = true
  · rw [if_pos hk]
    rw [Bool.and_eq_true, Bool.and_eq_true] at hk
    exact ⟨rfl, .inr ⟨eq_of_beq hk.1.1, rfl⟩⟩
  · rw [if_neg hk]
    exact ⟨rfl, .inl rfl⟩
theorem scr_relab {env : Env} {sc : Scope} : ScR (relabel sc env) sc where
  lo := fun x h => (relab_look h).elim id fun k => by cases k.1
  ce := fun x h => (relab_look h).elim id fun k => by cases k.1
  gi := fun x h => (relab_look h).elim id fun k => by cases k.1
  fr := fun x h => (relab_look h).elim .inr fun k => .inl k.2
structure Ct (X : Cx) (D : Wd) (Wx : WX) (T : Tb) (lv : Nat) (N : List Str) (sc : Scope) : Prop where
  hN : X.N = N
  nd : X.N.Nodup
  hsc : ScR X.env.scope sc
  kind : X.env.scope.kind = .function
  calm : X.calm = true
  tk : L2N.Takes X Wx
  fw : T.fw = true → Flat Wx
  po : PassesOwn (model X.prog X.w) X.A X.env X.xe
  hu : X.A.units + 65 < cLine
  room : Room (lv + 5) X.A
  fn_ : ∀ x, sc.names.lookup x = some .cell → X.fn x = true
  f : CtF X D T lv
theorem XcOk.cg {X Y : Cx} {lv : Nat} {c : Str} {i : XI} {C : Addr} (k : XcOk X lv c i C) (e1 : Y.prog = X.prog) (e2 : Y.w = X.w) (e3 : Y.K = X.K) (e4 : Y.mg = X.mg) (e5 : Y.base = X.base) : XcOk Y lv c i C := by
  obtain ⟨k1, k2, k3, k4, k5, k6⟩ := k
  refine ⟨k1, by rw [e4]; exact k2, ?_, by rw [e3]; exact k4, k5, ?_⟩
  · unfold Raises at k3 ⊢
    rw [e3]
    exact k3
  · rw [e1, e2, e3, e4, e5]
    exact k6
theorem XcOk.up {X : Cx} {l m : Nat} {c : Str} {i : XI} {C : Addr} (k : XcOk X l c i C) (h : l ≤ m) : XcOk X m c i C := by
  obtain ⟨k1, k2, k3, k4, k5, k6⟩ := k
  refine ⟨k1, k2, k3, k4, k5, k6.imp id ?_⟩
  rintro ⟨g1, g2, g3, fI, fd, g4, g5, g6, g7⟩
  exact ⟨g1, g2, g3, fI, fd, g4, g5, g6.mono h, g7⟩
theorem XsOk.up {X : Cx} {l m : Nat} {hs : List Str} (k : XsOk X l hs) (h : l ≤ m) : XsOk X m hs := ⟨fun c i e => let ⟨C, g1, g2⟩ := k.ex c i e; ⟨C, g1.up h, g2⟩, k.hd⟩
theorem KnOk.up {P : Program} {w : World} {K : Fg} {mg : Mg} {base : Heap} {l m : Nat} {fa : Addr} {fd : FuncData} (k : KnOk P w K mg base l fa fd) (h : l ≤ m) : KnOk P w K mg base m fa fd :=
  fun A outer s H args Q p C d c i hr => k A outer s H args Q p C d c i (hr.mono h)
theorem XsOk.cg {X Y : Cx} {lv : Nat} {hs : List Str} (k : XsOk X lv hs) (e1 : Y.prog = X.prog) (e2 : Y.w = X.w) (e3 : Y.K = X.K) (e4 : Y.mg = X.mg) (e5 : Y.base = X.base) : XsOk Y lv hs := by
  obtain ⟨k1, k2⟩ := k
  refine ⟨fun c i h => ?_, by rw [e4]; exact k2⟩
  obtain ⟨C, g1, g2, g3, g4⟩ := k1 c i h
  refine ⟨C, g1.cg e1 e2 e3 e4 e5, by rw [e3]; exact g2, by rw [e3]; exact g3, by rw [e3, e4]; exact g4⟩
section
variable {X : Cx} {D : Wd} {Wx : WX} {T : Tb} {lv : Nat} {N : List Str} {sc : Scope}
theorem Ct.hu4 (c : Ct X D Wx T lv N sc) : X.A.units + 64 < cLine := by
  have := c.hu
  omega
theorem Ct.ix (c : Ct X D Wx T lv N sc) {k : Nat} {x : Str} (h : N[k]? = some x) : X.N[k]? = some x := by rw [c.hN]; exact h
theorem Ct.vis (c : Ct X D Wx T lv N sc) {x : Str} (h : visB sc x = true) : Vis X.env.scope x := by
  unfold visB at h
  split at h
  · exact .inl (c.hsc.lo _ (by assumption))
  · exact .inr (.inl (c.hsc.ce _ (by assumption)))
  · rcases c.hsc.fr _ (by assumption) with k | k
    · exact .inr (.inl k)
    · exact .inr (.inr k)
  · cases h
theorem Ct.loc (c : Ct X D Wx T lv N sc) {x : Str} (h : locB sc x = true) : Loc X.env.scope x := by
  unfold locB at h
  split at h
  · exact .inl (c.hsc.lo _ (by assumption))
  · exact .inr (c.hsc.ce _ (by assumption))
  · cases h
theorem Ct.locF (c : Ct X D Wx T lv N sc) {x : Str} (h : locB sc x = true) : X.fn x = true ∨ X.env.scope.names.lookup x = some .local := by
  unfold locB at h
  split at h
  · exact .inr (c.hsc.lo _ (by assumption))
  · exact .inl (c.fn_ x (by assumption))
  · cases h
theorem Ct.glb (c : Ct X D Wx T lv N sc) {x : Str} (h : glB sc x = true) : Gl X x := by
  show X.env.scope.names.lookup x = some .globalImplicit
  unfold glB at h
  split at h
  · exact c.hsc.gi _ (by assumption)
  · cases h
theorem Ct.blkOk (c : Ct X D Wx T lv N sc) {scope : Scope} {own : List (Str × Nat)} (h : BlkOk N sc scope own) : BlkOk X.N X.env.scope scope own := by
  rw [c.hN]
  exact ⟨h.kind, h.uniq, h.ix, fun y hy hf => by
    rcases h.free y hy hf with k | k
    · exact .inl (c.hsc.ce _ k)
    · exact c.hsc.fr _ k, h.own⟩
theorem lcl_of {x : Str} (h : lclB sc x = true) : sc.names.lookup x = some .local := by
  unfold lclB at h
  split at h
  · assumption
  · cases h
theorem cel_of {x : Str} (h : celB sc x = true) : sc.names.lookup x = some .cell := by
  unfold celB at h
  split at h
  · assumption
  · cases h
theorem nm_of {x : Str} (h : nmOk x = true) : (x == ("__debug__" : Str)) = false ∧ (x == ("__classdict__" : Str)) = false ∧ x ≠ "__name__" := by
  unfold nmOk at h
  simp only [Bool.and_eq_true, Bool.not_eq_true'] at h
  exact ⟨h.1.1, h.1.2, by simpa using h.2⟩
theorem arg_of {d : Fd} {k : Nat} (h : argB d k = true) : k ≤ d.np ∧ d.np - k ≤ d.dfl.length := of_decide_eq_true h
theorem takes0N {X : Cx} : L2N.Takes X (fun _ _ _ _ => False) := fun _ _ ⟨_, _, _, _, _, _, _, _, _, _, _, _, _, _, _, _, w⟩ => w.elim
/-- a comprehension's block -/
theorem Ct.blk (c : Ct X D Wx T lv N sc) {scope : Scope} (hk : scope.kind = .function) (s : Shared) (H : Hp) (C : Addr) (cl : List (Str × Addr)) (fp : List Addr) : Ct (X.blk s H scope (compEnvC scope cl C X.env) fp) D WxF T lv N scope where
  hN := c.hN
  nd := c.nd
  hsc := scr_relab
  kind := hk
  calm := c.calm
  tk := takes0N
  fw := fun _ _ _ _ _ _ h => h
  po := PassesOwn.never
  hu := c.hu
  room := c.room
  fn_ := fun x h => by
    show (scope.names.lookup x == some .cell) = true
    rw [h]
    rfl
  f := ⟨c.f.bi, c.f.gl, c.f.fn, c.f.cl, c.f.mt, c.f.fl, fun k h => let ⟨C, fa, o⟩ := c.f.eq k h; ⟨C, fa, o.mg, o.cls, o.mt, o.ne, o.su, o.run⟩, fun k h => let ⟨C, o⟩ := c.f.isc k h; ⟨C, o.mg, o.ha, o.hn, o.tk, o.ty, o.pr⟩, fun h => (c.f.xs h).cg rfl rfl rfl rfl rfl, c.f.kw, c.f.kn⟩
theorem con_pe {c : Const} {w : W} {k : Nat} {pos : Pos} (h : conB c w = true) : PV X D Wx (.Constant c k pos) (.con w) := by
  unfold conB at h
  split at h
  · exact pv_con pe_non fun _ _ => .non
  · cases of_decide_eq_true h; exact pv_con pe_bl fun _ _ => .bl _
  · cases of_decide_eq_true h; exact pv_con pe_int fun _ _ => .int _
  · cases of_decide_eq_true h; exact pv_con pe_str fun _ _ => .str _
  · cases h
theorem pv_neg {a : Expr} {ia : IE} {pos : Pos} (h : PV X D Wx a ia) : PV X D Wx (.UnaryOp .USub a pos) (.neg ia) :=
  peMono (pe_un un_neg h) fun σ H Q ⟨io, S, r, s, e, p⟩ => by
    rw [den] at p
    refine ⟨io, S, r, s, e, p.bind fun x S1 io1 v H1 _ x1 s1 r1 p1 => ?_⟩
    cases r1 with
    | int i => exact ⟨i, rfl, p1.now s1 (.int _)⟩
    | _ => exact p1.elim
theorem tgs_ok (c : Ct X D Wx T lv N sc) : ∀ {es : List Expr} {l : List Nat}, noStars es = true → es.length = l.length → ((es.zip l).all fun p => match p.1 with
    | .Name x _ => decide (N[p.2]? = some x) && locB sc x
    | _ => false) = true → PGs X es (gAll l)
  | [], [], _, _, _ => pgs_nil
  | e :: es, k :: l, hs, hl, h => by
    rw [List.zip_cons_cons, List.all_cons, Bool.and_eq_true] at h
    obtain ⟨h1, h2⟩ := h
    have hs2 : noStars es = true := by unfold noStars at hs ⊢; rw [List.all_cons, Bool.and_eq_true] at hs; exact hs.2
    have ih := tgs_ok c hs2 (by simpa using hl) h2
    cases e with
    | Name x p =>
      have h1 : (decide (N[k]? = some x) && locB sc x) = true := h1
      rw [Bool.and_eq_true] at h1
      exact pgsv_cons (e := .Name x p) hs c.nd (c.ix (of_decide_eq_true h1.1)) (c.loc h1.2) (c.locF h1.2) ih
    | _ => cases h1
theorem tg_ok (c : Ct X D Wx T lv N sc) {e : Expr} {tg : Tg} (h : tgB N sc e tg = true) : PGV X e tg := by
  unfold tgB at h
  split at h
  · rw [Bool.and_eq_true] at h
    exact pgv_nm c.nd (c.ix (of_decide_eq_true h.1)) (c.loc h.2) (c.locF h.2)
  · simp only [Bool.and_eq_true] at h
    exact pgv_tp c.calm h.1.1 (of_decide_eq_true h.1.2) (tgs_ok c h.1.1 (of_decide_eq_true h.1.2) h.2)
  · cases h
theorem len_cons {l : IL} {e : Expr} {es : List Expr} : True := trivial
end
section
variable {T : Tb} {lv : Nat}
def OkE (T : Tb) (lv n : Nat) : Prop := ∀ N sc e i, chkE T n N sc e i = true → ∀ X D Wx, Ct X D Wx T lv N sc → PV X D Wx e i
def OkL (T : Tb) (lv n : Nat) : Prop := ∀ N sc es l, chkL T n N sc es l = true → ∀ X D Wx, Ct X D Wx T lv N sc → PVs X D Wx es l ∧ (es = [] → l = .nil) ∧ PVJ X D Wx es l ∧ noStars es = true ∧ PKV X D Wx es l
def OkO (T : Tb) (lv n : Nat) : Prop := ∀ N sc o i, chkO T n N sc o i = true → ∀ X D Wx, Ct X D Wx T lv N sc → POV X D Wx o i
def OkI (T : Tb) (lv n : Nat) : Prop := ∀ N sc te e i, chkI T n N sc te e i = true → ∀ X D Wx, Ct X D Wx T lv N sc → PIV X D Wx te e i
def OkT (T : Tb) (lv n : Nat) : Prop := ∀ N sc e i, chkT T n N sc e i = true → ∀ X D Wx, Ct X D Wx T lv N sc → PTV X D Wx e i
def OkW (T : Tb) (lv n : Nat) : Prop := ∀ N sc op es i, chkW T n N sc op es i = true → ∀ X D Wx pos, Ct X D Wx T lv N sc → PWV X D Wx (.BoolOp op es pos) i
structure OkC (X : Cx) (D : Wd) (N : List Str) (elt te ti : Expr) (ifs : List Expr) (scope : Scope) (ie : IE) (tg : Tg) (it : II) (ic : IE) : Prop where
  own : ∃ own, BlkOk X.N X.env.scope scope own ∧ own.map (·.2) = tgSlots tg
  set : notSet ti = true
  hg : ∀ (s : Shared) (H : Hp) (C : Addr) (cl : List (Str × Addr)) (fp : List Addr), PGV (X.blk s H scope (compEnvC scope cl C X.env) fp) te tg
  ht : ∀ (s : Shared) (H : Hp) (C : Addr) (cl : List (Str × Addr)) (fp : List Addr), PTs (X.blk s H scope (compEnvC scope cl C X.env) fp) ifs (trT X.K X.mg WxF (test D ic))
  he : ∀ (s : Shared) (H : Hp) (C : Addr) (cl : List (Str × Addr)) (fp : List Addr), PV (X.blk s H scope (compEnvC scope cl C X.env) fp) D WxF elt ie
def OkCs (T : Tb) (lv n : Nat) : Prop := ∀ N sc elt te ti ifs scope ie tg it ic, chkC T n N sc elt te ti ifs scope ie tg it ic = true → ∀ X D Wx, Ct X D Wx T lv N sc → OkC X D N elt te ti ifs scope ie tg it ic ∧ PIV X D Wx te ti it
theorem blk_kind {N : List Str} {sc scope : Scope} {own : List (Str × Nat)} (h : blkC N sc scope own = true) : scope.kind = .function := (blkOk_by h).kind
theorem true_pts {X : Cx} {D : Wd} : PTs X [] (trT X.K X.mg WxF (test D (.con (.bl true)))) := ⟨fun pins s σ H Q I ⟨io, S, r, sm, e, p⟩ => pts_nil.run pins s σ H Q I (by
  unfold test at p
  rw [den] at p
  exact p.now sm rfl)⟩
theorem step_C {n : Nat} (hE : OkE T lv n) (hI : OkI T lv n) (hT : OkT T lv n) : OkCs T lv (n + 1) := fun N sc elt te ti ifs scope ie tg it ic h X D Wx c => by
  unfold chkC at h
  simp only [Bool.and_eq_true] at h
  obtain ⟨⟨⟨⟨⟨⟨h1, h2⟩, h3⟩, h4⟩, h5⟩, h6⟩, h7⟩ := h
  have hk := blk_kind h1
  refine ⟨⟨⟨_, c.blkOk (blkOk_by h1), of_decide_eq_true h3⟩, h4, fun s H C cl fp => tg_ok (c.blk hk s H C cl fp) h2, fun s H C cl fp => ?_, fun s H C cl fp => hE _ _ _ _ h6 _ D _ (c.blk hk s H C cl fp)⟩, hI _ _ _ _ _ h5 X D Wx c⟩
  split at h7
  · split at h7
    · exact true_pts
    · cases h7
  · exact pts_one (hT _ _ _ _ h7 _ D _ (c.blk hk s H C cl fp))
  · cases h7
theorem step_L {n : Nat} (hE : OkE T lv n) (hL : OkL T lv n) : OkL T lv (n + 1) := fun N sc es l h X D Wx c => by
  unfold chkL at h
  split at h
  · exact ⟨pvs_nil, fun _ => rfl, .nil, rfl, pkv_nil⟩
  · simp only [Bool.and_eq_true] at h
    have k := hL _ _ _ _ h.2 X D Wx c
    have k1 := hE _ _ _ _ h.1.2 X D Wx c
    exact ⟨pvs_cons h.1.1 k1 k.1, (fun z => (by cases z)), .cons k1 k.2.2.1, (by
      have := k.2.2.2.1
      unfold noStars at this ⊢
      rw [List.all_cons, h.1.1, this]
      rfl), pkv_cons k1 k.2.2.2.2⟩
  · cases h
theorem step_O {n : Nat} (hE : OkE T lv n) : OkO T lv (n + 1) := fun N sc o i h X D Wx c => by
  unfold chkO at h
  split at h
  · split at h
    · exact pov_none
    · cases h
  · simp only [Bool.and_eq_true, Bool.not_eq_true'] at h
    exact pov_some h.1 (hE _ _ _ _ h.2 X D Wx c)
theorem step_I {n : Nat} (hE : OkE T lv n) : OkI T lv (n + 1) := fun N sc te e i h X D Wx c => by
  unfold chkI at h
  split at h
  · exact piv_val (hE _ _ _ _ h X D Wx c)
  · split at h
    · simp only [Bool.and_eq_true] at h
      obtain ⟨⟨⟨⟨h1, h2⟩, h3⟩, h4⟩, h5⟩ := h
      cases of_decide_eq_true h1
      exact piv_rng1 (c.glb h2) (c.f.bi _ h3) h4 (hE _ _ _ _ h5 X D Wx c)
    · cases h
  · split at h
    · simp only [Bool.and_eq_true] at h
      obtain ⟨⟨⟨⟨⟨⟨⟨h0, h1⟩, h2⟩, h3⟩, h4⟩, h5⟩, h6⟩, h7⟩ := h
      cases of_decide_eq_true h1
      cases te <;> first | (cases h0; done) | exact piv_zip (c.glb h2) (c.f.bi _ h3) h4 h5 (hE _ _ _ _ h6 X D Wx c) (hE _ _ _ _ h7 X D Wx c)
    · cases h
  · split at h
    · simp only [Bool.and_eq_true] at h
      obtain ⟨⟨⟨⟨⟨h0, h1⟩, h2⟩, h3⟩, h4⟩, h5⟩ := h
      cases of_decide_eq_true h1
      cases te <;> first | (cases h0; done) | exact piv_enum (c.glb h2) (c.f.bi _ h3) h4 (hE _ _ _ _ h5 X D Wx c)
    · cases h
  · cases h
theorem step_T {n : Nat} (hE : OkE T lv n) (hT : OkT T lv n) (hW : OkW T lv n) : OkT T lv (n + 1) := fun N sc e i h X D Wx c => by
  unfold chkT at h
  split at h
  · split at h
    · exact ptv_not (hT _ _ _ _ h X D Wx c)
    · cases h
  · exact PW.pt (hW _ _ _ _ _ h X D Wx _ c)
  · split at h
    · simp only [Bool.and_eq_true] at h
      obtain ⟨⟨⟨h1, h2⟩, h3⟩, h4⟩ := h
      cases of_decide_eq_true h1
      exact ptv_cmp c.hu h2 (hE _ _ _ _ h3 X D Wx c) (hE _ _ _ _ h4 X D Wx c)
    · simp only [Bool.and_eq_true] at h
      obtain ⟨⟨⟨⟨⟨hfw, h1⟩, h0⟩, h2⟩, h3⟩, h4⟩ := h
      cases of_decide_eq_true h1
      exact ptv_ceq (fun k hk => c.f.eq k (List.all_eq_true.mp h0 k hk)) c.tk (c.fw hfw) (c.room.mono (by omega)) c.hu h2 (hE _ _ _ _ h3 X D Wx c) (hE _ _ _ _ h4 X D Wx c)
    · simp only [Bool.and_eq_true] at h
      obtain ⟨⟨⟨h1, h2⟩, h3⟩, h4⟩ := h
      cases of_decide_eq_true h1
      exact ptv_din c.hu4 h2 (hE _ _ _ _ h3 X D Wx c) (hE _ _ _ _ h4 X D Wx c)
    · cases h
  · split at h
    · simp only [Bool.and_eq_true] at h
      obtain ⟨⟨⟨⟨⟨h1, h1b⟩, h2⟩, h3⟩, h4⟩, h5⟩ := h
      cases of_decide_eq_true h1
      cases of_decide_eq_true h1b
      exact ptv_chn c.hu h2 (hE _ _ _ _ h3 X D Wx c) (hE _ _ _ _ h4 X D Wx c) (hE _ _ _ _ h5 X D Wx c)
    · cases h
  · simp only [Bool.and_eq_true] at h
    exact ptv_plain (hE _ _ _ _ h.2 X D Wx c) (plain_of h.1)
theorem step_W {n : Nat} (hT : OkT T lv n) (hW : OkW T lv n) : OkW T lv (n + 1) := fun N sc op es i h X D Wx pos c => by
  unfold chkW at h
  split at h
  · cases op with
    | And => exact pwv_and1 (hT _ _ _ _ h X D Wx c)
    | Or => exact pwv_or1 (hT _ _ _ _ h X D Wx c)
  · split at h
    · simp only [Bool.and_eq_true] at h
      exact pwv_and (hT _ _ _ _ h.1 X D Wx c) (hW _ _ _ _ _ h.2 X D Wx _ c)
    · simp only [Bool.and_eq_true] at h
      exact pwv_or (hT _ _ _ _ h.1 X D Wx c) (hW _ _ _ _ _ h.2 X D Wx _ c)
    · cases h
  · cases h
def OkP (T : Tb) (lv n : Nat) : Prop := ∀ N sc ks vs l, chkP T n N sc ks vs l = true → ∀ X D Wx, Ct X D Wx T lv N sc → ∀ pos, PairsV X D Wx pos ks vs l
theorem step_P {n : Nat} (hE : OkE T lv n) (hP : OkP T lv n) : OkP T lv (n + 1) := fun N sc ks vs l h X D Wx c pos => by
  unfold chkP at h
  split at h
  · exact .nil
  · simp only [Bool.and_eq_true] at h
    exact .cons (hE _ _ _ _ h.1.1 X D Wx c) (hE _ _ _ _ h.1.2 X D Wx c) (hP _ _ _ _ _ h.2 X D Wx c pos)
  · cases h
theorem step_E {n : Nat} (hE : OkE T lv n) (hL : OkL T lv n) (hO : OkO T lv n) (hT : OkT T lv n) (hC : OkCs T lv n) (hP : OkP T lv n) : OkE T lv (n + 1) := fun N sc e i h X D Wx c => by
  unfold chkE at h
  split at h
  · -- var
    split at h
    · simp only [Bool.and_eq_true] at h
      exact pv_var (c.ix (of_decide_eq_true h.1.1)) (c.vis h.1.2) (nm_of h.2).1 (nm_of h.2).2.1
    · cases h
  · -- con
    split at h
    · exact con_pe h
    · cases h
  · -- glo
    split at h
    · simp only [Bool.and_eq_true] at h
      obtain ⟨⟨⟨h1, h2⟩, h3⟩, h4⟩ := h
      cases of_decide_eq_true h1
      obtain ⟨w, hw⟩ := Option.isSome_iff_exists.mp h3
      obtain ⟨v, u, g1, g2, g3, g4⟩ := c.f.gl _ w hw
      exact pv_glo (pe_glob (c.glb h2) g1 g2 (nm_of h4).1) fun w' hw' io H => by rw [g4] at hw'; cases hw'; exact g3 io H
    · cases h
  · -- bin
    split at h
    · simp only [Bool.and_eq_true] at h
      cases of_decide_eq_true h.1.1
      exact pv_bin (hE _ _ _ _ h.1.2 X D Wx c) (hE _ _ _ _ h.2 X D Wx c)
    · cases h
  · -- not
    split at h
    · exact pv_not (hE _ _ _ _ h X D Wx c)
    · cases h
  · -- neg
    split at h
    · exact pv_neg (hE _ _ _ _ h X D Wx c)
    · cases h
  · -- and
    split at h
    · simp only [Bool.and_eq_true] at h
      exact pv_and (hE _ _ _ _ h.1 X D Wx c) (pv_one (hE _ _ _ _ h.2 X D Wx c))
    · simp only [Bool.and_eq_true] at h
      exact pv_and (hE _ _ _ _ h.1 X D Wx c) (hE _ _ _ _ h.2 X D Wx c)
    · cases h
  · -- or
    split at h
    · simp only [Bool.and_eq_true] at h
      exact pv_or (hE _ _ _ _ h.1 X D Wx c) (pv_one (hE _ _ _ _ h.2 X D Wx c))
    · simp only [Bool.and_eq_true] at h
      exact pv_or (hE _ _ _ _ h.1 X D Wx c) (hE _ _ _ _ h.2 X D Wx c)
    · cases h
  · -- ite
    split at h
    · simp only [Bool.and_eq_true] at h
      exact pv_ite (hT _ _ _ _ h.1.1 X D Wx c) (hE _ _ _ _ h.1.2 X D Wx c) (hE _ _ _ _ h.2 X D Wx c)
    · cases h
  · -- cmp
    split at h
    · simp only [Bool.and_eq_true] at h
      obtain ⟨⟨⟨h1, h2⟩, h3⟩, h4⟩ := h
      cases of_decide_eq_true h1
      exact pv_cmp c.hu h2 (hE _ _ _ _ h3 X D Wx c) (hE _ _ _ _ h4 X D Wx c)
    · cases h
  · -- chn
    split at h
    · simp only [Bool.and_eq_true] at h
      obtain ⟨⟨⟨⟨⟨h1, h1b⟩, h2⟩, h3⟩, h4⟩, h5⟩ := h
      cases of_decide_eq_true h1
      cases of_decide_eq_true h1b
      exact pv_chn c.hu h2 (hE _ _ _ _ h3 X D Wx c) (hE _ _ _ _ h4 X D Wx c) (hE _ _ _ _ h5 X D Wx c)
    · cases h
  · -- tup
    split at h
    · exact pv_tup (hL _ _ _ _ h X D Wx c).1
    · cases h
  · -- lst
    split at h
    · exact pv_lst (hL _ _ _ _ h X D Wx c).1
    · cases h
  · -- idx
    split at h
    · simp only [Bool.and_eq_true] at h
      exact pv_idx c.hu4 h.1.1 (hE _ _ _ _ h.1.2 X D Wx c) (hE _ _ _ _ h.2 X D Wx c)
    · cases h
  · -- slc
    split at h
    · simp only [Bool.and_eq_true] at h
      exact pv_slc (hE _ _ _ _ h.1.1 X D Wx c) (hO _ _ _ _ h.1.2 X D Wx c) (hO _ _ _ _ h.2 X D Wx c)
    · cases h
  · -- fld
    split at h
    · simp only [Bool.and_eq_true] at h
      cases of_decide_eq_true h.1.1
      exact pv_fld h.1.2 (hE _ _ _ _ h.2 X D Wx c)
    · cases h
  · -- call
    split at h
    · simp only [Bool.and_eq_true] at h
      obtain ⟨⟨⟨⟨⟨h1, h2⟩, h3⟩, h4⟩, h5⟩, h6⟩ := h
      cases of_decide_eq_true h1
      have ha := (hL _ _ _ _ h5 X D Wx c).1
      split at h6
      · rename_i d hd
        obtain ⟨fa, fd, ps, F, g1, g2, g3, g4, g5⟩ := c.f.fn _ d hd
        exact pv_call g3 g4 (c.room.mono (by omega)) c.tk (c.glb h2) g1 g2 (nm_of h3).1 (arg_of h6) g5 h4 ha
      · split at h6
        · rename_i d hd
          obtain ⟨C, fa, fd, ps, F, g1, g2, g3, g4, g5, g6⟩ := c.f.cl _ d hd
          exact pv_make g2 g3 g4 g5 (c.room.mono (by omega)) c.tk (c.glb h2) g1 (nm_of h3).1 (arg_of h6) g6 h4 ha
        · cases h6
    · cases h
  · -- callk
    split at h
    · simp only [Bool.and_eq_true] at h
      obtain ⟨⟨⟨⟨⟨h1, h2⟩, h3⟩, h4⟩, h5⟩, h6⟩ := h
      cases of_decide_eq_true h1
      obtain ⟨C, fa, fd, ps, d, F, g1, g2, g3, g4, g5, g6, g7, g8⟩ := c.f.kw _ _ _ (of_decide_eq_true h4)
      exact pv_makeK g2 g3 g4 (c.room.mono (by omega)) c.tk (c.glb h2) g1 (nm_of h3).1 g5 g6 g7 g8 (of_decide_eq_true h5) (hL _ _ _ _ h6 X D Wx c).2.2.2.2
    · cases h
  · -- bi
    rw [Bool.or_eq_true] at h
    rcases h with h | h
    · split at h
      · simp only [Bool.and_eq_true] at h
        obtain ⟨⟨⟨⟨⟨h1, h2⟩, h3⟩, h4⟩, h5⟩, h6⟩ := h
        cases of_decide_eq_true h1
        unfold noStars at h5
        rw [List.all_cons, Bool.and_eq_true] at h5
        exact pv_bi c.calm h2 (c.glb h3) (c.f.bi _ h4) h5.1 (nostar_any h5.2) (hL _ _ _ _ h6 X D Wx c).1
      · cases h
    · rw [Bool.and_eq_true] at h
      obtain ⟨hf, h⟩ := h
      unfold isSrt at hf
      split at hf
      case h_2 => cases hf
      split at h
      · simp only [Bool.and_eq_true] at h
        obtain ⟨⟨⟨⟨⟨⟨⟨h1, h2⟩, h3⟩, h4⟩, h5⟩, h6⟩, h7⟩, h8⟩ := h
        cases of_decide_eq_true h1
        cases of_decide_eq_true h2
        exact pv_srtset c.calm (c.glb h3) (c.f.bi _ h4) (c.glb h5) (c.f.bi _ h6) h7 (hL _ _ _ _ h8 X D Wx c).1
      · cases h
  · -- isi
    split at h
    · simp only [Bool.and_eq_true] at h
      obtain ⟨⟨⟨⟨⟨⟨⟨⟨h1, h2⟩, h3⟩, h4⟩, h5⟩, h6⟩, h7⟩, h8⟩, h9⟩ := h
      cases of_decide_eq_true h1
      cases of_decide_eq_true h2
      obtain ⟨b, hb⟩ := Option.isSome_iff_exists.mp h3
      exact pv_isi hb (c.glb h4) (c.f.bi _ h5) (c.glb h6) (c.f.bi _ h7) h8 (hE _ _ _ _ h9 X D Wx c)
    · cases h
  · -- meth
    rw [Bool.or_eq_true] at h
    rcases h with h | h
    · split at h
      · simp only [Bool.and_eq_true, Bool.or_eq_true] at h
        obtain ⟨⟨⟨⟨⟨⟨⟨h1, h2⟩, h3⟩, h4⟩, h5⟩, h6⟩, h7⟩, h8⟩ := h
        cases of_decide_eq_true h1
        have ha := hE _ _ _ _ h7 X D Wx c
        have hl := (hL _ _ _ _ h8 X D Wx c).1
        rcases h2 with (h2 | h2) | h2
        · cases of_decide_eq_true h2
          exact pv_append h3 h4 h5 (of_decide_eq_true h6) ha hl
        · cases of_decide_eq_true h2
          exact pv_insert h3 h4 h5 (of_decide_eq_true h6) ha hl
        · cases of_decide_eq_true h2
          exact pv_remove c.hu h3 h4 h5 (of_decide_eq_true h6) ha hl
      · cases h
    · rw [Bool.and_eq_true] at h
      obtain ⟨hj, h⟩ := h
      cases of_decide_eq_true hj
      split at h
      · simp only [Bool.and_eq_true] at h
        obtain ⟨⟨⟨⟨⟨h1, h2⟩, h3⟩, h4⟩, h5⟩, h6⟩ := h
        cases of_decide_eq_true h1
        exact pv_join (hE _ _ _ _ h5 X D Wx c) (hE _ _ _ _ h6 X D Wx c) (one_star h4) (base_of h2 _) h3
      · cases h
  · -- rev
    split at h
    · exact pv_rev (hE _ _ _ _ h X D Wx c)
    · cases h
  · -- omt
    split at h
    · simp only [Bool.and_eq_true] at h
      obtain ⟨⟨⟨⟨⟨⟨⟨h1, h2⟩, h3⟩, h4⟩, h5⟩, h6⟩, h7⟩, h8⟩ := h
      cases of_decide_eq_true h1
      have ha := hE _ _ _ _ h6 X D Wx c
      obtain ⟨hl, hn, _⟩ := hL _ _ _ _ h7 X D Wx c
      split at h8
      · rename_i d hd
        obtain ⟨C, fa, fd, ps, F, g1, g2, g3, g4, g5, g6⟩ := c.f.mt _ _ d hd
        exact pv_omt g2 g3 g4 g5 (c.room.mono (by omega)) c.tk g1 (arg_of h8) g6 h2 h3 h4 (of_decide_eq_true h5) hn ha hl
      · cases h8
    · cases h
  · -- fmt
    split at h
    · simp only [Bool.and_eq_true] at h
      cases of_decide_eq_true h.1
      exact pv_fmt (hE _ _ _ _ h.2 X D Wx c)
    · cases h
  · -- fst
    split at h
    · exact pv_fst (hL _ _ _ _ h X D Wx c).2.2.1
    · cases h
  · -- ostr
    split at h
    · simp only [Bool.and_eq_true] at h
      obtain ⟨⟨⟨⟨⟨⟨h1, h2⟩, h3⟩, h4⟩, h5⟩, h6⟩, h7⟩ := h
      cases of_decide_eq_true h1
      split at h6
      · rename_i d hd
        obtain ⟨C, fa, fd, ps, F, g1, g2, g3, g4, g5, g6⟩ := c.f.mt _ _ d hd
        exact pv_ostr g2 g3 g4 g5 (of_decide_eq_true h6) g6 c.tk (c.fw h5) (c.room.mono (by omega)) g1 (c.glb h2) (c.f.bi _ h3) h4 (hE _ _ _ _ h7 X D Wx c)
      · cases h6
    · cases h
  · -- ceq
    split at h
    · simp only [Bool.and_eq_true] at h
      obtain ⟨⟨⟨⟨⟨hfw, h1⟩, h0⟩, h2⟩, h3⟩, h4⟩ := h
      cases of_decide_eq_true h1
      exact pv_ceq (fun k hk => c.f.eq k (List.all_eq_true.mp h0 k hk)) c.tk (c.fw hfw) (c.room.mono (by omega)) c.hu h2 (hE _ _ _ _ h3 X D Wx c) (hE _ _ _ _ h4 X D Wx c)
    · cases h
  · -- iso
    split at h
    · simp only [Bool.and_eq_true] at h
      obtain ⟨⟨⟨⟨⟨⟨⟨⟨⟨h1, h2⟩, h3⟩, h4⟩, h5⟩, h6⟩, h7⟩, h7b⟩, h8⟩, h9⟩ := h
      cases of_decide_eq_true h1
      cases of_decide_eq_true h2
      cases of_decide_eq_true h3
      exact pv_iso (fun k hk => c.f.isc k (List.contains_iff_mem.mpr hk)) (List.contains_iff_mem.mp h4) (c.glb h5) (c.f.bi _ h6) (c.glb h7) (nm_of h7b).1 h8 (hE _ _ _ _ h9 X D Wx c)
    · cases h
  · -- lc
    split at h
    · obtain ⟨k, hi⟩ := hC _ _ _ _ _ _ _ _ _ _ _ h X D Wx c
      obtain ⟨own, ok, ho⟩ := k.own
      exact pv_lc c.calm c.nd hi ok ho k.hg k.ht k.he k.set
    · cases h
  · -- dic
    split at h
    · simp only [Bool.and_eq_true] at h
      obtain ⟨⟨⟨h1, h2⟩, h3⟩, h4⟩ := h
      rename_i ks vs pos
      have hp := hP _ _ _ _ _ h4 X D Wx c pos
      cases ks with
      | nil =>
        cases hp with
        | nil => exact pv_dic0
      | cons k ks => exact pv_dic hp h1 (of_decide_eq_true h2) (by simp) (of_decide_eq_true h3)
    · cases h
  · -- dget
    split at h
    · simp only [Bool.and_eq_true] at h
      obtain ⟨⟨⟨⟨⟨⟨⟨h1, h2⟩, h3⟩, h4⟩, h5⟩, h6⟩, h7⟩, h8⟩ := h
      cases of_decide_eq_true h1
      exact pv_dget c.hu4 h2 h4 h5 h3 (hE _ _ _ _ h6 X D Wx c) (hE _ _ _ _ h7 X D Wx c) (hE _ _ _ _ h8 X D Wx c)
    · cases h
  · -- dpop
    split at h
    · simp only [Bool.and_eq_true] at h
      obtain ⟨⟨⟨⟨⟨h1, h2⟩, h3⟩, h4⟩, h6⟩, h7⟩ := h
      cases of_decide_eq_true h1
      exact pv_dpop h2 h4 h3 (hE _ _ _ _ h6 X D Wx c) (hE _ _ _ _ h7 X D Wx c)
    · cases h
  · -- dsetd
    split at h
    · simp only [Bool.and_eq_true] at h
      obtain ⟨⟨⟨⟨⟨⟨⟨h1, h2⟩, h3⟩, h4⟩, h5⟩, h6⟩, h7⟩, h8⟩ := h
      cases of_decide_eq_true h1
      exact pv_dsetd h2 h4 h5 h3 (hE _ _ _ _ h6 X D Wx c) (hE _ _ _ _ h7 X D Wx c) (hE _ _ _ _ h8 X D Wx c)
    · cases h
  · -- din
    split at h
    · simp only [Bool.and_eq_true] at h
      obtain ⟨⟨⟨h1, h2⟩, h3⟩, h4⟩ := h
      cases of_decide_eq_true h1
      exact pv_din c.hu4 h2 (hE _ _ _ _ h3 X D Wx c) (hE _ _ _ _ h4 X D Wx c)
    · cases h
  · -- lcd
    split at h
    · simp only [Bool.and_eq_true] at h
      obtain ⟨k, _⟩ := hC _ _ _ _ _ _ _ _ _ _ _ h.1 X D Wx c
      obtain ⟨own, ok, ho⟩ := k.own
      exact pv_lcd c.calm c.nd (hE _ _ _ _ h.2 X D Wx c) ok ho k.hg k.ht k.he k.set
    · cases h
  · cases h
theorem chk_all (n : Nat) : OkE T lv n ∧ OkL T lv n ∧ OkO T lv n ∧ OkI T lv n ∧ OkT T lv n ∧ OkW T lv n ∧ OkCs T lv n ∧ OkP T lv n := by
  induction n with
  | zero =>
    refine ⟨?_, ?_, ?_, ?_, ?_, ?_, ?_, ?_⟩
    · intro N sc e i h; unfold chkE at h; cases h
    · intro N sc e i h; unfold chkL at h; cases h
    · intro N sc e i h; unfold chkO at h; cases h
    · intro N sc t e i h; unfold chkI at h; cases h
    · intro N sc e i h; unfold chkT at h; cases h
    · intro N sc o e i h; unfold chkW at h; cases h
    · intro N sc a b c d e f g h i h; unfold chkC at h; cases h
    · intro N sc k v l h; unfold chkP at h; cases h
  | succ n ih =>
    obtain ⟨hE, hL, hO, hI, hT, hW, hC, hP⟩ := ih
    exact ⟨step_E hE hL hO hT hC hP, step_L hE hL, step_O hE, step_I hE, step_T hE hT hW, step_W hT hW, step_C hE hI hT, step_P hE hP⟩
end
end Vm
set_option Elab.async false
set_option linter.all false
set_option maxRecDepth 100000
set_option maxHeartbeats 4000000
/-! The check of statements is right. -/
namespace Vm
open PySem L2
section
variable {lv : Nat}
/-- the frame of a def's body -/
def Top (X : Cx) : Prop := X.stack = X.env :: X.outer ∧ X.env.frame = some X.env.locals
def OkS (lv n : Nat) : Prop := ∀ T N sc st i, chkS T n N sc st i = true → ∀ X D Wx, Ct X D Wx T lv N sc → Top X → PSV X D Wx st i
def OkB (lv n : Nat) : Prop := ∀ T N sc l b, chkB T n N sc l b = true → ∀ X D Wx, Ct X D Wx T lv N sc → Top X → PSVs X D Wx l b
section
variable {T : Tb} {X : Cx} {D : Wd} {Wx : WX} {N : List Str} {sc : Scope}
/-- the context of a try's body -/
theorem Ct.tr (c : Ct X D Wx T lv N sc) {W : WX} {pn : List (Addr × Obj)} {xe : Value → Shared → Prop} (tk : L2N.Takes (X.tr pn xe) W) (po : PassesOwn (model X.prog X.w) X.A X.env xe) : Ct (X.tr pn xe) D W { T with fw := false } lv N sc where
  hN := c.hN
  nd := c.nd
  hsc := c.hsc
  kind := c.kind
  calm := c.calm
  tk := tk
  fw := fun z => by cases z
  po := po
  hu := c.hu
  room := c.room
  fn_ := c.fn_
  f := ⟨c.f.bi, c.f.gl, c.f.fn, c.f.cl, c.f.mt, c.f.fl, fun k h => let ⟨C, fa, o⟩ := c.f.eq k h; ⟨C, fa, o.mg, o.cls, o.mt, o.ne, o.su, o.run⟩, fun k h => let ⟨C, o⟩ := c.f.isc k h; ⟨C, o.mg, o.ha, o.hn, o.tk, o.ty, o.pr⟩, fun h => (c.f.xs h).cg rfl rfl rfl rfl rfl, c.f.kw, c.f.kn⟩
theorem ha_ok (c : Ct X D Wx T lv N sc) (hx : T.xn = true) {slot : Nat} {e : Expr} {h : HA} (k : haB T N sc slot e h = true) {a : Addr} {oe : Obj} {cls : Value} {d : Option Addr} {pn : List (Addr × Obj)} (hz : L2N.Zn cls d oe) (hf : ∃ vs, oe.data = .fields vs) :
    PE (X.suite a ((a, oe) :: pn)) e (trX X.K X.mg a cls d slot (haO h)) := by
  unfold haB at k
  split at k
  · simp only [Bool.and_eq_true] at k
    obtain ⟨⟨⟨⟨⟨k1, k2⟩, k3⟩, k4⟩, k5⟩, k6⟩ := k
    cases of_decide_eq_true k2
    obtain ⟨fa, fd, g1, g2, g3, g4⟩ := c.f.kn k1
    exact xv_kinds (c.f.xs hx) hz hf g4 (c.room.mono (by omega)) (c.glb k3) g1 g2 g3 (c.ix (of_decide_eq_true k4)) (c.vis k5) (nm_of k6).1 (nm_of k6).2.1 (by decide)
  · simp only [Bool.and_eq_true] at k
    obtain ⟨⟨⟨k1, k2⟩, k3⟩, k4⟩ := k
    cases of_decide_eq_true k1
    exact xv_fld (c.f.xs hx) hz hf (c.ix (of_decide_eq_true k2)) (c.vis k3) (nm_of k4).1 (nm_of k4).2.1
  · cases of_decide_eq_true k
    exact xv_str
  · cases k
theorem has_ok (c : Ct X D Wx T lv N sc) (hx : T.xn = true) {slot : Nat} {a : Addr} {oe : Obj} {cls : Value} {d : Option Addr} {pn : List (Addr × Obj)} (hz : L2N.Zn cls d oe) (hf : ∃ vs, oe.data = .fields vs) : ∀ {es : List Expr} {l : List HA}, hasB T N sc slot es l = true →
    PA (X.suite a ((a, oe) :: pn)) es (trXs X.K X.mg a cls d slot l)
  | [], [], _ => xvs_nil
  | e :: es, h :: l, k => by
    unfold hasB at k
    simp only [Bool.and_eq_true] at k
    exact xvs_cons (ha_ok c hx k.1.2 hz hf) (has_ok c hx hz hf k.2) k.1.1
  | [], _ :: _, k => by cases k
  | _ :: _, [], k => by cases k
theorem hx_ok (c : Ct X D Wx T lv N sc) (hx : T.xn = true) {slot : Nat} {a : Addr} {oe : Obj} {cls : Value} {d : Option Addr} {pn : List (Addr × Obj)} (hz : L2N.Zn cls d oe) (hf : ∃ vs, oe.data = .fields vs) : ∀ {h : HX} {e : Expr}, hxB T N sc slot e h = true →
    PE (X.suite a ((a, oe) :: pn)) e (trX X.K X.mg a cls d slot (hxV h))
  | .at_ h, e, k => by
    have k2 : haB T N sc slot e h = true := by
      unfold hxB at k
      split at k <;> first | (rename_i z; cases z; done) | (rename_i z1 z2; cases z2; exact k) | exact k | cases k
    exact xv_at (ha_ok c hx k2 hz hf)
  | .lst l, e, k => by
    unfold hxB at k
    split at k
    · rename_i z; cases z; exact xv_lst (has_ok c hx hz hf k)
    · rename_i z; cases z
    · rename_i z; cases z
    · cases k
  | .ite h z hb hc, e, k => by
    unfold hxB at k
    split at k
    · rename_i z; cases z
    · rename_i z2; cases z2
      simp only [Bool.and_eq_true] at k
      cases of_decide_eq_true k.1.1.2
      exact xv_ite (ha_ok c hx k.1.1.1 hz hf) (hx_ok c hx hz hf k.1.2) (hx_ok c hx hz hf k.2)
    · rename_i z2; cases z2
    · cases k
theorem hds_ok (c : Ct X D Wx T lv N sc) (hx : T.xn = true) : ∀ {es : List ExceptHandler} {l : List Hd}, hdsB T N sc es l = true → XHz X T.xh es l
  | [], [], _ => .nil
  | e :: es, h :: l, k => by
    unfold hdsB at k
    simp only [Bool.and_eq_true] at k
    have k2 := k.1
    unfold hdB at k2
    split at k2
    · simp only [Bool.and_eq_true] at k2
      obtain ⟨⟨⟨⟨⟨⟨⟨⟨k1, k3⟩, k4⟩, k5⟩, k6⟩, k7⟩, k8⟩, k9⟩, k10⟩ := k2
      cases of_decide_eq_true k1
      exact .cons (c.glb k4) (List.contains_iff_mem.mp k3) (c.ix (of_decide_eq_true k5)) (c.hsc.lo _ (lcl_of k6)) (fun a oe cls d pn hz hf => xsuite c.nd (c.ix (of_decide_eq_true k7)) (c.loc k8) (c.locF k8) k9 (hx_ok c hx hz hf k10)) (hds_ok c hx k.2)
    · cases k2
  | [], _ :: _, k => by cases k
  | _ :: _, [], k => by cases k
end
theorem step_B {n : Nat} (hS : OkS lv n) (hB : OkB lv n) : OkB lv (n + 1) := fun T N sc l b h X D Wx c tp => by
  unfold chkB at h
  split at h
  · exact psv_nil
  · simp only [Bool.and_eq_true] at h
    exact psv_cons (hS _ _ _ _ _ h.1 X D Wx c tp) (hB _ _ _ _ _ h.2 X D Wx c tp)
  · cases h
theorem step_S {n : Nat} (hS : OkS lv n) (hB : OkB lv n) : OkS lv (n + 1) := fun T N sc st i h X D Wx c tp => by
  obtain ⟨hE, hL, hO, hI, hT, hW, hC, hP⟩ := chk_all (T := T) (lv := lv) n
  unfold chkS at h
  split at h
  · -- asg
    split at h
    · simp only [Bool.and_eq_true, Bool.or_eq_true] at h
      obtain ⟨⟨h1, h2⟩, h3⟩ := h
      rcases h3 with h3 | h3
      · exact psv_asg c.nd (c.ix (of_decide_eq_true h1)) (c.loc h2) (c.locF h2) (comp_of h3.1) (hE _ _ _ _ h3.2 X D Wx c)
      · split at h3
        · simp only [Bool.and_eq_true, Bool.or_eq_true] at h3
          rcases h3 with h3 | h3
          · exact psv_asg c.nd (c.ix (of_decide_eq_true h1)) (c.loc h2) (c.locF h2) (sw_cell (c.hsc.ce _ (cel_of h3.1))) (hE _ _ _ _ h3.2 X D Wx c)
          · obtain ⟨⟨⟨h4, h5⟩, h6⟩, h7⟩ := h3
            split at h7
            · obtain ⟨k, hi⟩ := hC _ _ _ _ _ _ _ _ _ _ _ h7 X D Wx c
              obtain ⟨own, ok, ho⟩ := k.own
              exact psv_lc c.calm c.kind c.nd (c.ix (of_decide_eq_true h1)) (c.hsc.lo _ (lcl_of h4)) h5 (by simpa using h6) hi ok ho k.hg k.ht k.he k.set
            · cases h7
        · cases h3
    · cases h
  · -- asgT
    split at h
    · simp only [Bool.and_eq_true] at h
      obtain ⟨⟨h1, h2⟩, h3⟩ := h
      unfold tgB at h2
      simp only [Bool.and_eq_true] at h2
      exact psv_asgT c.calm h1 h2.1.1 (of_decide_eq_true h2.1.2) (tgs_ok c h2.1.1 (of_decide_eq_true h2.1.2) h2.2) (hE _ _ _ _ h3 X D Wx c)
    · cases h
  · -- par
    split at h
    · simp only [Bool.and_eq_true, Bool.not_eq_true'] at h
      obtain ⟨⟨⟨⟨⟨⟨⟨⟨⟨⟨⟨⟨h1, h2⟩, h3⟩, h4⟩, h5⟩, h6⟩, h7⟩, h8⟩, h9⟩, h10⟩, h11⟩, h12⟩, h13⟩ := h
      exact psv_par c.calm c.kind c.nd (c.ix (of_decide_eq_true h1)) (c.ix (of_decide_eq_true h2)) (of_decide_eq_true h3) (c.hsc.lo _ (lcl_of h4)) (c.hsc.lo _ (lcl_of h5)) (of_decide_eq_true h6) h7 h8 h9 h10 h11 (hE _ _ _ _ h12 X D Wx c) (hE _ _ _ _ h13 X D Wx c)
    · cases h
  · -- sfld
    split at h
    · simp only [Bool.and_eq_true] at h
      cases of_decide_eq_true h.1.1
      exact psv_sfld c.f.fl (hE _ _ _ _ h.1.2 X D Wx c) (hE _ _ _ _ h.2 X D Wx c)
    · cases h
  · -- ssub
    split at h
    · simp only [Bool.and_eq_true] at h
      exact psv_ssub c.hu4 h.1.1.1 (hE _ _ _ _ h.1.1.2 X D Wx c) (hE _ _ _ _ h.1.2 X D Wx c) (hE _ _ _ _ h.2 X D Wx c)
    · cases h
  · split at h
    · simp only [Bool.and_eq_true] at h
      exact psv_exp h.1 (hE _ _ _ _ h.2 X D Wx c)
    · cases h
  · split at h
    · exact psv_ret (hE _ _ _ _ h X D Wx c)
    · cases h
  · split at h
    · exact psv_retN
    · cases h
  · split at h
    · simp only [Bool.and_eq_true] at h
      exact psv_ifs (hT _ _ _ _ h.1.1 X D Wx c) (hB _ _ _ _ _ h.1.2 X D Wx c tp) (hB _ _ _ _ _ h.2 X D Wx c tp)
    · cases h
  · split at h
    · simp only [Bool.and_eq_true] at h
      exact psv_whl c.po (hT _ _ _ _ h.1 X D Wx c) (hB _ _ _ _ _ h.2 X D Wx c tp)
    · cases h
  · split at h
    · simp only [Bool.and_eq_true] at h
      exact psv_fors c.po c.calm h.1.1.2 (hI _ _ _ _ _ h.1.2 X D Wx c) (tg_ok c h.1.1.1) (hB _ _ _ _ _ h.2 X D Wx c tp)
    · cases h
  · -- ford
    split at h
    · simp only [Bool.and_eq_true] at h
      exact psv_ford c.po c.calm h.1.1.2 (hE _ _ _ _ h.1.2 X D Wx c) (tg_ok c h.1.1.1) (hB _ _ _ _ _ h.2 X D Wx c tp)
    · cases h
  · -- rse
    split at h
    · rename_i cl l _ e _
      split at h
      · rename_i h0
        split at h
        · exact psv_rse h0
        · cases h
      · simp only [Bool.and_eq_true] at h
        obtain ⟨hx, h⟩ := h
        unfold rseB at h
        split at h
        · simp only [Bool.and_eq_true] at h
          obtain ⟨⟨h1, h2⟩, h3⟩ := h
          cases of_decide_eq_true h1
          split at h3
          · rename_i i0 hi
            obtain ⟨C, k, _⟩ := (c.f.xs hx).ex _ _ hi
            split at h3
            · rename_i he
              split at h3
              · exact psv_rseT k (List.isEmpty_iff.mp he) c.calm c.tk (c.glb h2)
              · cases h3
            · rename_i he
              simp only [Bool.and_eq_true] at h3
              obtain ⟨g1, g2, _, g3, _⟩ := hL _ _ _ _ h3.2 X D Wx c
              exact psv_rseI k (fun z => he (List.isEmpty_iff.mpr z)) c.calm c.tk (c.room.mono (by omega)) (c.glb h2) (of_decide_eq_true h3.1) g3 g2 g1
          · cases h3
        · cases h
    · cases h
  · -- tryx
    split at h
    · simp only [Bool.and_eq_true] at h
      obtain ⟨⟨h1, h2⟩, h3⟩ := h
      exact psv_tryx tp.1 tp.2 c.nd c.tk (c.f.xs h1) (fun W pn xe tk po => hB _ _ _ _ _ h2 _ D W (c.tr tk po) tp) (hds_ok c h1 h3)
    · cases h
  · split at h
    · exact psv_pass
    · cases h
  · cases h
theorem chk_st (n : Nat) : OkS lv n ∧ OkB lv n := by
  induction n with
  | zero =>
    refine ⟨?_, ?_⟩
    · intro T N sc e i h; unfold chkS at h; cases h
    · intro T N sc e i h; unfold chkB at h; cases h
  | succ n ih => exact ⟨step_S ih.1 ih.2, step_B ih.1 ih.2⟩
end
end Vm
set_option Elab.async false
set_option linter.all false
set_option maxRecDepth 100000
set_option maxHeartbeats 4000000
/-! A text whose defs are checked: each call does what run says. -/
namespace Vm
open PySem L2
/-- run's table from the checker's -/
def tabOf (T : Tb) : Str → Str → Option Te := fun c f => if c = Str.empty then (match T.fn f with
    | some d => some (.fn d)
    | none => if (T.cl f).isSome then some .cls else none)
  else if f = "__init__" then (T.cl c).map .fn else (T.mt c f).map .fn
section
variable {P : Program} {w : World} {K : Fg} {mg : Mg} {base : Heap} {T : Tb} {fl : Str → List Str}
structure DefE (K : Fg) (T : Tb) (fa : Addr) (fd : FuncData) (ps : List Str) (d : Fd) : Prop where
  ex : ∃ (x qual : Str) (params : Arguments) (body : List Stmt) (scope : Scope) (dvs : List V) (kws : List (Str × V)) (N : List Str) (fuel : Nat), FunD K x qual params body scope dvs kws fa fd ∧ FnScope N ps scope ∧ N.length = d.ns ∧ chkB T fuel N scope body d.body = true
  dk : DefOk K fd ps d
structure ModF (K : Fg) (mg : Mg) (T : Tb) (fl : Str → List Str) : Prop where
  bi : ∀ x, T.bi.contains x = true → mg x = none
  gl : ∀ x w, T.gl x = some w → ∃ v u, mg x = some u ∧ RelV v u ∧ ∀ io H, Rep K mg io H w v
  fn : ∀ f d, T.fn f = some d → ∃ fa fd ps, mg f = some (.ref fa) ∧ PySem.W.keepIn K (.ref fa) = true ∧ DefE K T fa fd ps d
  cl : ∀ c d, T.cl c = some d → T.fn c = none ∧ c ≠ Str.empty ∧ ∃ C fa fd ps, mg c = some (.ref C) ∧ Mk K C fa ∧ Cls K C ∧ DefE K T fa fd ps d
  mt : ∀ c m d, T.mt c m = some d → c ≠ Str.empty ∧ m ≠ "__init__" ∧ ∃ C fa fd ps, mg c = some (.ref C) ∧ Cls K C ∧ Meth K C m fa ∧ DefE K T fa fd ps d
  fl : FlOk K mg fl
  eq : ∀ c, T.eq.contains c = true → ∃ d, T.mt c "__eq__" = some d ∧ d.np = 2 ∧ ∃ C, mg c = some (.ref C) ∧ PySem.W.findIn K (.ref C) "__ne__" = some (some (.builtin "object.__ne__"))
  isc : ∀ (X : Cx), X.K = K → X.mg = mg → ∀ c, T.isc.contains c = true → ∃ C, IsoC X T.isc c C
  su : ∀ c, T.eq.contains c = true → ∀ C, mg c = some (.ref C) → ∀ t : String, (t = "NoneType" ∨ t = "int" ∨ t = "str" ∨ t = "tuple") → PySem.W.subIn K (.ref C) (.type t) = some false
  xs : T.xn = true → ∀ (X : Cx), X.K = K → X.mg = mg → XsOk X 1 T.xh
  kw : ∀ c ks pm, T.kw c = some (ks, pm) → T.fn c = none ∧ c ≠ Str.empty ∧ ∃ d C fa fd ps, T.cl c = some d ∧ mg c = some (.ref C) ∧ Mk K C fa ∧ Cls K C ∧ DefE K T fa fd ps d ∧ KBn K fd ps 1 ks (fun us ws => us ++ pm.filterMap (ws[·]?)) (fun vs zs => vs ++ pm.filterMap (zs[·]?)) ∧ pm.length + 1 = d.np ∧ ∀ i ∈ pm, i < ks.length
  kn : T.kn = true → ∃ fa fd, mg "_law_kinds" = some (.ref fa) ∧ PySem.W.keepIn K (.ref fa) = true ∧ Binds K fd ["_law_e"] [] ∧ ∀ P w base, KnOk P w K mg base 1 fa fd
/-- what the def d does with n calls more -/
noncomputable def Fn (T : Tb) (fl : Str → List Str) : Nat → Fd → List W → Vs → Out W
  | 0, _ => fun _ _ => .err
  | n + 1, d => runB ⟨run (tabOf T) T.gl fl n, T.gl, fl⟩ d
theorem callD_err {d : Fd} {ws : List W} {s : Vs} : callD d (fun _ _ => .err) ws s = .err := by
  unfold callD
  split <;> rfl
theorem run_fn_eq {f : Str} {d : Fd} (h : T.fn f = some d) : ∀ n ws s, run (tabOf T) T.gl fl n Str.empty f ws s = callD d (Fn T fl n d) ws s
  | 0, ws, s => by rw [run]; exact callD_err.symm
  | n + 1, ws, s => by
    have e : tabOf T Str.empty f = some (.fn d) := by unfold tabOf; rw [if_pos rfl, h]
    rw [run, e]
    rfl
theorem run_init_eq {c : Str} {d : Fd} (h : T.cl c = some d) (hc : c ≠ Str.empty) : ∀ n ws s, run (tabOf T) T.gl fl n c "__init__" ws s = callD d (Fn T fl n d) ws s
  | 0, ws, s => by rw [run]; exact callD_err.symm
  | n + 1, ws, s => by
    have e : tabOf T c "__init__" = some (.fn d) := by unfold tabOf; rw [if_neg hc, if_pos rfl, h]; rfl
    rw [run, e]
    rfl
theorem run_mt_eq {c m : Str} {d : Fd} (h : T.mt c m = some d) (hc : c ≠ Str.empty) (hm : m ≠ "__init__") : ∀ n ws s, run (tabOf T) T.gl fl n c m ws s = callD d (Fn T fl n d) ws s
  | 0, ws, s => by rw [run]; exact callD_err.symm
  | n + 1, ws, s => by
    have e : tabOf T c m = some (.fn d) := by unfold tabOf; rw [if_neg hc, if_neg hm, h]; rfl
    rw [run, e]
    rfl
theorem clsD_err {c : Str} {ws : List W} {s : Vs} : clsD c (fun _ _ => .err) ws s = .err := rfl
theorem run_cl_eq {c : Str} {d : Fd} (h : T.cl c = some d) (hf : T.fn c = none) (hc : c ≠ Str.empty) : ∀ n ws s, run (tabOf T) T.gl fl n Str.empty c ws s = clsD c (callD d (Fn T fl (n - 1) d)) ws s
  | 0, ws, s => by
    rw [run]
    unfold clsD
    rw [show callD d (Fn T fl (0 - 1) d) (W.ref s.length :: ws) (s ++ [Ob.ins c []]) = .err from callD_err]
  | n + 1, ws, s => by
    have e : tabOf T Str.empty c = some .cls := by unfold tabOf; rw [if_pos rfl, hf]; show (if _ then _ else _) = _; rw [h]; rfl
    rw [run, e]
    show (match run (tabOf T) T.gl fl n c "__init__" (.ref s.length :: ws) (s ++ [.ins c []]) with
      | .ok .non s' => Out.ok (W.ref s.length) s'
      | .exc x s' => .exc x s'
      | _ => .err) = _
    rw [run_init_eq h hc]
    unfold clsD
    rfl
theorem reps_env {io : List Addr} {H : Hp} {ws : List W} {vs : List V} (r : Reps K mg io H ws vs) (N : List Str) (k : Nat) (hk : k = N.length - vs.length) : RepE K mg io H (ws.map some ++ List.replicate k none) (L2.start N vs) where
  len := by unfold L2.start; rw [List.length_append, List.length_append, List.length_map, List.length_map, List.length_replicate, List.length_replicate, r.length, hk]
  at_ := fun i w h => by
    by_cases hi : i < ws.length
    · rw [List.getElem?_append_left (by simpa using hi), List.getElem?_map] at h
      cases e : ws[i]? with
      | none => rw [e] at h; cases h
      | some w' =>
        rw [e] at h
        cases h
        obtain ⟨v, h1, h2⟩ := r.get e
        refine ⟨v, ?_, h2⟩
        unfold L2.start
        rw [List.getElem?_append_left (by rw [List.length_map]; have := r.length; omega), List.getElem?_map, h1]
        rfl
    · rw [List.getElem?_append_right (by simpa using hi), List.getElem?_replicate] at h
      split at h <;> cases h
theorem fn_err {k : Nat} {fa : Addr} {fd : FuncData} {ps : List Str} {d : Fd} (hl : ps.length = d.np) : FnOk P w K mg base (L2N.CX P w) k fa fd ps (spRun K mg d.np (fun _ _ => .err)) :=
  ⟨fun vs H Q E ⟨io, S, ws, _, _, _, p⟩ => p.elim, fun A outer s H args us vs Q E _ _ _ _ ⟨io, S, ws, _, _, _, p⟩ => p.elim⟩
/-- the rule: the body is checked -/
theorem fn_step {n lv : Nat} {fa : Addr} {fd : FuncData} {ps : List Str} {d : Fd} (hf : ∀ X : Cx, X.prog = P → X.w = w → X.K = K → X.mg = mg → X.base = base → CtF X ⟨run (tabOf T) T.gl fl n, T.gl, fl⟩ T lv) (h : DefE K T fa fd ps d) :
    FnOk P w K mg base (L2N.CX P w) (lv + 6) fa fd ps (spRun K mg d.np (Fn T fl (n + 1) d)) := by
  obtain ⟨x, qual, params, body, scope, dvs, kws, N, fuel, F, S, hN, hb⟩ := h.ex
  refine F.ok S (fun vs H Q E ⟨io, S0, ws, _, r, hl, _⟩ => by rw [← r.length, hl, h.dk.len]) fun cdv A outer s H vs Q E hr ⟨io, S0, ws, sm, r, hl, p⟩ => ?_
  let X := cxOf (L2N.CX P w) P w K mg base N qual scope fa cdv A outer s H E
  let Wx : WX := fun cls d _ H => E cls d H
  have c : Ct X ⟨run (tabOf T) T.gl fl n, T.gl, fl⟩ Wx T lv N scope := {
    hN := rfl
    nd := S.nd
    hsc := ⟨fun _ h => h, fun _ h => h, fun _ h => h, fun _ h => .inr h⟩
    kind := S.kind
    calm := rfl
    tk := L2N.takes_of rfl rfl rfl rfl
    fw := fun _ _ _ _ _ _ h => h
    po := passes_of rfl
    hu := by
      have := hr.un
      show (A.deeper (PyProof.Rows.envOfC qual scope s.heap.objs.size fa cdv)).units + 65 < cLine
      omega
    room := hr
    fn_ := fun _ _ => rfl
    f := hf X rfl rfl rfl rfl rfl }
  refine ⟨_, (chk_st fuel).2 _ _ _ _ _ hb X _ Wx c ⟨rfl, rfl⟩, io, S0, ws.map some ++ List.replicate (d.ns - d.np) none, sm, reps_env r N _ (by rw [hN, ← r.length, hl]), ?_⟩
  have p : Po K mg (fun cls d _ H' => E cls d H') (Rep K mg) (runB ⟨run (tabOf T) T.gl fl n, T.gl, fl⟩ d ws S0) io H [] Q := p
  unfold runB at p
  cases e : denB ⟨run (tabOf T) T.gl fl n, T.gl, fl⟩ d.body (ws.map some ++ List.replicate (d.ns - d.np) none) S0 with
  | nx r' s' => rw [e] at p; exact fun io' σ' H' x s1 _ => p io' .non H' x s1 .non
  | rt v s' => rw [e] at p; exact fun io' v' H' x s1 q => p io' v' H' x s1 q
  | exc y r' s' => rw [e] at p; exact fun io' σ' H' cls d x s1 _ q => p io' H' cls d x s1 q
  | bk r' s' => rw [e] at p; exact p.elim
  | ct r' s' => rw [e] at p; exact p.elim
  | err => rw [e] at p; exact p.elim
theorem eq_of {n : Nat} {lv : Nat} {X : Cx} (m : ModF X.K X.mg T fl) (c : Str) (h : T.eq.contains c = true) (h0 : ∀ (fa : Addr) (fd : FuncData) (ps : List Str) (d : Fd), DefE X.K T fa fd ps d → FnOk X.prog X.w X.K X.mg X.base (L2N.CX X.prog X.w) lv fa fd ps (spRun X.K X.mg d.np (Fn T fl n d))) :
    ∃ C fa, OwnC X ⟨run (tabOf T) T.gl fl n, T.gl, fl⟩ lv c C fa := by
  obtain ⟨d, hd, hn, C, hC, hne⟩ := m.eq c h
  obtain ⟨g1, g2, C', fa, fd, ps, h1, h2, h3, h4⟩ := m.mt c "__eq__" d hd
  rw [hC] at h1
  cases h1
  exact ⟨C, fa, hC, h2, h3, hne, m.su c h C hC, fd, ps, d, _, h0 fa fd ps d h4, h4.dk, hn, run_mt_eq hd g1 g2 n⟩
theorem mod_fn (m : ModF K mg T fl) : ∀ n, (∀ {fa : Addr} {fd : FuncData} {ps : List Str} {d : Fd}, DefE K T fa fd ps d → FnOk P w K mg base (L2N.CX P w) (6 * n) fa fd ps (spRun K mg d.np (Fn T fl n d))) ∧
    ∀ X : Cx, X.prog = P → X.w = w → X.K = K → X.mg = mg → X.base = base → CtF X ⟨run (tabOf T) T.gl fl n, T.gl, fl⟩ T (6 * n) := by
  intro n
  induction n with
  | zero =>
    have h0 : ∀ {fa : Addr} {fd : FuncData} {ps : List Str} {d : Fd}, DefE K T fa fd ps d → FnOk P w K mg base (L2N.CX P w) (6 * 0) fa fd ps (spRun K mg d.np (Fn T fl 0 d)) := fun h => fn_err h.dk.len
    refine ⟨h0, fun X e1 e2 e3 e4 e5 => ?_⟩
    subst e1 e2 e3 e4 e5
    exact {
      bi := m.bi
      gl := fun x w h => let ⟨v, u, h1, h2, h3⟩ := m.gl x w h; ⟨v, u, h1, h2, h3, h⟩
      fn := fun f d h => let ⟨fa, fd, ps, h1, h2, h3⟩ := m.fn f d h; ⟨fa, fd, ps, _, h1, h2, h0 h3, h3.dk, run_fn_eq h 0⟩
      cl := fun c d h => let ⟨g1, g2, C, fa, fd, ps, h1, h2, h3, h4⟩ := m.cl c d h; ⟨C, fa, fd, ps, _, h1, h2, h3, h0 h4, h4.dk, run_cl_eq h g1 g2 0⟩
      mt := fun c k d h => let ⟨g1, g2, C, fa, fd, ps, h1, h2, h3, h4⟩ := m.mt c k d h; ⟨C, fa, fd, ps, _, h1, h2, h3, h0 h4, h4.dk, run_mt_eq h g1 g2 0⟩
      fl := m.fl
      eq := fun c h => eq_of m c h (fun _ _ _ _ q => h0 q)
      isc := m.isc X rfl rfl
      xs := fun h => (m.xs h X rfl rfl).up (by omega)
      kw := fun c ks pm h => let ⟨g1, g2, d, C, fa, fd, ps, h0', h1, h2, h3, h4, h5, h6, h7⟩ := m.kw c ks pm h; ⟨C, fa, fd, ps, d, _, h1, h2, h3, h0 h4, h5, h6, h7, run_cl_eq h0' g1 g2 0⟩
      kn := fun h => let ⟨fa, fd, h1, h2, h3, h4⟩ := m.kn h; ⟨fa, fd, h1, h2, h3, (h4 _ _ _).up (by omega)⟩ }
  | succ n ih =>
    have h0 : ∀ {fa : Addr} {fd : FuncData} {ps : List Str} {d : Fd}, DefE K T fa fd ps d → FnOk P w K mg base (L2N.CX P w) (6 * (n + 1)) fa fd ps (spRun K mg d.np (Fn T fl (n + 1) d)) := fun h => fn_step ih.2 h
    refine ⟨h0, fun X e1 e2 e3 e4 e5 => ?_⟩
    subst e1 e2 e3 e4 e5
    exact {
      bi := m.bi
      gl := fun x w h => let ⟨v, u, h1, h2, h3⟩ := m.gl x w h; ⟨v, u, h1, h2, h3, h⟩
      fn := fun f d h => let ⟨fa, fd, ps, h1, h2, h3⟩ := m.fn f d h; ⟨fa, fd, ps, _, h1, h2, h0 h3, h3.dk, run_fn_eq h (n + 1)⟩
      cl := fun c d h => let ⟨g1, g2, C, fa, fd, ps, h1, h2, h3, h4⟩ := m.cl c d h; ⟨C, fa, fd, ps, _, h1, h2, h3, (ih.1 h4).mono (by omega), h4.dk, run_cl_eq h g1 g2 (n + 1)⟩
      mt := fun c k d h => let ⟨g1, g2, C, fa, fd, ps, h1, h2, h3, h4⟩ := m.mt c k d h; ⟨C, fa, fd, ps, _, h1, h2, h3, h0 h4, h4.dk, run_mt_eq h g1 g2 (n + 1)⟩
      fl := m.fl
      eq := fun c h => eq_of m c h (fun _ _ _ _ q => h0 q)
      isc := m.isc X rfl rfl
      xs := fun h => (m.xs h X rfl rfl).up (by omega)
      kw := fun c ks pm h => let ⟨g1, g2, d, C, fa, fd, ps, h0', h1, h2, h3, h4, h5, h6, h7⟩ := m.kw c ks pm h; ⟨C, fa, fd, ps, d, _, h1, h2, h3, (ih.1 h4).mono (by omega), h5, h6, h7, run_cl_eq h0' g1 g2 (n + 1)⟩
      kn := fun h => let ⟨fa, fd, h1, h2, h3, h4⟩ := m.kn h; ⟨fa, fd, h1, h2, h3, (h4 _ _ _).up (by omega)⟩ }
end
end Vm
set_option Elab.async false
set_option linter.all false
set_option maxRecDepth 100000
set_option maxHeartbeats 4000000
/-! The joint: from the head's facts to the law's statement. -/
namespace Vm
open PySem L2
/-! ### defs and their defaults -/
section
variable {K : Fg} {mg : Mg} {x qual : Str} {params : Arguments} {body : List Stmt} {scope : Scope} {dvs : List V} {kws : List (Str × V)} {fa : Addr} {fd : FuncData} {ps : List Str} {d : Fd}
theorem dk_none (F : FunD K x qual params body scope [] kws fa fd) (hl : ps.length = d.np) (h0 : d.dfl = [])
    (h : ∀ (kV doc pm : Value) (an : Option Addr) (cdv ct : Value) (us : List Value), us.length = ps.length → bindArgs (PySem.W.fnOf x qual params body scope .none kV doc pm an cdv ct) ⟨us, []⟩ = pure (ps.zip us)) : DefOk K fd ps d :=
  ⟨hl, fun j h1 h2 => ⟨[], [], F.bindsN h, .nil, by rw [h0, List.drop_nil]; rfl⟩⟩
theorem dk_some (F : FunD K x qual params body scope dvs kws fa fd) (hl : ps.length = d.np) (hd : dvs ≠ []) (hv : conVs d.dfl = some dvs) (hc : ∀ k, k ≤ d.dfl.length → conVs (d.dfl.drop k) = some (dvs.drop k)) (hle : d.dfl.length = dvs.length) (hnp : d.dfl.length ≤ d.np)
    (h : ∀ k, k ≤ d.dfl.length → ∀ (T : Addr) (kV doc pm : Value) (an : Option Addr) (cdv ct : Value) (us its : List Value), us.length = d.np - (d.dfl.length - k) → its.length = dvs.length →
      ∃ g, bindArgs (PySem.W.fnOf x qual params body scope (.ref T) kV doc pm an cdv ct) ⟨us, []⟩ = seqItems? (.ref T) >>= g ∧ g (some its.toArray) = pure (ps.zip (us ++ its.drop k))) : DefOk K fd ps d :=
  ⟨hl, fun j h1 h2 => by
    have e : d.dfl.length - (d.np - j) ≤ d.dfl.length := Nat.sub_le _ _
    obtain ⟨ds, v1, v2⟩ := F.binds1 j (d.dfl.length - (d.np - j)) hd (by rw [hl, ← hle]; omega) (by
      have q := h (d.dfl.length - (d.np - j)) e
      have z : d.np - (d.dfl.length - (d.dfl.length - (d.np - j))) = j := by omega
      rw [z] at q
      exact q)
    exact ⟨ds, _, v2, v1, hc _ e⟩⟩
end
/-! ### what the head tells of the module's tuples -/
section
variable {K : Fg} {mg : Mg} {h : Heap}
def dvW : W → Option He.Dv
  | .non => some .non
  | .bl b => some (.bl b)
  | .int i => some (.int i)
  | .str x => some (.str x)
  | _ => none
def dvWs : List W → Option (List He.Dv)
  | [] => some []
  | w :: l => match dvW w, dvWs l with
    | some v, some vs => some (v :: vs)
    | _, _ => none
theorem dvWs_rep : ∀ {l : List W} {vs : List He.Dv}, dvWs l = some vs → ∀ (io : List Addr) (H : Hp), Reps K mg io H l (vs.map (He.Dv.v K))
  | [], vs, e, io, H => by cases e; exact .nil
  | w :: l, vs, e, io, H => by
    unfold dvWs at e
    split at e
    · rename_i v vs' e1 e2
      cases e
      refine .cons ?_ (dvWs_rep e2 io H)
      cases w <;> first | (cases e1; done) | (cases e1; constructor)
    · cases e
/-- the module's name x is a tuple of these constants -/
def tupFact (K : Fg) (x : Str) (l : List W) : Bool := He.Fa.ok K (.glo x) && (match dvWs l with
  | some vs => He.tupB K x vs
  | none => false)
theorem tup_gl {x : Str} {l : List W} (X : K.In h) (G : h.Ns mainGlobals mg) (c : tupFact K x l = true) : ∃ v u, mg x = some u ∧ RelV v u ∧ ∀ io H, Rep K mg io H (.tup l) v := by
  unfold tupFact at c
  obtain ⟨c1, c2⟩ := He.ba c
  split at c2
  · rename_i vs e
    exact ⟨.ref (He.ga K x), .ref (He.ga K x), He.glo_ok X G c1, rfl, fun io H => .tup (He.tupB_ok c2 H) (dvWs_rep e io H)⟩
  · cases c2
theorem int_gl {x : Str} {i : Int} (X : K.In h) (G : h.Ns mainGlobals mg) (c : He.Fa.ok K (.int x i) = true) : ∃ v u, mg x = some u ∧ RelV v u ∧ ∀ io H, Rep K mg io H (.int i) v := by
  obtain ⟨t, e⟩ := He.int_ok X G c
  exact ⟨.int i, _, e, ⟨t, rfl⟩, fun _ _ => .int i⟩
theorem str_gl {x z : Str} (X : K.In h) (G : h.Ns mainGlobals mg) (c : He.Fa.ok K (.str x z) = true) : ∃ v u, mg x = some u ∧ RelV v u ∧ ∀ io H, Rep K mg io H (.str z) v := by
  obtain ⟨t, e⟩ := He.str_ok X G c
  exact ⟨.str z, _, e, ⟨t, rfl⟩, fun _ _ => .str z⟩
end
/-! ### a Hook with tuples -/
/-- a further fact of the module: a class whose != is its ==; the classes for isinstance; -/
inductive Xf where
  | ne (c : Str) | isi (c : Str) | pr (c d : Str) | xc (c : Str) | xm (c h : Str) | xk (c k : Str) | xb (b : Str)
def oexB (K : Fg) (C : Addr) : Bool := match K.lookup C with
  | some ⟨.type "type", _, .cls cd, sl⟩ => (match cd.mro, sl.toList with
    | .ref C' :: bm, [_, _, _, _, some (.builtin n), _] => C' == C && n == "ValueError.__new__" && !cd.hasDel && cd.hasDict && PySem.HandSPX.refsVE bm
    | _, _ => false)
  | _ => false
def xkB (K : Fg) (c k : Str) : Bool := if k = "ValueError" then He.Fa.ok K (.free "ValueError") && decide (PySem.W.kitOne K (.ref (He.ga K c)) (.type "ValueError") = some true) else He.Fa.ok K (.glo k) && decide (PySem.W.kitOne K (.ref (He.ga K c)) (.ref (He.ga K k)) = xSub c k)
def Xf.ok (K : Fg) : Xf → Bool
  | .ne c => decide (PySem.W.findIn K (.ref (He.ga K c)) "__ne__" = some (some (.builtin "object.__ne__"))) && ["NoneType", "int", "str", "tuple"].all fun t => decide (PySem.W.subIn K (.ref (He.ga K c)) (.type t) = some false)
  | .xc c => He.Fa.ok K (.glo c) && PySem.W.keepIn K (.ref (He.ga K c)) && decide (PySem.W.subIn K (.ref (He.ga K c)) (.type "BaseException") = some true) && decide (PySem.W.typeIn K (.ref (He.ga K c)) = some (.type "type")) && xfB K (He.ga K c) &&
    decide (PySem.W.findIn K (.ref (He.ga K c)) "__class__" = some (some (.builtin "object.__class__"))) && decide (PySem.W.specialIn K (.builtin "object.__class__") "__get__" = some (some (.builtin "getset_descriptor.__get__"))) && decide (PySem.W.takesIn K (.builtin "object.__class__") = some true) && decide (PySem.W.mroIn K (He.ga K c) (.type "object") = some true) &&
    (match xTab.lookup c with
    | some i => if i.fs.isEmpty then PySem.W.excIn K (He.ga K c) He.veBase "ValueError.__new__" else oexB K (He.ga K c) && decide (PySem.W.findIn K (.ref (He.ga K c)) "__setattr__" = some (some (.builtin "object.__setattr__"))) && decide (PySem.W.findIn K (.ref (He.ga K c)) "__init__" = some (some (.ref (He.fAd K (c, some "__init__"))))) && decide (PySem.W.typeIn K (.ref (He.fAd K (c, some "__init__"))) = some (.type "function")) && i.fs.all fun f => decide (PySem.W.findIn K (.ref (He.ga K c)) f = some none)
    | none => false)
  | .xm c h => He.Fa.ok K (.glo h) && decide (PySem.W.exmOne K (.ref (He.ga K c)) (.ref (He.ga K h)) = xSub c h)
  | .xk c k => xkB K c k
  | .xb b => He.Fa.ok K (.glo b) && decide (PySem.W.readsIn K (He.ga K b) (.type "type") = true) && (match PySem.W.findCls K (.ref (He.ga K b)) (.type "type") "__init__" with
    | some (.val v) => decide (v = .builtin "ValueError.__init__")
    | _ => false) && decide (PySem.W.specialIn K (.ref (He.ga K b)) "__getattribute__" = some (some (.builtin "type.__getattribute__")))
  | .isi c => decide (PySem.W.findIn K (.ref (He.ga K c)) "__class__" = some (some (.builtin "object.__class__"))) && decide (PySem.W.specialIn K (.builtin "object.__class__") "__get__" = some (some (.builtin "getset_descriptor.__get__")))
    && decide (PySem.W.takesIn K (.builtin "object.__class__") = some true) && ["NoneType", "bool", "int", "str", "tuple", "list", "dict"].all fun t => decide (PySem.W.kitOne K (.type t) (.ref (He.ga K c)) = some false)
  | .pr c d => decide (PySem.W.kitOne K (.ref (He.ga K c)) (.ref (He.ga K d)) = some (decide (c = d)))
structure TpF where
  tp : List (Str × List W)
  ex : List Xf
def obsV (fa : List He.Fa) (tp : TpF) (fn : List He.DefD) (K : Fg) : He.AlD := (((fa.all fun f => f.ok K) && ((tp.tp.all fun p => tupFact K p.1 p.2) && tp.ex.all fun x => x.ok K)) && fn.all fun d => d.ok K, fn.map fun d => He.fnW K d.at_)
def SaysV (fa : List He.Fa) (tp : TpF) (fn : List He.DefD) (K : Fg) : Prop := obsV fa tp fn K = He.valD fn
/-! ### what is looked at: a set of addresses as a tree of bits, grown from the module's names -/
inductive Tr where
  | e | n (b : Bool) (l r : Tr)
def Tr.has : Nat → Tr → Nat → Bool
  | 0, _, _ => false
  | _ + 1, .e, _ => false
  | k + 1, .n b l r, i => match i with
    | 0 => b
    | _ => if i % 2 == 1 then l.has k (i / 2) else r.has k (i / 2 - 1)
def Tr.put : Nat → Tr → Nat → Tr
  | 0, t, _ => t
  | k + 1, .e, i => match i with
    | 0 => .n true .e .e
    | _ => if i % 2 == 1 then .n false (Tr.put k .e (i / 2)) .e else .n false .e (Tr.put k .e (i / 2 - 1))
  | k + 1, .n b l r, i => match i with
    | 0 => .n true l r
    | _ => if i % 2 == 1 then .n b (l.put k (i / 2)) r else .n b l (r.put k (i / 2 - 1))
/-- the new ones among l; all -/
def newsV : List Addr → Tr → List Addr → List Addr × Tr
  | [], t, acc => (acc.reverse, t)
  | a :: l, t, acc => if t.has 40 a then newsV l t acc else newsV l (t.put 40 a) (a :: acc)
def refsV (o : Obj) : List Addr := He.refV o.cls ++ match o.data with
  | .seq its _ => its.toList.flatMap He.refV
  | .dict es _ => es.toList.flatMap fun e => He.refV e.val
  | .func fd => He.refV fd.code ++ He.refV fd.defaults
  | .cls cd => cd.ns :: cd.mro.flatMap He.refV
  | _ => []
def growV (g : Addr → Option Obj) : Nat → Tr → List Addr → List Addr
  | 0, _, front => front
  | n + 1, t, front => match newsV (front.flatMap fun a => match g a with
    | some o => refsV o
    | none => []) t [] with
    | (new, t') => front ++ growV g n t' new
def asV (g : Addr → Option Obj) (n : Nat) : List Addr := cStatics :: growV g n (Tr.put 40 .e mainGlobals) [mainGlobals]
def obsVG (n : Nat) (fa : List He.Fa) (tp : TpF) (fn : List He.DefD) (g : Addr → Option Obj) : He.AlD := obsV fa tp fn (He.frG g (asV g n))
def hookV (n : Nat) (fa : List He.Fa) (tp : TpF) (fn : List He.DefD) : PySem.W.Hook where
  α := He.AlD
  obs := fun s => obsVG n fa tp fn s.heap.get?
  val := fun _ => He.valD fn
  says := fun _ h => ∃ K : Fg, K.In h ∧ SaysV fa tp fn K
  of := fun _ _ e => ⟨_, He.frG_in, e⟩
  keeps := fun _ _ _ ⟨K, hK, c⟩ k => ⟨K, hK.keeps k, c⟩
theorem obsVG_eq {n : Nat} {fa : List He.Fa} {tp : TpF} {fn : List He.DefD} {g : Addr → Option Obj} {s : Shared} (h : ∀ a, g a = s.heap.get? a) : obsVG n fa tp fn g = (hookV n fa tp fn).obs s := by
  have e : g = s.heap.get? := funext h
  subst e
  rfl
section
variable {fa : List He.Fa} {tp : TpF} {fn : List He.DefD} {K : Fg}
theorem SaysV.all (c : SaysV fa tp fn K) : ((fa.all fun f => f.ok K) = true ∧ ((tp.tp.all fun p => tupFact K p.1 p.2) && tp.ex.all fun x => x.ok K) = true) ∧ (fn.all fun d => d.ok K) = true := by
  have c1 : (((fa.all fun f => f.ok K) && ((tp.tp.all fun p => tupFact K p.1 p.2) && tp.ex.all fun x => x.ok K)) && fn.all fun d => d.ok K) = true := congrArg (fun z : He.AlD => z.1) c
  rw [Bool.and_eq_true, Bool.and_eq_true] at c1
  exact c1
theorem SaysV.fact (c : SaysV fa tp fn K) {f : He.Fa} (h : f ∈ fa) : f.ok K = true := List.all_eq_true.mp c.all.1.1 f h
theorem SaysV.tup (c : SaysV fa tp fn K) {x : Str} {l : List W} (h : (x, l) ∈ tp.tp) : tupFact K x l = true := List.all_eq_true.mp (Bool.and_eq_true_iff.mp c.all.1.2).1 (x, l) h
theorem SaysV.ex (c : SaysV fa tp fn K) {x : Xf} (h : x ∈ tp.ex) : x.ok K = true := List.all_eq_true.mp (Bool.and_eq_true_iff.mp c.all.1.2).2 x h
theorem SaysV.def_ (c : SaysV fa tp fn K) (i : Nat) {d : He.DefD} (h : fn[i]? = some d) : ∃ fd, FunD K d.name d.qual d.params d.body d.scope (d.dvs K) (d.kws K) (He.fAd K d.at_) fd := by
  have e : fn.map (fun d => He.fnW K d.at_) = fn.map He.DefD.val := congrArg (fun z : He.AlD => z.2) c
  have e2 := congrArg (fun z => z[i]?) e
  simp only [List.getElem?_map, h, Option.map_some] at e2
  exact He.DefD.funD (Option.some.inj e2) (List.all_eq_true.mp c.all.2 d (List.mem_of_getElem? h))
end
/-! ### the script -/
theorem scr_rep {K : Fg} {mg : Mg} {H : Hp} {a : Addr} {ns : List Int} (hO : Only H) (hS : SqL K H a (ns.map V.int)) : Rep K mg [] H (.scr ns) (.ref a) := by
  rcases hS with hS | hS
  · rcases hS with hS | ⟨o, hS⟩
    · rcases hO a with h | ⟨o, xs, h⟩ <;> rw [h] at hS <;> cases hS
    · exact .scr (.inl ⟨o, hS⟩)
  · exact .scr (.inr hS)
theorem script_sp {K : Fg} {mg : Mg} {H : Hp} {a : Addr} {ns : List Int} {F : List W → Vs → Out W} (hO : Only H) (hS : SqL K H a (ns.map V.int)) (h : ∃ s', F [.scr ns] [] = .ok (.bl true) s') :
    spRun K mg 1 F [.ref a] H (fun v _ => v = .bl true) (fun _ _ _ => False) := by
  obtain ⟨s', h⟩ := h
  refine ⟨[], [], [.scr ns], ⟨rfl, List.nodup_nil, fun n o e => by cases e⟩, .cons (scr_rep hO hS) .nil, rfl, ?_⟩
  rw [h]
  intro io' b H' _ _ r
  cases r
  rfl
/-- the law's walk, where what flies is as the layer has it -/
theorem walk_v {l : PySem.W.OpenLaw} {n k : Nat} {q : Program} {loose : List Str} {XP : (Str → Option Value) → Heap → Prop} {YP : World → Heap → Prop} {d : DefRec} {x : Str}
    (hm : l.most = some n) (hz : n ≤ sizeLine) (h0 : d.params.defaults = []) (hr : Room k callerA)
    (F : ∀ (w : World) (mg : Mg) (fa : Addr) (h : Heap), YP w h → h.Ns mainGlobals mg → mg d.name = some (.ref fa) → ∃ (K : Fg) (fd : FuncData) (f : List W → Vs → Out W), K.In h ∧ (∀ (s : Shared) (u : Value), BindsTo s fd ⟨[u], []⟩ [(x, u)]) ∧
      (∀ ns : List Int, ns.length ≤ n → ∃ s', f [.scr ns] [] = .ok (.bl true) s') ∧ ∀ base : Heap, FnOk l.prog w K mg base (L2N.CX l.prog w) k fa fd [x] (spRun K mg 1 f)) :
    PySem.W.WalkO q loose XP YP l.row.toRowW d [] (fun f vs => PySem.call f vs) := by
  refine Att.attach_call hm h0 ?_
  intro w s₀ s₁ mg mb fa o pm cd doc a vs ns G Y ho hd hcd hmg hobj hi hl hg
  obtain ⟨K, fd, f, h1, h2, h3, h4⟩ := F w mg fa _ Y G.T.g hmg
  exact law_call h1 G.T.g G.T.b G.T.builtins G.T.nolimit hg hobj hi (Nat.le_trans hl hz) hr (fun base _ _ => h4 base) h2 (fun H hO hS => script_sp hO hS (h3 ns hl)) fun H e s' z => by
    obtain ⟨_, _, _, _, _, _, _, _, _, _, _, _, z⟩ := z
    exact z
end Vm
set_option Elab.async false
set_option linter.all false
set_option maxRecDepth 100000
set_option maxHeartbeats 4000000
/-! The def that tells an exception's kinds: its body. -/
namespace Vm
open PySem PySem.Spec PyProof.Rows L2 L2H
def gloB (sc : Scope) (x : Str) : Bool := decide (sc.names.lookup x = some .globalImplicit)
def visX (sc : Scope) (x : Str) : Bool := decide (sc.names.lookup x = some .local) || (decide (sc.names.lookup x = some .cell) || decide (sc.names.lookup x = some .free))
def locX (sc : Scope) (x : Str) : Bool := decide (sc.names.lookup x = some .local) || decide (sc.names.lookup x = some .cell)
theorem visX_ok {sc : Scope} {x : Str} (h : visX sc x = true) : Vis sc x := by
  unfold visX at h
  simp only [Bool.or_eq_true, decide_eq_true_eq] at h
  exact h
theorem locX_ok {sc : Scope} {x : Str} (h : locX sc x = true) : Loc sc x := by
  unfold locX at h
  simp only [Bool.or_eq_true, decide_eq_true_eq] at h
  exact h
def isxB (sc : Scope) (x : Str) : Expr → Str → Bool
  | .Call (.Name f _) [.Name y _, .Name z _] [] _, c => decide (f = "isinstance") && decide (y = x) && decide (z = c) && gloB sc c
  | _, _ => false
def isxsB (sc : Scope) (x : Str) : List Expr → List Str → Bool
  | [], [] => true
  | e :: es, c :: cs => notStar e && isxB sc x e c && isxsB sc x es cs
  | _, _ => false
def consB : List Expr → List Str → Bool
  | [], [] => true
  | .Constant (.str y) _ _ :: es, c :: cs => decide (y = c) && consB es cs
  | _, _ => false
/-- x = [..] -/
def asgLB (x : Str) (k : List Expr → Bool) : Stmt → Bool
  | .Assign [.Name y _] (.List es _) _ => decide (y = x) && k es
  | _ => false
/-- x = x + [..] -/
def asgCB (x : Str) (k : List Expr → Bool) : Stmt → Bool
  | .Assign [.Name y _] (.BinOp (.Name z _) .Add (.List es _) _) _ => decide (y = x) && decide (z = x) && k es
  | _ => false
/-- x.append(e) -/
def appB (x : Str) (k : Expr → Bool) : Stmt → Bool
  | .Expr (.Call (.Attribute (.Name y _) m ap) [e] [] p) _ => decide (y = x) && decide (m = "append") && (ap.endLine == p.line) && notStar e && k e
  | _ => false
/-- return ' '.join([w[k] for k in range(13) if s[k]]) -/
def retB (sc : Scope) : Stmt → Bool
  | .Return (some (.Call (.Attribute (.Constant (.str z) _ _) m ap) [.ListComp (.Subscript (.Name a1 _) (.Name a2 _) _) [⟨.Name a3 _, .Call (.Name a4 _) [.Constant (.int i) _ _] [] _, [.Subscript (.Name a5 _) (.Name a6 _) _], 0⟩] scope _] [] p)) _ =>
    decide (z = " ") && decide (m = "join") && (ap.endLine == p.line) && decide (a1 = "_law_words") && decide (a2 = "_law_k") && decide (a3 = "_law_k") && decide (a4 = "range") && decide (i = 13) && decide (a5 = "_law_some") && decide (a6 = "_law_k") &&
      blkC ["_law_e", "_law_some", "_law_words", "_law_k"] sc scope [("_law_k", 3)] && decide ((relS scope sc).names.lookup ("_law_k" : Str) = some NameKind.local) && visX (relS scope sc) "_law_words" && visX (relS scope sc) "_law_some"
  | _ => false
abbrev ks1 : List Str := ["BookError", "MadeError", "NoGold", "NoRing"]
abbrev ks2 : List Str := ["NoRow", "NoSlip", "NoText", "NotThere"]
abbrev ks3 : List Str := ["NoWeight", "Nothing", "TooMany", "Twice"]
abbrev kw1 : List Str := ["Book", "Made", "NoGold", "NoRing", "NoRow", "NoSlip", "NoText", "NotThere", "NoWeight", "Nothing"]
abbrev ksA : List Str := ["BookError", "MadeError", "NoGold", "NoRing", "NoRow", "NoSlip", "NoText", "NotThere", "NoWeight", "Nothing", "TooMany", "Twice", "ValueError"]
abbrev kN : List Str := ["_law_e", "_law_some", "_law_words", "_law_k"]
abbrev kw2 : List Str := ["TooMany", "Twice", "+"]
def kindsB (sc : Scope) : List Stmt → Bool
  | [t1, t2, t3, t4, t5, t6, t7] => asgLB "_law_some" (fun es => isxsB sc "_law_e" es ks1) t1 && asgCB "_law_some" (fun es => isxsB sc "_law_e" es ks2) t2 && asgCB "_law_some" (fun es => isxsB sc "_law_e" es ks3) t3 && appB "_law_some" (fun e => isxB sc "_law_e" e "ValueError") t4 &&
    asgLB "_law_words" (fun es => consB es kw1) t5 && asgCB "_law_words" (fun es => consB es kw2) t6 && retB sc t7 && gloB sc "isinstance" && gloB sc "range" && visX sc "_law_e" && visX sc "_law_some" && visX sc "_law_words" && locX sc "_law_some" && locX sc "_law_words"
  | _ => false
/-- which answer isinstance gives -/
def knB (i : XI) (c : Str) : Bool := if c = "ValueError" then true else i.up.contains c
/-- the words that are told -/
def knW (i : XI) : List Str := (((kw1 ++ kw2).zip (ksA.map (knB i))).filterMap fun p => if p.2 then some p.1 else none)
theorem knW_ok : ∀ p ∈ xTab, Str.join " " (knW p.2) = p.2.kind ∧ ((knW p.2).map (·.length)).sum + (knW p.2).length * 1 ≤ 16777216 := by decide +kernel
/-- the context of the def's body -/
structure KnX (X : Cx) (p : Addr × Obj) (d : Option Addr) (D : Addr) (i : XI) (sc : Scope) : Prop where
  hN : X.N = kN
  hs : X.env.scope = sc
  fn : ∀ x, X.fn x = true
  pn : p ∈ X.pn
  hot : Hot1 X.A p
  ec : ExcC X.K D
  zc : Zc (.ref D) d p.2
  bi : X.mg "isinstance" = none
  br : X.mg "range" = none
  kn : ∀ c ∈ ksA, KnC X.K X.mg D c (knB i c)
section
variable {X : Cx} {p : Addr × Obj} {d : Option Addr} {D : Addr} {i : XI} {sc : Scope}
theorem KnX.nd (k : KnX X p d D i sc) : X.N.Nodup := by rw [k.hN]; decide +kernel
theorem KnX.hf (k : KnX X p d D i sc) : ∃ vs, p.2.data = .fields vs := k.hot.2.imp fun _ h => h.1
theorem KnX.gl (k : KnX X p d D i sc) {x : Str} (h : gloB sc x = true) : Gl X x := by
  show X.env.scope.names.lookup x = _
  rw [k.hs]
  exact of_decide_eq_true h
theorem KnX.var (k : KnX X p d D i sc) {j : Nat} {x : Str} {q : Pos} (h : kN[j]? = some x) (hv : visX sc x = true) (h1 : (x == ("__debug__" : Str)) = false) (h2 : (x == ("__classdict__" : Str)) = false) : PE X (.Name x q) (tVar j) :=
  pe_var (by rw [k.hN]; exact h) (by rw [k.hs]; exact visX_ok hv) h1 h2
theorem isx_pe (k : KnX X p d D i sc) (gi : gloB sc "isinstance" = true) (ve : visX sc "_law_e" = true) {e : Expr} {c : Str} (hc : c ∈ ksA) (h : isxB sc "_law_e" e c = true) : PE X e (tIsX p.1 d (knB i c)) := by
  unfold isxB at h
  split at h
  · simp only [Bool.and_eq_true] at h
    obtain ⟨⟨⟨h1, h2⟩, h3⟩, h4⟩ := h
    cases of_decide_eq_true h1
    cases of_decide_eq_true h2
    cases of_decide_eq_true h3
    exact pe_isX k.ec k.pn k.zc k.hf (k.gl gi) k.bi (by rw [k.hN]; rfl) (by rw [k.hs]; exact visX_ok ve) (by decide) (by decide) (k.kn _ hc) (k.gl h4)
  · cases h
def tIsXs (a : Addr) (d : Option Addr) (bs : List Bool) : TA := fun σ H Q => σ[0]? = some (some (.ref a)) ∧ XDk d H ∧ Q (bs.map V.bl) H
theorem isx_pa (k : KnX X p d D i sc) (gi : gloB sc "isinstance" = true) (ve : visX sc "_law_e" = true) : ∀ {es : List Expr} {cs : List Str}, (∀ c ∈ cs, c ∈ ksA) → isxsB sc "_law_e" es cs = true → PA X es (tIsXs p.1 d (cs.map (knB i)))
  | [], [], _, _ => paMono pa_nil fun σ H Q h => h.2.2
  | e :: es, c :: cs, hc, h => by
    unfold isxsB at h
    simp only [Bool.and_eq_true] at h
    exact paMono (pa_cons (isx_pe k gi ve (hc c List.mem_cons_self) h.1.2) (isx_pa k gi ve (fun z hz => hc z (List.mem_cons_of_mem _ hz)) h.2) (star_of h.1.1)) fun σ H Q ⟨h1, h2, h3⟩ => ⟨h1, h2, h1, h2, h3⟩
  | [], _ :: _, _, h => by cases h
  | _ :: _, [], _, h => by cases h
theorem con_pa : ∀ {es : List Expr} {cs : List Str}, consB es cs = true → PA X es (fun _ H Q => Q (cs.map V.str) H)
  | [], [], _ => pa_nil
  | .Constant (.str y) _ _ :: es, c :: cs, h => by
    unfold consB at h
    simp only [Bool.and_eq_true] at h
    cases of_decide_eq_true h.1
    exact paMono (pa_cons pe_str (con_pa h.2) (star_of rfl)) fun σ H Q h => h
  | [], _ :: _, h => by simp [consB] at h
  | e :: _, [], h => by cases e <;> simp [consB] at h
theorem asgL_ps (k : KnX X p d D i sc) {j : Nat} {x : Str} {f : List Expr → Bool} {st : Stmt} {t : TA} (hx : kN[j]? = some x) (hl : locX sc x = true) (h : asgLB x f st = true) (ht : ∀ es, f es = true → PA X es t) : PS X st (tAsg (tLst t) (gName j)) := by
  unfold asgLB at h
  split at h
  · simp only [Bool.and_eq_true] at h
    cases of_decide_eq_true h.1
    exact ps_set k.nd (by rw [k.hN]; exact hx) (by rw [k.hs]; exact locX_ok hl) (pe_lst (ht _ h.2)) (comp_of rfl) (.inl (k.fn _))
  · cases h
theorem asgC_ps (k : KnX X p d D i sc) {j : Nat} {x : Str} {f : List Expr → Bool} {st : Stmt} {t : TA} (hx : kN[j]? = some x) (hl : locX sc x = true) (hv : visX sc x = true) (h1 : (x == ("__debug__" : Str)) = false) (h2 : (x == ("__classdict__" : Str)) = false)
    (h : asgCB x f st = true) (ht : ∀ es, f es = true → PA X es t) : PS X st (tAsg (tOp rCat (tVar j) (tLst t)) (gName j)) := by
  unfold asgCB at h
  split at h
  · simp only [Bool.and_eq_true] at h
    cases of_decide_eq_true h.1.1
    cases of_decide_eq_true h.1.2
    exact ps_set k.nd (by rw [k.hN]; exact hx) (by rw [k.hs]; exact locX_ok hl) (pe_op op_cat (k.var hx hv h1 h2) (pe_lst (ht _ h.2))) (comp_of rfl) (.inl (k.fn _))
  · cases h
theorem app_ps (k : KnX X p d D i sc) {j : Nat} {x : Str} {f : Expr → Bool} {st : Stmt} {t : TE} (hx : kN[j]? = some x) (hv : visX sc x = true) (h1 : (x == ("__debug__" : Str)) = false) (h2 : (x == ("__classdict__" : Str)) = false)
    (h : appB x f st = true) (ht : ∀ e, f e = true → PE X e t) : PS X st (tDrop (tBM X.K "list" rAppend (tVar j) (tCons t tNil))) := by
  unfold appB at h
  split at h
  · simp only [Bool.and_eq_true] at h
    obtain ⟨⟨⟨⟨g1, g2⟩, g3⟩, g4⟩, g5⟩ := h
    cases of_decide_eq_true g1
    cases of_decide_eq_true g2
    exact ps_expr (pe_bm PySem.F.plainAttrs_list PySem.F.slot_list_append PySem.F.type_list_append mt_append (k.var hx hv h1 h2) (pa_cons (ht _ g5) pa_nil (star_of g4)) rfl (nostar_few (by unfold noStars; rw [List.all_cons, g4]; rfl) (show 1 < 29 by decide)) g3 (star_of g4) (nostar_anyB rfl)) (comp_of rfl)
  · cases h
def tKnT (K : Fg) : TT := tB (tOp (rIxL K) (tVar 1) (tVar 3))
def tKnE (K : Fg) : TE := tOp (rIxL K) (tVar 2) (tVar 3)
def tKnL (K : Fg) : TE := tLc (iRng1 (tCons (tC (.int 13)) tNil)) (gName 3) (tKnT K) (tKnE K) [3]
def rJoin (K : Fg) : V → List V → Hp → VK → Prop := fun x xs H Q => ∃ a p, ∃ ys : List Str, x = .str a ∧ xs = [.ref p] ∧ (SqL K H p (ys.map V.str) ∨ SqT K H p (ys.map V.str)) ∧ (ys.map (·.length)).sum + ys.length * a.length ≤ 16777216 ∧ Q (.str (Txt.join a ys)) H
theorem KnX.bvar (k : KnX X p d D i sc) {scope : Scope} {s : Shared} {H : Hp} {ce : Env} {fp : List Addr} {j : Nat} {x : Str} {q : Pos} (es : ce.scope = relS scope X.env.scope) (h : kN[j]? = some x) (hv : visX (relS scope sc) x = true) (h1 : (x == ("__debug__" : Str)) = false) (h2 : (x == ("__classdict__" : Str)) = false) :
    PE (blkH X p s H scope ce fp) (.Name x q) (tVar j) := pe_var (X := blkH X p s H scope ce fp) (show X.N[j]? = some x by rw [k.hN]; exact h) (by show Vis ce.scope x; rw [es, k.hs]; exact visX_ok hv) h1 h2
theorem ret_ps (k : KnX X p d D i sc) (gr : gloB sc "range" = true) {st : Stmt} (h : retB sc st = true) : PS X st (tRet (tM1 (rJoin X.K) (tC (.str " ")) (tKnL X.K))) := by
  unfold retB at h
  split at h
  · simp only [Bool.and_eq_true] at h
    obtain ⟨⟨⟨⟨⟨⟨⟨⟨⟨⟨⟨⟨⟨g1, g2⟩, g3⟩, g4⟩, g5⟩, g6⟩, g7⟩, g8⟩, g9⟩, g10⟩, g11⟩, g12⟩, g13⟩, g14⟩ := h
    cases of_decide_eq_true g1
    cases of_decide_eq_true g2
    cases of_decide_eq_true g4
    cases of_decide_eq_true g5
    cases of_decide_eq_true g6
    cases of_decide_eq_true g7
    cases of_decide_eq_true g8
    cases of_decide_eq_true g9
    cases of_decide_eq_true g10
    have bl := blkOk_by g11
    have vk := g12
    have vk := Bool.or_eq_true_iff.mpr (.inl vk) |> fun z => show visX (relS _ sc) "_law_k" = true from z
    exact ps_ret (pe_join pe_str (xpe_lc k.hot k.pn k.nd (pi_range1H (k.gl gr) k.br (pa_cons pe_int pa_nil)) (by rw [k.hN, k.hs]; exact bl)
      (fun s H ce fp es => pg_name (X := blkH X p s H _ ce fp) (i := 3) k.nd (show X.N[3]? = _ by rw [k.hN]; rfl) (.inl (by show ce.scope.names.lookup _ = _; rw [es, k.hs]; exact of_decide_eq_true g12)) (.inr (by show ce.scope.names.lookup _ = _; rw [es, k.hs]; exact of_decide_eq_true g12)))
      (fun s H ce fp es => pts_one (pt_val (pe_ix ix_list (k.bvar es rfl g14 (by decide) (by decide)) (k.bvar es rfl vk (by decide) (by decide)) (slice_of rfl))))
      (fun s H ce fp es => pe_ix ix_list (k.bvar es rfl g13 (by decide) (by decide)) (k.bvar es rfl vk (by decide) (by decide)) (slice_of rfl)) (fun x => rfl)) rfl rfl g3)
  · cases h
/-- the first k of the words that are told -/
def knA (i : XI) (k : Nat) : List V := (((kw1 ++ kw2).zip (ksA.map (knB i))).take k).filterMap fun p => if p.2 then some (V.str p.1) else none
theorem knA_end (i : XI) : knA i 13 = (knW i).map V.str := by
  unfold knA knW
  rw [List.take_of_length_le (by simp), List.map_filterMap]
  congr 1
  funext p
  cases p.2 <;> rfl
theorem atI_nx {α : Type} {xs : List α} {k : Nat} {v : α} (h : xs[k]? = some v) : atI xs (0 + (k : Int)) = some v := by
  have hl := (List.getElem?_eq_some_iff.mp h).1
  unfold atI ixN
  rw [if_pos (by omega), if_pos (by omega)]
  show xs[(0 + (k : Int)).toNat]? = _
  rw [show (0 + (k : Int)).toNat = k by omega]
  exact h
theorem knA_step {i : XI} {k : Nat} {w : Str} {b : Bool} (hw : (kw1 ++ kw2)[k]? = some w) (hb : (ksA.map (knB i))[k]? = some b) : knA i (k + 1) = knA i k ++ (if b then [V.str w] else []) := by
  unfold knA
  have : ((kw1 ++ kw2).zip (ksA.map (knB i)))[k]? = some (w, b) := by
    rw [List.getElem?_zip_eq_some]
    exact ⟨hw, hb⟩
  rw [List.take_succ, this, List.filterMap_append]
  cases b <;> rfl
theorem kn_ret {K : Fg} {i : XI} {c : Str} (ht : xTab.lookup c = some i) {σ : L2.St} {H : Hp} {ps pw : Addr} (hl : σ.length = 4) (h1 : σ[1]? = some (some (.ref ps))) (h2 : σ[2]? = some (some (.ref pw))) (e1 : H ps = some (.lst (ksA.map fun c => .bl (knB i c)))) (e2 : H pw = some (.lst ((kw1 ++ kw2).map .str)))
    {Q : VK} (q : ∀ J, Grow H J → Q (.str i.kind) J) : tM1 (rJoin K) (tC (.str " ")) (tKnL K) σ H Q := by
  refine ⟨⟨_, rfl⟩, 13, rfl, by decide, by decide, fun L nL => ?_⟩
  refine ⟨fun k m J => m = 13 - k ∧ k ≤ 13 ∧ Grow H J ∧ J L = some (.lst (knA i k)), ⟨13, rfl, by omega, (Grow.refl H).upd nL _, upd_same⟩, ?_⟩
  rintro k m J ⟨hm, hk, g, at_⟩
  by_cases h13 : k < 13
  · refine .inr ⟨h13, fun J' => k + 1 ≤ 13 ∧ Grow H J' ∧ J' L = some (.lst (knA i (k + 1))), fun J' ⟨a1, a2, a3⟩ => ⟨13 - (k + 1), by omega, rfl, a1, a2, a3⟩, ?_⟩
    rintro x J' ⟨rfl, rfl⟩
    obtain ⟨w, hw⟩ : ∃ w, (kw1 ++ kw2)[k]? = some w := ⟨_, List.getElem?_eq_getElem (show k < (kw1 ++ kw2).length from h13)⟩
    obtain ⟨b, hb⟩ : ∃ b, (ksA.map (knB i))[k]? = some b := ⟨_, List.getElem?_eq_getElem (show k < (ksA.map (knB i)).length by simpa using h13)⟩
    have s3 : ∀ {v : V}, ((wipe σ [3]).set 3 (some v))[3]? = some (some v) := fun {v} => List.getElem?_set_self (by rw [wipe_length]; omega)
    have sx : ∀ {v : V} {j : Nat}, j ≠ 3 → ((wipe σ [3]).set 3 (some v))[j]? = σ[j]? := fun {v j} hj => by
      show ((σ.set 3 none).set 3 (some v))[j]? = _
      rw [List.set_set, List.getElem?_set_ne (Ne.symm hj)]
    refine ⟨by show ((σ.set 3 none).set 3 _).set 3 none = σ.set 3 none; rw [List.set_set, List.set_set], ?_⟩
    have hb2 : (ksA.map fun c => V.bl (knB i c))[k]? = some (.bl b) := by
      rw [List.getElem?_map] at hb ⊢
      obtain ⟨z, hz, rfl⟩ := Option.map_eq_some_iff.mp hb
      rw [hz]
      rfl
    refine ⟨.ref ps, by rw [sx (by decide)]; exact h1, .int (0 + (k : Int)), s3, ps, _, _, .bl b, rfl, rfl, SqL.of (g _ _ e1), atI_nx hb2, b, rfl, ?_⟩
    have st := knA_step hw hb
    cases b with
    | false =>
      show k + 1 ≤ 13 ∧ _
      rw [st]
      refine ⟨h13, g, ?_⟩
      rw [at_]
      show _ = some (HO.lst (knA i k ++ []))
      rw [List.append_nil]
    | true =>
      refine ⟨.ref pw, by rw [sx (by decide)]; exact h2, .int (0 + (k : Int)), s3, pw, _, _, .str w, rfl, rfl, SqL.of (g _ _ e2), atI_nx (by rw [List.getElem?_map, hw]; rfl), knA i k, at_, ?_, h13, g.upd nL _, ?_⟩
      · have : (knA i k).length ≤ 13 := by
          unfold knA
          refine Nat.le_trans (List.length_filterMap_le _ _) ?_
          rw [List.length_take]
          omega
        rw [sizeLine_eq]
        omega
      · rw [upd_same, st]
        rfl
  · have hk13 : k = 13 := by omega
    subst hk13
    have ok := knW_ok _ (PySem.mem_of_lookup ht)
    refine .inl ⟨Nat.le_refl _, " ", L, knW i, rfl, rfl, .inl (SqL.of (by rw [at_, knA_end])), ok.2, ?_⟩
    rw [TL.join_eq, ok.1]
    exact q _ g
end
section
variable {P : Program} {w : World} {K : Fg} {mg : Mg} {base : Heap} {params : Arguments} {body : List Stmt} {scope : Scope} {dvs : List V} {kws : List (Str × V)} {fa : Addr} {fd : FuncData}
/-- where the body stands: the bools, the words -/
structure KSt (a : Addr) (d : Option Addr) (H0 : Hp) (l : List V) (m : Option (List V)) (σ : L2.St) (H : Hp) : Prop where
  len : σ.length = 4
  e : σ[0]? = some (some (.ref a))
  dk : XDk d H
  g : Grow H0 H
  some_ : ∃ q, σ[1]? = some (some (.ref q)) ∧ H q = some (.lst l) ∧ H0 q = none
  words : ∀ ys, m = some ys → ∃ q, σ[2]? = some (some (.ref q)) ∧ H q = some (.lst ys)
theorem few {n : Nat} (h : n ≤ 40) : n ≤ sizeLine := by rw [sizeLine_eq]; omega
section
variable {a : Addr} {d : Option Addr} {H0 H : Hp} {l : List V} {m : Option (List V)} {σ : L2.St} {E : Ends}
theorem ks_asg {bs : List Bool} (hl : σ.length = 4) (he : σ[0]? = some (some (.ref a))) (dk : XDk d H) (hb : bs.length ≤ 20) (h : ∀ σ' H', KSt a d H (bs.map V.bl) none σ' H' → E.nx σ' H') : tAsg (tLst (tIsXs a d bs)) (gName 1) E σ H := by
  refine ⟨he, dk, few (by rw [List.length_map]; omega), fun q n => h _ _ ⟨by rw [List.length_set, hl], by rw [List.getElem?_set_ne (by decide), he], dk.grow ((Grow.refl H).upd n _), (Grow.refl H).upd n _, ⟨q, List.getElem?_set_self (by omega), upd_same, n⟩, fun ys z => by cases z⟩⟩
theorem ks_cat {bs : List Bool} (k : KSt a d H0 l none σ H) (h1 : l.length ≤ 20) (hb : bs.length ≤ 20) (h : ∀ σ' H', KSt a d H0 (l ++ bs.map V.bl) none σ' H' → E.nx σ' H') : tAsg (tOp rCat (tVar 1) (tLst (tIsXs a d bs))) (gName 1) E σ H := by
  obtain ⟨q, hq, at_, nq⟩ := k.some_
  refine ⟨.ref q, hq, k.e, k.dk, few (by rw [List.length_map]; omega), fun p2 n2 => ⟨q, p2, l, _, rfl, rfl, by rw [upd_ne (ne_of_none at_ n2)]; exact at_, upd_same, few (by rw [List.length_map]; omega), fun p3 n3 => h _ _ ?_⟩⟩
  have g2 := k.g.upd (k.g.none n2) (.lst (bs.map V.bl))
  have g3 : Grow H0 _ := g2.upd (g2.none n3) (.lst (l ++ bs.map V.bl))
  exact ⟨by rw [List.length_set, k.len], by rw [List.getElem?_set_ne (by decide), k.e], (k.dk.grow ((Grow.refl H).upd n2 _)).grow ((Grow.refl _).upd n3 _), g3, ⟨p3, List.getElem?_set_self (by rw [k.len]; decide), upd_same, g2.none n3⟩, fun ys z => by cases z⟩
theorem ks_app {K : Fg} {b : Bool} (k : KSt a d H0 l none σ H) (h1 : l.length ≤ 20) (hd : ∀ dd, d = some dd → ∃ fs, H0 dd = some (.xd fs)) (h : ∀ H', KSt a d H0 (l ++ [.bl b]) none σ H' → E.nx σ H') : tDrop (tBM K "list" rAppend (tVar 1) (tCons (tIsX a d b) tNil)) E σ H := by
  obtain ⟨q, hq, at_, nq⟩ := k.some_
  have g2 := k.g.upd nq (.lst (l ++ [V.bl b]))
  have dk2 : XDk d (upd H q (.lst (l ++ [V.bl b]))) := by
    cases e : d with
    | none => exact .inl rfl
    | some dd =>
      obtain ⟨fs, hf⟩ := hd dd e
      exact .inr ⟨dd, fs, rfl, g2 _ _ hf⟩
  exact ⟨.ref q, hq, .inl ⟨rfl, l, SqL.of at_⟩, k.e, k.dk, q, l, _, rfl, rfl, at_, by rw [sizeLine_eq]; omega, h _ ⟨k.len, k.e, dk2, g2, ⟨q, hq, upd_same, nq⟩, fun ys z => by cases z⟩⟩
theorem ks_wasg {ws : List Str} (k : KSt a d H0 l none σ H) (hw : ws.length ≤ 20) (h : ∀ σ' H', KSt a d H0 l (some (ws.map V.str)) σ' H' → E.nx σ' H') : tAsg (tLst (fun _ H Q => Q (ws.map V.str) H)) (gName 2) E σ H := by
  obtain ⟨q, hq, at_, nq⟩ := k.some_
  refine ⟨few (by rw [List.length_map]; omega), fun p2 n2 => h _ _ ⟨by rw [List.length_set, k.len], by rw [List.getElem?_set_ne (by decide), k.e], k.dk.grow ((Grow.refl H).upd n2 _), k.g.upd (k.g.none n2) _, ⟨q, by rw [List.getElem?_set_ne (by decide)]; exact hq, by rw [upd_ne (ne_of_none at_ n2)]; exact at_, nq⟩, fun ys z => ?_⟩⟩
  cases z
  exact ⟨p2, List.getElem?_set_self (by rw [k.len]; decide), upd_same⟩
theorem ks_wcat {ws : List Str} {ys : List V} (k : KSt a d H0 l (some ys) σ H) (h1 : ys.length ≤ 20) (hw : ws.length ≤ 20) (h : ∀ σ' H', KSt a d H0 l (some (ys ++ ws.map V.str)) σ' H' → E.nx σ' H') : tAsg (tOp rCat (tVar 2) (tLst (fun _ H Q => Q (ws.map V.str) H))) (gName 2) E σ H := by
  obtain ⟨q, hq, at_, nq⟩ := k.some_
  obtain ⟨u, hu, au⟩ := k.words ys rfl
  refine ⟨.ref u, hu, few (by rw [List.length_map]; omega), fun p2 n2 => ⟨u, p2, ys, _, rfl, rfl, by rw [upd_ne (ne_of_none au n2)]; exact au, upd_same, few (by rw [List.length_map]; omega), fun p3 n3 => h _ _ ?_⟩⟩
  have g2 := k.g.upd (k.g.none n2) (.lst (ws.map V.str))
  refine ⟨by rw [List.length_set, k.len], by rw [List.getElem?_set_ne (by decide), k.e], (k.dk.grow ((Grow.refl H).upd n2 _)).grow ((Grow.refl _).upd n3 _), g2.upd (g2.none n3) _, ⟨q, by rw [List.getElem?_set_ne (by decide)]; exact hq, ?_, nq⟩, fun zs z => ?_⟩
  · have a2 : upd H p2 (.lst (ws.map V.str)) q = some (.lst l) := by rw [upd_ne (ne_of_none at_ n2)]; exact at_
    rw [upd_ne (ne_of_none a2 n3)]
    exact a2
  · cases z
    exact ⟨p3, List.getElem?_set_self (by rw [k.len]; decide), upd_same⟩
end
/-- the def does what the law's word for kinds says -/
theorem kn_ok {lv : Nat} (F : FunD K "_law_kinds" "_law_kinds" params body scope dvs kws fa fd) (S : FnScope kN ["_law_e"] scope) (hb : kindsB scope body = true) (bi : mg "isinstance" = none) (br : mg "range" = none)
    (ex : ∀ c i C, xTab.lookup c = some i → mg c = some (.ref C) → ExcC K C ∧ ∀ k ∈ ksA, KnC K mg C k (knB i k)) : KnOk P w K mg base (lv + 1) fa fd := by
  intro A outer s H args Q p C d c i hr hot hpin e0 hbind zc ht mc dk q
  obtain ⟨oc, od, dV, kV, doc, pm, an, cdv, ct, osl, rfl, lk, hcd, _, _⟩ := F.ex
  have KX : K.In s.heap := e0.mod.kin.keeps fun b o e => (e0.bs b o e).1
  have lim : s.heap.NoLimit := e0.mod.nolimit.keeps fun b o e => (e0.bs b o e).1
  have hkind : ∀ y ∈ (["_law_e"] : List Str).zip [Value.ref p.1], scope.names.lookup y.1 = some .local ∨ (scope.names.lookup y.1 = some .cell ∧ ((cellsFrom (s.heap.objs.size + 1) scope.names []).lookup y.1).isSome = true) := fun ⟨n, v⟩ hy =>
    (S.par n (List.of_mem_zip hy).1).imp id fun z => ⟨z, PySem.W.cellsFrom_some _ _ _ (.inl z)⟩
  refine codeAny_call_function hr.depth (KX _ _ lk) rfl S.co S.gen rfl (PySem.W.codeRec_of KX hcd) (hbind _ _ _ _ (wpAny_newFunctionEnv_cells S.kind hkind fun env he s1 x => ?_))
  subst he
  refine ⟨lim.keeps x.toInCall.keep, codeAny_func ?_⟩
  let X := cxH (L2N.CX P w) P w K mg base kN "_law_kinds" scope fa cdv A outer s H (fun _ _ _ => False) p
  have I : Inv X [] (L2.start kN [.ref p.1]) H s1 := inv_startH S hpin e0 rfl (.cons rfl .nil) x
  obtain ⟨ec, kn⟩ := ex c i C ht mc
  have k : KnX X p d C i scope := { hN := rfl, hs := rfl, fn := fun _ => rfl, pn := List.mem_singleton_self _, hot := hot, ec := ec, zc := zc, bi := bi, br := br, kn := kn }
  unfold kindsB at hb
  split at hb
  · rename_i t1 t2 t3 t4 t5 t6 t7
    simp only [Bool.and_eq_true] at hb
    obtain ⟨⟨⟨⟨⟨⟨⟨⟨⟨⟨⟨⟨⟨b1, b2⟩, b3⟩, b4⟩, b5⟩, b6⟩, b7⟩, gi⟩, gr⟩, ve⟩, vs⟩, vw⟩, ls⟩, lw⟩ := hb
    have body := pss_cons (asgL_ps k (j := 1) (t := tIsXs p.1 d (ks1.map (knB i))) rfl ls b1 fun es h => isx_pa k gi ve (by decide +kernel) h)
      (pss_cons (asgC_ps k (j := 1) (t := tIsXs p.1 d (ks2.map (knB i))) rfl ls vs (by decide) (by decide) b2 fun es h => isx_pa k gi ve (by decide +kernel) h)
      (pss_cons (asgC_ps k (j := 1) (t := tIsXs p.1 d (ks3.map (knB i))) rfl ls vs (by decide) (by decide) b3 fun es h => isx_pa k gi ve (by decide +kernel) h)
      (pss_cons (app_ps k (j := 1) (t := tIsX p.1 d (knB i "ValueError")) rfl vs (by decide) (by decide) b4 fun e h => isx_pe k gi ve (by decide +kernel) h)
      (pss_cons (asgL_ps k (j := 2) (t := fun _ H Q => Q (kw1.map V.str) H) rfl lw b5 fun es h => con_pa h)
      (pss_cons (asgC_ps k (j := 2) (t := fun _ H Q => Q (kw2.map V.str) H) rfl lw vw (by decide) (by decide) b6 fun es h => con_pa h)
      (pss_one (ret_ps k gr b7)))))))
    have fin : ∀ {σ' : L2.St} {H' : Hp} {v : V} {u : Value} {s' : Shared}, Inv X [] σ' H' s' → RelV v u → Q v H' → CE outer P w H s Q u s' := fun {σ' H' v u s'} J rv q => ⟨v, H', J.os, J.bare, J.base, J.hok, rv, q⟩
    refine wpAny_mono (body.run [] s1 (L2.start kN [.ref p.1]) H { nx := fun _ _ => False, rt := Q } I ?_) (fun fl s' hs => ?_) fun e s' hs => hs
    · have hd : ∀ dd, d = some dd → ∃ fs, H dd = some (.xd fs) := fun dd e => by
        rcases dk with z | ⟨d2, fs, e2, z⟩
        · rw [e] at z; cases z
        · rw [e] at e2; cases e2; exact ⟨fs, z⟩
      refine ks_asg rfl rfl dk (by simp) fun σ1 H1 k1 => ?_
      refine ks_cat k1 (by simp) (by simp) fun σ2 H2 k2 => ?_
      refine ks_cat k2 (by simp) (by simp) fun σ3 H3 k3 => ?_
      refine ks_app k3 (by simp) hd fun H4 k4 => ?_
      refine ks_wasg k4 (by simp) fun σ5 H5 k5 => ?_
      refine ks_wcat k5 (by simp) (by simp) fun σ6 H6 k6 => ?_
      obtain ⟨ps, s1, s2, _⟩ := k6.some_
      obtain ⟨pw, w1, w2⟩ := k6.words _ rfl
      exact kn_ret ht k6.len s1 w1 (by rw [s2]; simp) (by rw [w2, List.map_append]) fun J g => q J (k6.g.trans g)
    · cases fl with
      | ret u =>
        obtain ⟨v, σ', H', J, rv, z⟩ := hs
        exact fin J rv z
      | next => obtain ⟨σ', H', J, z⟩ := hs; exact z.elim
      | brk => obtain ⟨_, _, _, z⟩ := hs; exact z.elim
      | cont => obtain ⟨_, _, _, z⟩ := hs; exact z.elim
  · cases hb
end
end Vm
set_option Elab.async false
set_option linter.all false
set_option maxRecDepth 100000
set_option maxHeartbeats 4000000
/-! A text's table, put together. -/
namespace Vm
open PySem L2
def tbOf (fns cls : List (Str × Fd)) (mts : List ((Str × Str) × Fd)) (gls : List (Str × W)) (bi eq isc : List Str) (xn : Bool := false) (xh : List Str := []) (kn : Bool := false) (kw : Str → Option (List Str × List Nat) := fun _ => none) : Tb := ⟨fun x => gls.lookup x, fun x => fns.lookup x, fun x => cls.lookup x, fun c m => mts.lookup (c, m), bi, eq, isc, true, xn, xh, kn, kw⟩
def flOf (l : List (Str × List Str)) : Str → List Str := fun c => (l.lookup c).getD []
theorem mem_lk {α β : Type} [BEq α] [LawfulBEq α] {x : α} {y : β} : ∀ {l : List (α × β)}, l.lookup x = some y → (x, y) ∈ l
  | [], h => by cases h
  | (a, b) :: l, h => by
    rw [List.lookup_cons] at h
    cases e : x == a with
    | true => rw [e] at h; cases h; rw [eq_of_beq e]; exact List.mem_cons_self ..
    | false => rw [e] at h; exact List.mem_cons_of_mem _ (mem_lk h)
theorem allc {α : Type} {Q : α → Prop} {a : α} {l : List α} (h : Q a) (t : ∀ p ∈ l, Q p) : ∀ p ∈ a :: l, Q p := fun p hp => by
  rcases List.mem_cons.mp hp with e | hp
  · rw [e]; exact h
  · exact t p hp
theorem alln {α : Type} {Q : α → Prop} : ∀ p ∈ ([] : List α), Q p := fun p hp => by cases hp
/-- what the head is asked -/
def faOf (fns bi cls : List Str) (noat meth : List (Str × Str)) (izs : List (Str × Int)) (szs : List (Str × Str)) : List He.Fa :=
  fns.map .glo ++ (bi.map .free ++ (cls.map .glo ++ (cls.map .cls ++ (cls.map .mkr ++ (noat.map (fun p => .noat p.1 p.2) ++ (meth.map (fun p => .meth p.1 p.2) ++ (izs.map (fun p => .int p.1 p.2) ++ szs.map fun p => .str p.1 p.2)))))))
section
variable {K : Fg} {mg : Mg} {h : Heap} {fns bi cls : List Str} {noat meth : List (Str × Str)} {izs : List (Str × Int)} {szs : List (Str × Str)} {tp : TpF} {fn : List He.DefD} {T : Tb}
theorem fa_glo {x : Str} (hx : x ∈ fns) : He.Fa.glo x ∈ faOf fns bi cls noat meth izs szs := by
  unfold faOf
  exact List.mem_append_left _ (List.mem_map_of_mem hx)
theorem fa_free {x : Str} (hx : x ∈ bi) : He.Fa.free x ∈ faOf fns bi cls noat meth izs szs := by
  unfold faOf
  exact List.mem_append_right _ (List.mem_append_left _ (List.mem_map_of_mem hx))
theorem fa_cglo {x : Str} (hx : x ∈ cls) : He.Fa.glo x ∈ faOf fns bi cls noat meth izs szs := by
  unfold faOf
  exact List.mem_append_right _ (List.mem_append_right _ (List.mem_append_left _ (List.mem_map_of_mem hx)))
theorem fa_cls {x : Str} (hx : x ∈ cls) : He.Fa.cls x ∈ faOf fns bi cls noat meth izs szs := by
  unfold faOf
  exact List.mem_append_right _ (List.mem_append_right _ (List.mem_append_right _ (List.mem_append_left _ (List.mem_map_of_mem hx))))
theorem fa_mkr {x : Str} (hx : x ∈ cls) : He.Fa.mkr x ∈ faOf fns bi cls noat meth izs szs := by
  unfold faOf
  exact List.mem_append_right _ (List.mem_append_right _ (List.mem_append_right _ (List.mem_append_right _ (List.mem_append_left _ (List.mem_map_of_mem hx)))))
theorem fa_noat {p : Str × Str} (hx : p ∈ noat) : He.Fa.noat p.1 p.2 ∈ faOf fns bi cls noat meth izs szs := by
  unfold faOf
  exact List.mem_append_right _ (List.mem_append_right _ (List.mem_append_right _ (List.mem_append_right _ (List.mem_append_right _ (List.mem_append_left _ (List.mem_map_of_mem (f := fun p => He.Fa.noat p.1 p.2) hx))))))
theorem fa_meth {p : Str × Str} (hx : p ∈ meth) : He.Fa.meth p.1 p.2 ∈ faOf fns bi cls noat meth izs szs := by
  unfold faOf
  exact List.mem_append_right _ (List.mem_append_right _ (List.mem_append_right _ (List.mem_append_right _ (List.mem_append_right _ (List.mem_append_right _ (List.mem_append_left _ (List.mem_map_of_mem (f := fun p => He.Fa.meth p.1 p.2) hx)))))))
theorem fa_int {p : Str × Int} (hx : p ∈ izs) : He.Fa.int p.1 p.2 ∈ faOf fns bi cls noat meth izs szs := by
  unfold faOf
  exact List.mem_append_right _ (List.mem_append_right _ (List.mem_append_right _ (List.mem_append_right _ (List.mem_append_right _ (List.mem_append_right _ (List.mem_append_right _ (List.mem_append_left _ (List.mem_map_of_mem (f := fun p => He.Fa.int p.1 p.2) hx))))))))
theorem fa_str {p : Str × Str} (hx : p ∈ szs) : He.Fa.str p.1 p.2 ∈ faOf fns bi cls noat meth izs szs := by
  unfold faOf
  exact List.mem_append_right _ (List.mem_append_right _ (List.mem_append_right _ (List.mem_append_right _ (List.mem_append_right _ (List.mem_append_right _ (List.mem_append_right _ (List.mem_append_right _ (List.mem_map_of_mem (f := fun p => He.Fa.str p.1 p.2) hx))))))))
/-- a def without defaults -/
theorem defE_none {fa : List He.Fa} {dd : He.DefD} {d : Fd} {N ps : List Str} {fuel i : Nat} (c : SaysV fa tp fn K) (hi : fn[i]? = some dd) (hz : dd.dfl = []) (hs : FnScope N ps dd.scope) (hN : N.length = d.ns) (hl : ps.length = d.np) (h0 : d.dfl = [])
    (hb : chkB T fuel N dd.scope dd.body d.body = true)
    (bd : ∀ (kV doc pm : Value) (an : Option Addr) (cdv ct : Value) (us : List Value), us.length = ps.length → bindArgs (PySem.W.fnOf dd.name dd.qual dd.params dd.body dd.scope .none kV doc pm an cdv ct) ⟨us, []⟩ = pure (ps.zip us)) :
    ∃ fd, (∀ (s : Shared) (us : List Value), us.length = ps.length → BindsTo s fd ⟨us, []⟩ (ps.zip us)) ∧ PySem.W.keepIn K (.ref (He.fAd K dd.at_)) = true ∧ DefE K T (He.fAd K dd.at_) fd ps d := by
  obtain ⟨fd, F⟩ := c.def_ i hi
  have e : dd.dvs K = [] := by unfold He.DefD.dvs; rw [hz]; rfl
  rw [e] at F
  exact ⟨fd, fun s us hu => F.bindsA bd s us hu, F.kp, ⟨_, _, _, _, _, _, _, N, fuel, F, hs, hN, hb⟩, dk_none F hl h0 bd⟩
theorem conVs_drop : ∀ {l : List W} {vs : List V}, conVs l = some vs → ∀ k, conVs (l.drop k) = some (vs.drop k)
  | _, _, h, 0 => h
  | [], _, h, k + 1 => by cases h; rfl
  | w :: l, vs, h, k + 1 => by
    unfold conVs at h
    split at h
    · rename_i v vs' e1 e2
      cases h
      exact conVs_drop e2 k
    · cases h
theorem conVs_len : ∀ {l : List W} {vs : List V}, conVs l = some vs → l.length = vs.length
  | [], _, h => by cases h; rfl
  | w :: l, vs, h => by
    unfold conVs at h
    split at h
    · rename_i v vs' e1 e2
      cases h
      simp [conVs_len e2]
    · cases h
/-- a def with defaults -/
theorem defE_some {fa : List He.Fa} {dd : He.DefD} {d : Fd} {N ps : List Str} {fuel i : Nat} (c : SaysV fa tp fn K) (hi : fn[i]? = some dd) {dv : List V} (hz : ∀ K, dd.dvs K = dv) (hne : dv ≠ []) (hv : conVs d.dfl = some dv) (hs : FnScope N ps dd.scope) (hN : N.length = d.ns) (hl : ps.length = d.np)
    (hnp : d.dfl.length ≤ d.np) (hb : chkB T fuel N dd.scope dd.body d.body = true)
    (bd : ∀ k, k ≤ d.dfl.length → ∀ (T : Addr) (kV doc pm : Value) (an : Option Addr) (cdv ct : Value) (us its : List Value), us.length = d.np - (d.dfl.length - k) → its.length = dv.length →
      ∃ g, bindArgs (PySem.W.fnOf dd.name dd.qual dd.params dd.body dd.scope (.ref T) kV doc pm an cdv ct) ⟨us, []⟩ = seqItems? (.ref T) >>= g ∧ g (some its.toArray) = pure (ps.zip (us ++ its.drop k))) :
    ∃ fd, True ∧ PySem.W.keepIn K (.ref (He.fAd K dd.at_)) = true ∧ DefE K T (He.fAd K dd.at_) fd ps d := by
  obtain ⟨fd, F⟩ := c.def_ i hi
  rw [hz K] at F
  exact ⟨fd, trivial, F.kp, ⟨_, _, _, _, _, _, _, N, fuel, F, hs, hN, hb⟩, dk_some F hl hne hv (fun k _ => conVs_drop hv k) (conVs_len hv) hnp bd⟩
theorem fn_ent {f : Str} {ps : List Str} {d : Fd} {B : FuncData → Prop} (X : K.In h) (G : h.Ns mainGlobals mg) (hg : He.Fa.ok K (.glo f) = true) (e : ∃ fd, B fd ∧ PySem.W.keepIn K (.ref (He.fAd K (f, none))) = true ∧ DefE K T (He.fAd K (f, none)) fd ps d) :
    ∃ fa fd ps, mg f = some (.ref fa) ∧ PySem.W.keepIn K (.ref fa) = true ∧ DefE K T fa fd ps d := by
  obtain ⟨fd, _, k, e⟩ := e
  exact ⟨He.ga K f, fd, ps, He.glo_ok X G hg, k, e⟩
theorem cl_ent {c : Str} {ps : List Str} {d : Fd} {B : FuncData → Prop} (X : K.In h) (G : h.Ns mainGlobals mg) (hg : He.Fa.ok K (.glo c) = true) (h2 : He.Fa.ok K (.cls c) = true) (h3 : He.Fa.ok K (.mkr c) = true)
    (e : ∃ fd, B fd ∧ PySem.W.keepIn K (.ref (He.fAd K (c, some "__init__"))) = true ∧ DefE K T (He.fAd K (c, some "__init__")) fd ps d) :
    ∃ C fa fd ps, mg c = some (.ref C) ∧ Mk K C fa ∧ Cls K C ∧ DefE K T fa fd ps d := by
  obtain ⟨fd, _, k, e⟩ := e
  exact ⟨He.ga K c, _, fd, ps, He.glo_ok X G hg, He.mkr_ok h3, He.cls_ok h2, e⟩
theorem mt_ent {c m : Str} {ps : List Str} {d : Fd} {B : FuncData → Prop} (X : K.In h) (G : h.Ns mainGlobals mg) (hg : He.Fa.ok K (.glo c) = true) (h2 : He.Fa.ok K (.cls c) = true) (h3 : He.Fa.ok K (.meth c m) = true)
    (e : ∃ fd, B fd ∧ PySem.W.keepIn K (.ref (He.fAd K (c, some m))) = true ∧ DefE K T (He.fAd K (c, some m)) fd ps d) :
    ∃ C fa fd ps, mg c = some (.ref C) ∧ Cls K C ∧ Meth K C m fa ∧ DefE K T fa fd ps d := by
  obtain ⟨fd, _, k, e⟩ := e
  exact ⟨He.ga K c, _, fd, ps, He.glo_ok X G hg, He.cls_ok h2, He.meth_ok h3, e⟩
/-- the table holds of the module -/
theorem mod_of {fnd cld : List (Str × Fd)} {mtd : List ((Str × Str) × Fd)} {gls : List (Str × W)} {fll : List (Str × List Str)} {T' : Tb} {eqs iscs : List Str} {xn : Bool} {xh : List Str} {kn : Bool} {kw : Str → Option (List Str × List Nat)} (X : K.In h) (G : h.Ns mainGlobals mg) (c : SaysV (faOf fns bi cls noat meth izs szs) tp fn K) (hT : T' = tbOf fnd cld mtd gls bi eqs iscs xn xh kn kw)
    (hf : ∀ p ∈ fnd, ∃ fa fd ps, mg p.1 = some (.ref fa) ∧ PySem.W.keepIn K (.ref fa) = true ∧ DefE K T' fa fd ps p.2)
    (hc : ∀ p ∈ cld, (fnd.lookup p.1 = none ∧ p.1 ≠ Str.empty) ∧ ∃ C fa fd ps, mg p.1 = some (.ref C) ∧ Mk K C fa ∧ Cls K C ∧ DefE K T' fa fd ps p.2)
    (hm : ∀ p ∈ mtd, (p.1.1 ≠ Str.empty ∧ p.1.2 ≠ "__init__") ∧ ∃ C fa fd ps, mg p.1.1 = some (.ref C) ∧ Cls K C ∧ Meth K C p.1.2 fa ∧ DefE K T' fa fd ps p.2)
    (hg : ∀ p ∈ gls, ∃ v u, mg p.1 = some u ∧ RelV v u ∧ ∀ io H, Rep K mg io H p.2 v)
    (hl : ∀ p ∈ fll, p.1 ∈ cls ∧ ∀ f ∈ p.2, (p.1, f) ∈ noat) (he : ∀ c ∈ eqs, c ∈ cls ∧ (∃ d, mtd.lookup (c, ("__eq__" : Str)) = some d ∧ d.np = 2) ∧ Xf.ne c ∈ tp.ex) (hi : ∀ c ∈ iscs, (c ∈ cls ∧ Xf.isi c ∈ tp.ex) ∧ ∀ d ∈ iscs, Xf.pr d c ∈ tp.ex)
    (hxs : xn = true → ∀ Y : Cx, Y.K = K → Y.mg = mg → XsOk Y 1 xh) (hkn : kn = true → ∃ fa fd, mg "_law_kinds" = some (.ref fa) ∧ PySem.W.keepIn K (.ref fa) = true ∧ Binds K fd ["_law_e"] [] ∧ ∀ P w base, KnOk P w K mg base 1 fa fd)
    (hkw : ∀ c ks pm, kw c = some (ks, pm) → fnd.lookup c = none ∧ c ≠ Str.empty ∧ ∃ d C fa fd ps, cld.lookup c = some d ∧ mg c = some (.ref C) ∧ Mk K C fa ∧ Cls K C ∧ DefE K T' fa fd ps d ∧ KBn K fd ps 1 ks (fun us ws => us ++ pm.filterMap (ws[·]?)) (fun vs zs => vs ++ pm.filterMap (zs[·]?)) ∧ pm.length + 1 = d.np ∧ ∀ i ∈ pm, i < ks.length := by intro c ks pm h; cases h) : ModF K mg T' (flOf fll) := by
  subst hT
  refine ⟨fun x hx => ?_, fun x w e => ?_, fun f d e => ?_, fun k d e => ?_, fun k m d e => ?_, fun k f hf' C hC => ?_, fun k hk => ?_, fun Y eK eM k hk => ?_, fun k hk C hC t ht => ?_, hxs, hkw, hkn⟩
  · exact He.free_ok X G (c.fact (fa_free (List.contains_iff_mem.mp hx)))
  · exact hg _ (PySem.mem_of_lookup e)
  · exact hf _ (PySem.mem_of_lookup e)
  · obtain ⟨⟨h1, h2⟩, h3⟩ := hc _ (PySem.mem_of_lookup e)
    exact ⟨h1, h2, h3⟩
  · have e : mtd.lookup (k, m) = some d := e
    have q : ((k, m), d) ∈ mtd := mem_lk e
    obtain ⟨⟨h1, h2⟩, h3⟩ := hm ((k, m), d) q
    exact ⟨h1, h2, h3⟩
  · unfold flOf at hf'
    cases e : fll.lookup k with
    | none => rw [e] at hf'; cases hf'
    | some l =>
      rw [e] at hf'
      obtain ⟨h1, h2⟩ := hl _ (PySem.mem_of_lookup e)
      have h3 := He.glo_ok X G (c.fact (fa_cglo h1))
      rw [h3] at hC
      cases hC
      exact He.noat_ok (c.fact (fa_noat (h2 f hf')))
  · obtain ⟨h1, ⟨d, h2, h3⟩, h4⟩ := he k (List.contains_iff_mem.mp hk)
    have q := c.ex h4
    unfold Xf.ok at q
    simp only [Bool.and_eq_true] at q
    exact ⟨d, h2, h3, _, He.glo_ok X G (c.fact (fa_cglo h1)), of_decide_eq_true q.1⟩
  · subst eK eM
    obtain ⟨⟨h1, h2⟩, h3⟩ := hi k (List.contains_iff_mem.mp hk)
    have f := c.ex h2
    unfold Xf.ok at f
    simp only [Bool.and_eq_true] at f
    obtain ⟨⟨⟨f1, f2⟩, f3⟩, f4⟩ := f
    refine ⟨_, He.glo_ok X G (c.fact (fa_cglo h1)), of_decide_eq_true f1, of_decide_eq_true f2, of_decide_eq_true f3, fun t ht => ?_, fun d hd E hE => ?_⟩
    · have m : t ∈ ["NoneType", "bool", "int", "str", "tuple", "list", "dict"] := by
        rcases ht with rfl | rfl | rfl | rfl | rfl | rfl | rfl <;> simp
      exact of_decide_eq_true (List.all_eq_true.mp f4 t m)
    · obtain ⟨⟨h4, _⟩, _⟩ := hi d hd
      rw [He.glo_ok X G (c.fact (fa_cglo h4))] at hE
      cases hE
      exact of_decide_eq_true (c.ex (h3 d hd))
  · obtain ⟨h1, _, h4⟩ := he k (List.contains_iff_mem.mp hk)
    have q := c.ex h4
    unfold Xf.ok at q
    simp only [Bool.and_eq_true] at q
    have hC2 := He.glo_ok X G (c.fact (fa_cglo h1))
    rw [hC] at hC2
    cases hC2
    have m : t ∈ ["NoneType", "int", "str", "tuple"] := by rcases ht with rfl | rfl | rfl | rfl <;> simp
    exact of_decide_eq_true (List.all_eq_true.mp q.2 t m)
end
theorem room_top {n : Nat} (hn : n < 20) : Room (6 * n) callerA := by
  have h1 : callerA.depth + 3 * 120 + 5 < recursionLimit := by decide
  have h2 : callerA.units + 16 * 120 + 200 < cLine := by decide
  exact ⟨rfl, by omega, by omega⟩
end Vm
set_option Elab.async false
set_option linter.all false
set_option maxRecDepth 100000
set_option maxHeartbeats 4000000
/-! What the head shows of the text's exceptions. -/
namespace Vm
open PySem PySem.Spec PyProof.Rows L2
theorem oexB_ok {K : Fg} {C : Addr} (h : oexB K C = true) : ∃ nm q N bs bm sn sub ab col dd k0 k1 k2 k3 k5, K.lookup C = some (excClassObj nm q C N bs bm true sn sub ab col dd k0 k1 k2 k3 k5 "ValueError.__new__") ∧ PySem.HandSPX.refsVE bm = true := by
  unfold oexB at h
  split at h
  · rename_i dd cd sl ho
    split at h
    · rename_i C' bm k0 k1 k2 k3 n k5 hm hs
      simp only [Bool.and_eq_true, beq_iff_eq, Bool.not_eq_true'] at h
      obtain ⟨⟨⟨⟨rfl, rfl⟩, hdel⟩, hd⟩, hr⟩ := h
      obtain ⟨nm, bs, mro, ns, qn, hdc, sn, sub, ab, col, del⟩ := cd
      dsimp only at hm hdel hd
      subst hm hdel hd
      have hsl : sl = #[k0, k1, k2, k3, some (.builtin "ValueError.__new__"), k5] := by
        obtain ⟨l⟩ := sl
        simp only at hs
        rw [hs]
      subst hsl
      exact ⟨nm, qn, ns, bs, bm, sn, sub, ab, col, dd, k0, k1, k2, k3, k5, ho, hr⟩
    · cases h
  · cases h
/-- B.__init__(self, 't') -/
def binB (b : Str) : Stmt → Bool
  | .Expr (.Call (.Attribute (.Name x _) m p2) [.Name s _, .Constant (.str _) _ _] [] p5) _ => decide (x = b) && decide (m = "__init__") && decide (s = "self") && (p2.endLine == p5.line)
  | _ => false
/-- self.f = f -/
def stoB (f : Str) : Stmt → Bool
  | .Assign [.Attribute (.Name s _) g _] (.Name x _) _ => decide (s = "self") && decide (g = f) && decide (x = f)
  | _ => false
def xinB (sc : Scope) (b : Str) : List Str → List Stmt → Bool
  | [f], [a, c] => binB b a && stoB f c && decide (sc.names.lookup b = some .globalImplicit) && nmOk f
  | [f, g], [a, c, e] => binB b a && stoB f c && stoB g e && decide (sc.names.lookup b = some .globalImplicit) && nmOk f && nmOk g
  | _, _ => false
section
variable {P : Program} {w : World} {K : Fg} {mg : Mg} {base : Heap} {CX : CXT} {xn qual b : Str} {params : Arguments} {scope : Scope} {dvs : List V} {kws : List (Str × V)} {fa B : Addr} {fd : FuncData} {body : List Stmt} {fs : List Str}
theorem nm2 {x : Str} (h : nmOk x = true) : (x == ("__debug__" : Str)) = false ∧ (x == ("__classdict__" : Str)) = false := by
  unfold nmOk at h
  simp only [Bool.and_eq_true, Bool.not_eq_true'] at h
  exact ⟨h.1.1, h.1.2⟩
theorem xin_ok {k : Nat} (F : FunD K xn qual params body scope dvs kws fa fd) (S : FnScope ("self" :: fs) ("self" :: fs) scope) (h : xinB scope b fs body = true) (hm : mg b = some (.ref B)) (c : XbC K B) (hb : (b == ("__debug__" : Str)) = false) : FnOk P w K mg base CX (k + 1) fa fd ("self" :: fs) (xsp K fs) := by
  unfold xinB at h
  split at h
  · simp only [Bool.and_eq_true] at h
    obtain ⟨⟨⟨h1, h2⟩, h3⟩, h4⟩ := h
    unfold binB at h1
    split at h1
    · unfold stoB at h2
      split at h2
      · simp only [Bool.and_eq_true] at h1 h2
        obtain ⟨⟨⟨a1, a2⟩, a3⟩, a4⟩ := h1
        obtain ⟨⟨c1, c2⟩, c3⟩ := h2
        cases of_decide_eq_true a1
        cases of_decide_eq_true a2
        cases of_decide_eq_true a3
        cases of_decide_eq_true c1
        cases of_decide_eq_true c2
        cases of_decide_eq_true c3
        exact xinit1 F S (of_decide_eq_true h3) hm c hb (nm2 h4).1 (nm2 h4).2 a4
      · cases h2
    · cases h1
  · simp only [Bool.and_eq_true] at h
    obtain ⟨⟨⟨⟨⟨h1, h2⟩, h2b⟩, h3⟩, h4⟩, h5⟩ := h
    unfold binB at h1
    split at h1
    · unfold stoB at h2
      split at h2
      · unfold stoB at h2b
        split at h2b
        · simp only [Bool.and_eq_true] at h1 h2 h2b
          obtain ⟨⟨⟨a1, a2⟩, a3⟩, a4⟩ := h1
          obtain ⟨⟨c1, c2⟩, c3⟩ := h2
          obtain ⟨⟨d1, d2⟩, d3⟩ := h2b
          cases of_decide_eq_true a1
          cases of_decide_eq_true a2
          cases of_decide_eq_true a3
          cases of_decide_eq_true c1
          cases of_decide_eq_true c2
          cases of_decide_eq_true c3
          cases of_decide_eq_true d1
          cases of_decide_eq_true d2
          cases of_decide_eq_true d3
          exact xinit2 F S (of_decide_eq_true h3) hm c hb (nm2 h4).1 (nm2 h4).2 (nm2 h5).1 (nm2 h5).2 a4
        · cases h2b
      · cases h2
    · cases h1
  · cases h
end
/-- what is shown of an exception's __init__ -/
structure XinE (K : Fg) (mg : Mg) (c : Str) (i : XI) : Prop where
  ex : ∃ fd, (∀ P w base, FnOk P w K mg base (L2N.CX P w) 1 (He.fAd K (c, some "__init__")) fd ("self" :: i.fs) (xsp K i.fs)) ∧ ∀ j, j ≤ i.fs.length → i.fs.length - j ≤ i.dfl.length → ∃ ds dvs, Binds K fd ("self" :: i.fs) ds ∧ Vals dvs ds ∧ conVs (i.dfl.drop (i.dfl.length - (i.fs.length - j))) = some dvs
section
variable {K : Fg} {mg : Mg} {h : Heap} {fa : List He.Fa} {tp : TpF} {fn : List He.DefD}
theorem xb_ok (X : K.In h) (G : h.Ns mainGlobals mg) {b : Str} (c : Xf.ok K (.xb b) = true) : mg b = some (.ref (He.ga K b)) ∧ XbC K (He.ga K b) := by
  unfold Xf.ok at c
  simp only [Bool.and_eq_true] at c
  obtain ⟨⟨⟨c1, c2⟩, c3⟩, c4⟩ := c
  refine ⟨He.glo_ok X G c1, ⟨.type "type", of_decide_eq_true c2, ?_⟩, of_decide_eq_true c4⟩
  split at c3
  · rename_i v e
    rw [e, of_decide_eq_true c3]
  · cases c3
theorem xin_none {dd : He.DefD} {b cn : Str} {i : XI} {k : Nat} (X : K.In h) (G : h.Ns mainGlobals mg) (c : SaysV fa tp fn K) (hi : fn[k]? = some dd) (hat : dd.at_ = ((cn, some (("__init__" : Str))) : Str × Option Str)) (hz : dd.dfl = []) (hd : i.dfl = []) (hs : FnScope ("self" :: i.fs) ("self" :: i.fs) dd.scope) (hb : xinB dd.scope b i.fs dd.body = true) (xb : Xf.xb b ∈ tp.ex) (nb : (b == ("__debug__" : Str)) = false)
    (bd : ∀ (kV doc pm : Value) (an : Option Addr) (cdv ct : Value) (us : List Value), us.length = i.fs.length + 1 → bindArgs (PySem.W.fnOf dd.name dd.qual dd.params dd.body dd.scope .none kV doc pm an cdv ct) ⟨us, []⟩ = pure (("self" :: i.fs : List Str).zip us)) : XinE K mg cn i := by
  obtain ⟨fd, F⟩ := c.def_ k hi
  have e : dd.dvs K = [] := by unfold He.DefD.dvs; rw [hz]; rfl
  rw [e, hat] at F
  obtain ⟨mb, xc⟩ := xb_ok X G (c.ex xb)
  refine ⟨fd, fun P w base => xin_ok F hs hb mb xc nb, fun j h1 h2 => ?_⟩
  rw [hd] at h2 ⊢
  have hj : j = i.fs.length := by simp at h2; omega
  exact ⟨[], [], F.bindsN bd, .nil, by simp [conVs]⟩
theorem xin_some {dd : He.DefD} {b cn : Str} {i : XI} {k : Nat} (X : K.In h) (G : h.Ns mainGlobals mg) (c : SaysV fa tp fn K) (hi : fn[k]? = some dd) (hat : dd.at_ = ((cn, some (("__init__" : Str))) : Str × Option Str)) {dv : List V} (hz : ∀ K, dd.dvs K = dv) (hne : dv ≠ []) (hv : conVs i.dfl = some dv) (hnp : i.dfl.length ≤ i.fs.length + 1) (hs : FnScope ("self" :: i.fs) ("self" :: i.fs) dd.scope) (hb : xinB dd.scope b i.fs dd.body = true) (xb : Xf.xb b ∈ tp.ex) (nb : (b == ("__debug__" : Str)) = false)
    (bd : ∀ k, k ≤ i.dfl.length → ∀ (T : Addr) (kV doc pm : Value) (an : Option Addr) (cdv ct : Value) (us its : List Value), us.length = i.fs.length + 1 - (i.dfl.length - k) → its.length = dv.length →
      ∃ g, bindArgs (PySem.W.fnOf dd.name dd.qual dd.params dd.body dd.scope (.ref T) kV doc pm an cdv ct) ⟨us, []⟩ = seqItems? (.ref T) >>= g ∧ g (some its.toArray) = pure (("self" :: i.fs : List Str).zip (us ++ its.drop k))) : XinE K mg cn i := by
  obtain ⟨fd, F⟩ := c.def_ k hi
  rw [hz K, hat] at F
  obtain ⟨mb, xc⟩ := xb_ok X G (c.ex xb)
  refine ⟨fd, fun P w base => xin_ok F hs hb mb xc nb, fun j h1 h2 => ?_⟩
  have dk : DefOk K fd ("self" :: i.fs) ⟨i.fs.length + 1, i.fs.length + 1, i.dfl, .nil⟩ := dk_some F rfl hne hv (fun k _ => conVs_drop hv k) (conVs_len hv) hnp bd
  obtain ⟨ds, dvs, b1, b2, b3⟩ := dk.bind (j + 1) (by show j + 1 ≤ i.fs.length + 1; omega) (by show i.fs.length + 1 - (j + 1) ≤ i.dfl.length; omega)
  refine ⟨ds, dvs, b1, b2, ?_⟩
  have b3 : conVs (i.dfl.drop (i.dfl.length - (i.fs.length + 1 - (j + 1)))) = some dvs := b3
  rw [show i.fs.length + 1 - (j + 1) = i.fs.length - j by omega] at b3
  exact b3
/-- all of them -/
theorem xs_of {chs : List Str} (X : K.In h) (G : h.Ns mainGlobals mg) (c : SaysV fa tp fn K) (hx : ∀ p ∈ xTab, Xf.xc p.1 ∈ tp.ex) (hm : ∀ p ∈ xTab, ∀ k ∈ chs, Xf.xm p.1 k ∈ tp.ex) (hi : ∀ p ∈ xTab, p.2.fs ≠ [] → XinE K mg p.1 p.2) (nd : ∀ k ∈ chs, (k == ("__debug__" : Str)) = false) :
    ∀ Y : Cx, Y.K = K → Y.mg = mg → XsOk Y 1 chs := by
  intro Y eK eM
  subst eK eM
  refine ⟨fun cn i e => ?_, fun k hk => ?_⟩
  · have mem := PySem.mem_of_lookup e
    have f := c.ex (hx _ mem)
    unfold Xf.ok at f
    simp only [Bool.and_eq_true] at f
    obtain ⟨⟨⟨⟨⟨⟨⟨⟨⟨f1, f2⟩, f3⟩, f4⟩, f5⟩, f6⟩, f7⟩, f8⟩, f9⟩, f10⟩ := f
    rw [e] at f10
    dsimp only at f10
    have xf := xfB_ok f5
    have ndc : (cn == ("__debug__" : Str)) = false := by
      simp only [xTab, List.mem_cons, Prod.mk.injEq, List.not_mem_nil, or_false] at mem
      rcases mem with z | z | z | z | z | z | z | z | z | z <;> (rw [z.1]; decide)
    have base : i.fs = [] ∨ i.fs ≠ [] := by
      cases hfs : i.fs with
      | nil => exact .inl rfl
      | cons a b => exact .inr (by simp)
    refine ⟨He.ga Y.K cn, ⟨e, He.glo_ok X G f1, raises_own (of_decide_eq_true f3) (of_decide_eq_true f4), f2, ndc, ?_⟩, xf, ?_, fun k hk => ?_⟩
    · rcases base with h0 | h0
      · have f10 : (if i.fs.isEmpty = true then PySem.W.excIn Y.K (He.ga Y.K cn) He.veBase "ValueError.__new__" else _) = true := f10
        rw [h0] at f10
        exact .inl ⟨h0, He.veBase, "ValueError.__new__", f10, "ValueError", "ValueError.__init__", F.excBase_ValueError⟩
      · rw [if_neg (by rw [List.isEmpty_iff]; exact h0)] at f10
        simp only [Bool.and_eq_true] at f10
        obtain ⟨⟨⟨⟨g1, g2⟩, g3⟩, g4⟩, g5⟩ := f10
        obtain ⟨fd, k1, k2⟩ := (hi _ mem h0).ex
        refine .inr ⟨h0, ⟨oexB_ok g1, of_decide_eq_true g2, of_decide_eq_true f3, of_decide_eq_true f4, f2⟩, fun f hf => of_decide_eq_true (List.all_eq_true.mp g5 f hf), _, fd, of_decide_eq_true g3, of_decide_eq_true g4, k1 _ _ _, k2⟩
    · intro f hf
      have h0 : i.fs ≠ [] := fun z => by rw [z] at hf; cases hf
      rw [if_neg (by rw [List.isEmpty_iff]; exact h0)] at f10
      simp only [Bool.and_eq_true] at f10
      exact of_decide_eq_true (List.all_eq_true.mp f10.2 f hf)
    · have g := c.ex (hm _ mem k hk)
      unfold Xf.ok at g
      simp only [Bool.and_eq_true] at g
      refine ⟨He.ga Y.K k, He.glo_ok X G g.1, nd k hk, ?_⟩
      have := of_decide_eq_true g.2
      rw [this]
      unfold xSub
      rw [e]
      rfl
  · have mem : (("NoGold" : Str), (⟨["word"], [], ["NoGold", "MadeError", "GoldError"], "Made NoGold +"⟩ : XI)) ∈ xTab := List.mem_cons_self
    have g := c.ex (hm _ mem k hk)
    unfold Xf.ok at g
    simp only [Bool.and_eq_true] at g
    exact ⟨_, He.glo_ok X G g.1, nd k hk⟩
/-- the def of kinds -/
theorem kn_of {dd : He.DefD} {i : Nat} (X : K.In h) (G : h.Ns mainGlobals mg) (c : SaysV fa tp fn K) (hi : fn[i]? = some dd) (hat : dd.at_ = ((("_law_kinds" : Str), none) : Str × Option Str)) (hn : dd.name = "_law_kinds") (hq : dd.qual = "_law_kinds") (hz : dd.dfl = []) (hs : FnScope kN ["_law_e"] dd.scope) (hb : kindsB dd.scope dd.body = true) (hg : He.Fa.glo "_law_kinds" ∈ fa) (bi : He.Fa.free "isinstance" ∈ fa) (br : He.Fa.free "range" ∈ fa)
    (hx : ∀ p ∈ xTab, Xf.xc p.1 ∈ tp.ex) (hk : ∀ p ∈ xTab, ∀ k ∈ ksA, Xf.xk p.1 k ∈ tp.ex)
    (bd : ∀ (kV doc pm : Value) (an : Option Addr) (cdv ct : Value) (us : List Value), us.length = 1 → bindArgs (PySem.W.fnOf dd.name dd.qual dd.params dd.body dd.scope .none kV doc pm an cdv ct) ⟨us, []⟩ = pure ((["_law_e"] : List Str).zip us)) :
    ∃ fa fd, mg "_law_kinds" = some (.ref fa) ∧ PySem.W.keepIn K (.ref fa) = true ∧ Binds K fd ["_law_e"] [] ∧ ∀ P w base, KnOk P w K mg base 1 fa fd := by
  obtain ⟨fd, F⟩ := c.def_ i hi
  have e : dd.dvs K = [] := by unfold He.DefD.dvs; rw [hz]; rfl
  rw [e, hat] at F
  have g := He.glo_ok X G (c.fact hg)
  have F2 : FunD K "_law_kinds" "_law_kinds" dd.params dd.body dd.scope [] (dd.kws K) (He.fAd K ("_law_kinds", none)) fd := by have F := F; rw [hn, hq] at F; exact F
  refine ⟨He.ga K "_law_kinds", fd, g, F.kp, F.bindsN bd, fun P w base => kn_ok F2 hs hb (He.free_ok X G (c.fact bi)) (He.free_ok X G (c.fact br)) fun cn i C hl hC => ?_⟩
  have mem := PySem.mem_of_lookup hl
  have f := c.ex (hx _ mem)
  unfold Xf.ok at f
  simp only [Bool.and_eq_true] at f
  obtain ⟨⟨⟨⟨⟨⟨⟨⟨⟨f1, f2⟩, f3⟩, f4⟩, f5⟩, f6⟩, f7⟩, f8⟩, f9⟩, f10⟩ := f
  have hC2 := He.glo_ok X G f1
  rw [hC] at hC2
  cases hC2
  have xf := xfB_ok f5
  refine ⟨⟨xf.ga, xf.gg, of_decide_eq_true f3, xf.hdC, of_decide_eq_true f6, of_decide_eq_true f7, of_decide_eq_true f8, of_decide_eq_true f9⟩, fun k hkk => ?_⟩
  have q : xkB K cn k = true := c.ex (hk _ mem k hkk)
  unfold xkB at q
  have ndk : (k == ("__debug__" : Str)) = false := by
    simp only [ksA, List.mem_cons, List.not_mem_nil, or_false] at hkk
    rcases hkk with z | z | z | z | z | z | z | z | z | z | z | z | z <;> (rw [z]; decide)
  refine ⟨?_, ndk⟩
  by_cases hv : k = "ValueError"
  · subst hv
    rw [if_pos rfl] at q
    simp only [Bool.and_eq_true] at q
    refine .inr ⟨rfl, He.free_ok X G q.1, ?_⟩
    have := of_decide_eq_true q.2
    rw [this]
    rfl
  · rw [if_neg hv] at q
    simp only [Bool.and_eq_true] at q
    refine .inl ⟨_, He.glo_ok X G q.1, ?_⟩
    have := of_decide_eq_true q.2
    rw [this]
    unfold xSub knB
    rw [hl, if_neg hv]
    rfl
end
abbrev xiGold : XI := ⟨["word"], [], ["NoGold", "MadeError", "GoldError"], "Made NoGold +"⟩
abbrev xiRing : XI := ⟨["word"], [], ["NoRing", "MadeError", "GoldError"], "Made NoRing +"⟩
abbrev xiTwice : XI := ⟨["day", "number"], [], ["Twice", "BookError", "GoldError"], "Book Twice +"⟩
abbrev xiText : XI := ⟨["line"], [.non], ["NoText", "BookError", "GoldError"], "Book NoText +"⟩
theorem xin_all {K : Fg} {mg : Mg} (a : XinE K mg "NoGold" xiGold) (b : XinE K mg "NoRing" xiRing) (c : XinE K mg "Twice" xiTwice) (d : XinE K mg "NoText" xiText) : ∀ p ∈ xTab, p.2.fs ≠ [] → XinE K mg p.1 p.2 := fun p hp hf => by
  simp only [xTab, List.mem_cons, List.not_mem_nil, or_false] at hp
  rcases hp with z | z | z | z | z | z | z | z | z | z <;> subst z <;> first | exact a | exact b | exact c | exact d | exact absurd rfl hf
/-- the facts that are asked -/
def xExs (chs : List Str) : List Xf := xTab.map (fun p => .xc p.1) ++ (xTab.flatMap (fun p => chs.map (.xm p.1)) ++ (xTab.flatMap (fun p => ksA.map (.xk p.1)) ++ [.xb "MadeError", .xb "BookError"]))
theorem mem_xc {chs : List Str} {l : List Xf} : ∀ p ∈ xTab, Xf.xc p.1 ∈ l ++ xExs chs := fun p hp => List.mem_append_right _ (List.mem_append_left _ (List.mem_map_of_mem (f := fun p : Str × XI => Xf.xc p.1) hp))
theorem mem_xm {chs : List Str} {l : List Xf} : ∀ p ∈ xTab, ∀ k ∈ chs, Xf.xm p.1 k ∈ l ++ xExs chs := fun p hp k hk => List.mem_append_right _ (List.mem_append_right _ (List.mem_append_left _ (List.mem_flatMap.mpr ⟨p, hp, List.mem_map_of_mem hk⟩)))
theorem mem_xk {chs : List Str} {l : List Xf} : ∀ p ∈ xTab, ∀ k ∈ ksA, Xf.xk p.1 k ∈ l ++ xExs chs := fun p hp k hk => List.mem_append_right _ (List.mem_append_right _ (List.mem_append_right _ (List.mem_append_left _ (List.mem_flatMap.mpr ⟨p, hp, List.mem_map_of_mem hk⟩))))
theorem mem_xbM {chs : List Str} {l : List Xf} : Xf.xb "MadeError" ∈ l ++ xExs chs := List.mem_append_right _ (List.mem_append_right _ (List.mem_append_right _ (List.mem_append_right _ List.mem_cons_self)))
theorem mem_xbB {chs : List Str} {l : List Xf} : Xf.xb "BookError" ∈ l ++ xExs chs := List.mem_append_right _ (List.mem_append_right _ (List.mem_append_right _ (List.mem_append_right _ (List.mem_cons_of_mem _ List.mem_cons_self))))
end Vm
set_option Elab.async false
set_option linter.all false
set_option maxRecDepth 100000
set_option maxHeartbeats 2000000
/-! Running the interpreter: one step, loops, fractions. -/
namespace Vm
open PySem
/-! ### steps -/
theorem fin_ok {α : Type} (a : α) (s : Vs) (r : Rho) (f : α → Vs → Fin) : (Out.ok a s).fin r f = f a s := rfl
theorem truth_bl (b : Bool) (s : Vs) : truth (.bl b) s = .ok b s := rfl
theorem cmpV_lt (i j : Int) (s : Vs) : cmpV .lt (.int i) (.int j) s = .ok (.bl (decide (i < j))) s := rfl
theorem cmpV_le (i j : Int) (s : Vs) : cmpV .le (.int i) (.int j) s = .ok (.bl (decide (i ≤ j))) s := rfl
theorem cmpV_gt (i j : Int) (s : Vs) : cmpV .gt (.int i) (.int j) s = .ok (.bl (decide (j < i))) s := rfl
theorem cmpV_ge (i j : Int) (s : Vs) : cmpV .ge (.int i) (.int j) s = .ok (.bl (decide (j ≤ i))) s := rfl
theorem binV_add (i j : Int) (s : Vs) : binV .add (.int i) (.int j) s = .ok (.int (i + j)) s := rfl
theorem binV_sub (i j : Int) (s : Vs) : binV .sub (.int i) (.int j) s = .ok (.int (i - j)) s := rfl
theorem binV_mul {i j : Int} (h : mulFits i j = true) (s : Vs) : binV .mul (.int i) (.int j) s = .ok (.int (i * j)) s := if_pos h
theorem binV_mod {i j : Int} (h : j ≠ 0) (s : Vs) : binV .mod (.int i) (.int j) s = .ok (.int (i.fmod j)) s := if_neg (by simpa using h)
theorem binV_fdiv {i j : Int} (h : j ≠ 0) (h2 : j.natAbs.log2 < 9000) (s : Vs) : binV .fdiv (.int i) (.int j) s = .ok (.int (i.fdiv j)) s := by
  show (if (j == 0) = true then _ else if _ then _ else _) = _
  rw [if_neg (by simpa using h), PyProof.noPylong_of_log2 h2]
  rfl
theorem idx2_0 (a b : W) (s : Vs) : idxV (.tup [a, b]) (.int 0) s = .ok a s := rfl
theorem idx2_1 (a b : W) (s : Vs) : idxV (.tup [a, b]) (.int 1) s = .ok b s := rfl
theorem biV_abs (i : Int) (s : Vs) : biV .abs [.int i] s = .ok (.int (if i < 0 then -i else i)) s := rfl
theorem getO_0 (x : Option W) (l : Rho) : (x :: l)[0]? = some x := rfl
theorem getO_s (x : Option W) (l : Rho) (n : Nat) : (x :: l)[n + 1]? = l[n]? := rfl
theorem set_0 (x y : Option W) (l : Rho) : (x :: l).set 0 y = y :: l := rfl
theorem set_s (x y : Option W) (l : Rho) (n : Nat) : (x :: l).set (n + 1) y = x :: l.set n y := rfl
theorem sif_t {α : Type} (a b : α) : (if true = true then a else b) = a := rfl
theorem sif_f {α : Type} (a b : α) : (if false = true then a else b) = b := rfl
section
variable {D : Wd} {b : IB} {r r' : Rho} {s s1 s2 s3 s' : Vs} {e c : IE} {w : W}
theorem B_nx {i : IS} (h : denS D i r s = .nx r' s') : denB D (.cons i b) r s = denB D b r' s' := by rw [denB, h]
theorem B_rt {i : IS} (h : denS D i r s = .rt w s') : denB D (.cons i b) r s = .rt w s' := by rw [denB, h]
theorem B_nil : denB D .nil r s = .nx r s := by rw [denB]
theorem B_asg {i : Nat} (h : den D e r s = .ok w s1) : denB D (.cons (.asg i e) b) r s = denB D b (r.set i (some w)) s1 := B_nx (by rw [denS, h]; rfl)
theorem B_asgT {l : List Nat} (h : den D e r s = .ok w s1) (h2 : setTs l w r s1 = some r') : denB D (.cons (.asgT l e) b) r s = denB D b r' s1 := B_nx (by rw [denS, h]; show (match setTs l w r s1 with | some r' => Fin.nx r' s1 | none => .err) = _; rw [h2])
theorem B_par {i j : Nat} {a d : IE} {x y : W} (h : den D a r s = .ok x s1) (h2 : den D d r s1 = .ok y s2) : denB D (.cons (.par i j a d) b) r s = denB D b ((r.set i (some x)).set j (some y)) s2 := B_nx (by rw [denS, h, fin_ok, h2]; rfl)
theorem B_ret (h : den D e r s = .ok w s1) : denB D (.cons (.ret e) b) r s = .rt w s1 := B_rt (by rw [denS, h]; rfl)
theorem B_exp (h : den D e r s = .ok w s1) : denB D (.cons (.exp e) b) r s = denB D b r s1 := B_nx (by rw [denS, h]; rfl)
theorem B_tt {x y : IB} (h : test D c r s = .ok true s1) (h2 : denB D x r s1 = .nx r' s') : denB D (.cons (.ifs c x y) b) r s = denB D b r' s' := B_nx (by rw [denS, h]; exact h2)
theorem B_tr {x y : IB} (h : test D c r s = .ok true s1) (h2 : denB D x r s1 = .rt w s') : denB D (.cons (.ifs c x y) b) r s = .rt w s' := B_rt (by rw [denS, h]; exact h2)
theorem B_ff {x y : IB} (h : test D c r s = .ok false s1) (h2 : denB D y r s1 = .nx r' s') : denB D (.cons (.ifs c x y) b) r s = denB D b r' s' := B_nx (by rw [denS, h]; exact h2)
theorem B_fr {x y : IB} (h : test D c r s = .ok false s1) (h2 : denB D y r s1 = .rt w s') : denB D (.cons (.ifs c x y) b) r s = .rt w s' := B_rt (by rw [denS, h]; exact h2)
theorem B_f {x : IB} (h : test D c r s = .ok false s1) : denB D (.cons (.ifs c x .nil) b) r s = denB D b r s1 := B_ff h B_nil
theorem B_whl {x : IB} {k : Nat} (h : iter (test D c) (denB D x) k r s = .nx r' s') : denB D (.cons (.whl c x) b) r s = denB D b r' s' := B_nx (by rw [denS, whl_eq (n := k) (by rw [h]; exact fun z => by cases z), h])
theorem B_ssub {o i : IE} {x k : W} (h : den D e r s = .ok w s1) (h2 : den D o r s1 = .ok x s2) (h3 : den D i r s2 = .ok k s3) (h4 : setV x k w s3 = some s') : denB D (.cons (.ssub o i e) b) r s = denB D b r s' :=
  B_nx (by rw [denS, h, fin_ok, h2, fin_ok, h3, fin_ok, h4])
theorem B_sfld {o : IE} {f : Str} {x : W} (h : den D e r s = .ok w s1) (h2 : den D o r s1 = .ok x s2) (h4 : sfldV D.fl x f w s2 = some s') : denB D (.cons (.sfld o f e) b) r s = denB D b r s' :=
  B_nx (by rw [denS, h, fin_ok, h2, fin_ok, h4])
/-- the body of a for -/
noncomputable def forF (D : Wd) (tg : Tg) (x : IB) : W → Rho → Vs → Fin := fun y r' s2 => match setT tg y r' with
  | some r2 => denB D x r2 s2
  | none => .err
theorem B_for {tg : Tg} {it : II} {x : IB} {q : Src} (h : denI D it r s = .ok q s1) (h2 : forL q.ok (forF D tg x) q.items r s1 = .nx r' s') : denB D (.cons (.fors tg it x) b) r s = denB D b r' s' := B_nx (by rw [denS, h]; exact h2)
theorem B_forr {tg : Tg} {it : II} {x : IB} {q : Src} (h : denI D it r s = .ok q s1) (h2 : forL q.ok (forF D tg x) q.items r s1 = .rt w s') : denB D (.cons (.fors tg it x) b) r s = .rt w s' := B_rt (by rw [denS, h]; exact h2)
/-- how a for goes: I holds ahead of each turn; a turn goes on, or tells w -/
theorem for_inv {ok : Vs → Prop} {f : W → Rho → Vs → Fin} {I : List W → Rho → Vs → Prop} {Q : W → Vs → Prop} (h0 : ∀ l r s, I l r s → ok s)
    (h1 : ∀ x l r s, I (x :: l) r s → (∃ r' s', (f x r s = .nx r' s' ∨ f x r s = .ct r' s') ∧ I l r' s') ∨ ∃ w s', f x r s = .rt w s' ∧ Q w s') :
    ∀ (l : List W) (r : Rho) (s : Vs), I l r s → (∃ r' s', forL ok f l r s = .nx r' s' ∧ I [] r' s') ∨ ∃ w s', forL ok f l r s = .rt w s' ∧ Q w s'
  | [], r, s, i => .inl ⟨r, s, by unfold forL; rw [if_pos (h0 _ _ _ i)], i⟩
  | x :: l, r, s, i => by
    rcases h1 x l r s i with ⟨r', s', h2, i'⟩ | ⟨w, s', h2, q⟩
    · have e : forL ok f (x :: l) r s = forL ok f l r' s' := by
        rw [forL, if_pos (h0 _ _ _ i)]
        rcases h2 with h2 | h2 <;> rw [h2]
      rw [e]
      exact for_inv h0 h1 l r' s' i'
    · refine .inr ⟨w, s', ?_, q⟩
      rw [forL, if_pos (h0 _ _ _ i), h2]
/-- the same where no turn tells -/
theorem for_nx {ok : Vs → Prop} {f : W → Rho → Vs → Fin} {I : List W → Rho → Vs → Prop} (h0 : ∀ l r s, I l r s → ok s) (h1 : ∀ x l r s, I (x :: l) r s → ∃ r' s', f x r s = .nx r' s' ∧ I l r' s') {l : List W} {r : Rho} {s : Vs} (i : I l r s) :
    ∃ r' s', forL ok f l r s = .nx r' s' ∧ I [] r' s' := by
  rcases for_inv (Q := fun _ _ => False) h0 (fun x l r s i => .inl (let ⟨r', s', e, j⟩ := h1 x l r s i; ⟨r', s', .inl e, j⟩)) l r s i with h | ⟨_, _, _, h⟩
  · exact h
  · exact h.elim
/-- how a comprehension goes -/
theorem lc_inv {ok : Vs → Prop} {f : W → Vs → Out (Option W)} {I : List W → List W → Vs → Prop} (h0 : ∀ l a s, I l a s → ok s)
    (h1 : ∀ x l a s, I (x :: l) a s → (∃ y s', f x s = .ok (some y) s' ∧ I l (a ++ [y]) s') ∨ ∃ s', f x s = .ok none s' ∧ I l a s') :
    ∀ (l a : List W) (s : Vs), I l a s → ∃ ys s', lcL ok f l s = .ok ys s' ∧ I [] (a ++ ys) s'
  | [], a, s, i => ⟨[], s, by unfold lcL; rw [if_pos (h0 _ _ _ i)], by rw [List.append_nil]; exact i⟩
  | x :: l, a, s, i => by
    rcases h1 x l a s i with ⟨y, s', h2, i'⟩ | ⟨s', h2, i'⟩
    · obtain ⟨ys, s2, e, j⟩ := lc_inv h0 h1 l _ s' i'
      refine ⟨y :: ys, s2, ?_, by rw [List.append_assoc] at j; exact j⟩
      rw [lcL, if_pos (h0 _ _ _ i), h2]
      show (lcL ok f l s').bind _ = _
      rw [e]
      rfl
    · obtain ⟨ys, s2, e, j⟩ := lc_inv h0 h1 l _ s' i'
      refine ⟨ys, s2, ?_, j⟩
      rw [lcL, if_pos (h0 _ _ _ i), h2]
      show (lcL ok f l s').bind _ = _
      rw [e]
      rfl
end
section
variable {T : Str → Str → Option Te} {gl : Str → Option W} {fl : Str → List Str} {n : Nat} {s : Vs}
theorem run_fn {c f : Str} {d : Fd} {ws : List W} (h : T c f = some (.fn d)) (hl : ws.length = d.np) : run T gl fl (n + 1) c f ws s = runB ⟨run T gl fl n, gl, fl⟩ d ws s := by
  rw [run, h]
  have e : argsOf d ws = some ws := by
    unfold argsOf
    rw [if_pos ⟨by omega, by omega⟩, hl, Nat.sub_self, Nat.sub_zero, List.drop_length, List.append_nil]
  show (match argsOf d ws with | some vs => _ | none => _) = _
  rw [e]
theorem runB_rt {D : Wd} {d : Fd} {ws : List W} {w : W} {s s' : Vs} (h : denB D d.body (ws.map some ++ List.replicate (d.ns - d.np) none) s = .rt w s') : runB D d ws s = .ok w s' := by
  unfold runB
  rw [h]
theorem runB_nx {D : Wd} {d : Fd} {ws : List W} {r : Rho} {s s' : Vs} (h : denB D d.body (ws.map some ++ List.replicate (d.ns - d.np) none) s = .nx r s') : runB D d ws s = .ok .non s' := by
  unfold runB
  rw [h]
/-- a def that tells w -/
theorem run_rt {c f : Str} {d : Fd} {ws : List W} {w : W} {s' : Vs} (h : T c f = some (.fn d)) (hl : ws.length = d.np) (hb : denB ⟨run T gl fl n, gl, fl⟩ d.body (ws.map some ++ List.replicate (d.ns - d.np) none) s = .rt w s') : run T gl fl (n + 1) c f ws s = .ok w s' := by
  rw [run_fn h hl]
  exact runB_rt hb
end
theorem iter_go {c : Rho → Vs → Out Bool} {f : Rho → Vs → Fin} {k : Nat} {r r' : Rho} {s s1 s' : Vs} (h1 : c r s = .ok true s1) (h2 : f r s1 = .nx r' s') : iter c f (k + 1) r s = iter c f k r' s' := by
  show (match c r s with | .ok b s1 => _ | .exc x s1 => _ | .err => _) = _
  rw [h1]
  show (match f r s1 with | .nx r' s' => _ | .ct r' s' => _ | .bk r' s' => _ | .rt w s' => _ | .exc x r' s' => _ | .err => _) = _
  rw [h2]
theorem iter_stop {c : Rho → Vs → Out Bool} {f : Rho → Vs → Fin} {k : Nat} {r : Rho} {s s1 : Vs} (h1 : c r s = .ok false s1) : iter c f (k + 1) r s = .nx r s1 := by
  show (match c r s with | .ok b s1 => _ | .exc x s1 => _ | .err => _) = _
  rw [h1]
  rfl
/-! ### the greatest common divisor -/
def d_common : Fd := ⟨2, 2, [], (.cons (.par 0 1 (.bi .abs (.cons (.var 0) .nil)) (.bi .abs (.cons (.var 1) .nil))) (.cons (.whl (.cmp .gt (.var 1) (.con (.int 0))) (.cons (.par 0 1 (.var 1) (.bin .mod (.var 0) (.var 1))) .nil)) (.cons (.ret (.var 0)) .nil)))⟩
theorem fmod_nat (a b : Nat) : ((a : Int).fmod (b : Int)) = ((a % b : Nat) : Int) := by
  rw [Int.fmod_eq_emod_of_nonneg _ (by omega)]
  omega
theorem euclid {D : Wd} {s : Vs} : ∀ (b a : Nat), ∃ k, iter (test D (.cmp .gt (.var 1) (.con (.int 0)))) (denB D (.cons (.par 0 1 (.var 1) (.bin .mod (.var 0) (.var 1))) .nil)) k [some (.int a), some (.int b)] s = .nx [some (.int (Nat.gcd a b)), some (.int 0)] s := by
  intro b
  induction b using Nat.strongRecOn with
  | _ b ih =>
    intro a
    by_cases hb : b = 0
    · subst hb
      refine ⟨1, ?_⟩
      rw [iter_stop (s1 := s) (by simp only [den, denL, test, bind_ok, fin_ok, truth_bl, cmpV_lt, cmpV_le, cmpV_gt, cmpV_ge, binV_add, binV_sub, idx2_0, idx2_1, biV_abs, getO_0, getO_s, set_0, set_s, sif_t, sif_f, List.length_cons, List.length_nil]; rfl)]
      rw [Nat.gcd_zero_right]
      rfl
    · obtain ⟨k, hk⟩ := ih (a % b) (Nat.mod_lt _ (by omega)) b
      refine ⟨k + 1, ?_⟩
      have hb' : (0 : Int) < b := by omega
      have hb2 : (b : Int) ≠ 0 := by omega
      rw [iter_go (s1 := s) (r' := [some (.int b), some (.int ((a % b : Nat) : Int))]) (s' := s) (by simp only [den, denL, test, bind_ok, fin_ok, truth_bl, cmpV_lt, cmpV_le, cmpV_gt, cmpV_ge, binV_add, binV_sub, idx2_0, idx2_1, biV_abs, getO_0, getO_s, set_0, set_s, sif_t, sif_f, List.length_cons, List.length_nil]; simp; omega) (by rw [B_par (x := .int b) (y := .int ((a % b : Nat) : Int)) (s1 := s) (s2 := s) (by simp only [den, denL, test, bind_ok, fin_ok, truth_bl, cmpV_lt, cmpV_le, cmpV_gt, cmpV_ge, binV_add, binV_sub, idx2_0, idx2_1, biV_abs, getO_0, getO_s, set_0, set_s, sif_t, sif_f, List.length_cons, List.length_nil]) (by simp only [den, denL, test, bind_ok, fin_ok, truth_bl, cmpV_lt, cmpV_le, cmpV_gt, cmpV_ge, binV_add, binV_sub, idx2_0, idx2_1, biV_abs, getO_0, getO_s, set_0, set_s, sif_t, sif_f, List.length_cons, List.length_nil, binV_mod hb2, fmod_nat])]; exact B_nil)]
      rw [hk, Nat.gcd_comm b, Nat.gcd_comm a b, Nat.gcd_rec b a]
theorem abs_nat (i : Int) : (if i < 0 then -i else i) = (i.natAbs : Int) := by
  split <;> omega
section
variable {T : Str → Str → Option Te} {gl : Str → Option W} {fl : Str → List Str} {n : Nat} {s : Vs}
theorem sp_common (h : T Str.empty "common" = some (.fn d_common)) (a b : Int) : run T gl fl (n + 1) Str.empty "common" [.int a, .int b] s = .ok (.int (Int.gcd a b)) s := by
  refine run_rt h rfl ?_
  obtain ⟨k, hk⟩ := euclid (D := ⟨run T gl fl n, gl, fl⟩) (s := s) b.natAbs a.natAbs
  show denB _ (.cons _ (.cons _ (.cons _ .nil))) [some (.int a), some (.int b)] s = _
  rw [B_par (x := .int a.natAbs) (y := .int b.natAbs) (s1 := s) (s2 := s) (by simp only [den, denL, test, bind_ok, fin_ok, truth_bl, cmpV_lt, cmpV_le, cmpV_gt, cmpV_ge, binV_add, binV_sub, idx2_0, idx2_1, biV_abs, getO_0, getO_s, set_0, set_s, sif_t, sif_f, List.length_cons, List.length_nil, abs_nat]) (by simp only [den, denL, test, bind_ok, fin_ok, truth_bl, cmpV_lt, cmpV_le, cmpV_gt, cmpV_ge, binV_add, binV_sub, idx2_0, idx2_1, biV_abs, getO_0, getO_s, set_0, set_s, sif_t, sif_f, List.length_cons, List.length_nil, abs_nat])]
  simp only [set_0, set_s]
  rw [B_whl hk]
  exact B_ret (by simp only [den, denL, test, bind_ok, fin_ok, truth_bl, cmpV_lt, cmpV_le, cmpV_gt, cmpV_ge, binV_add, binV_sub, idx2_0, idx2_1, biV_abs, getO_0, getO_s, set_0, set_s, sif_t, sif_f, List.length_cons, List.length_nil]; rfl)
end
end Vm
set_option Elab.async false
set_option linter.all false
set_option maxRecDepth 100000
set_option maxHeartbeats 2000000
/-! Running the interpreter by rewriting alone. -/
namespace Vm
open PySem
/-- what comes behind is not looked at before its turn -/
structure Lz {α : Type} {β : Type} (f : α → Vs → β) where
  o : Out α
def bd {α β : Type} (f : α → Vs → Out β) (z : Lz f) : Out β := z.o.bind f
def fx {α : Type} (r : Rho) (f : α → Vs → Fin) (z : Lz f) : Fin := z.o.fin r f
theorem bd_ok {α β : Type} (f : α → Vs → Out β) (a : α) (s : Vs) : bd f ⟨.ok a s⟩ = f a s := rfl
theorem fx_ok {α : Type} (r : Rho) (f : α → Vs → Fin) (a : α) (s : Vs) : fx r f ⟨.ok a s⟩ = f a s := rfl
theorem fx_exc {α : Type} (r : Rho) (f : α → Vs → Fin) (x : Exn) (s : Vs) : fx r f ⟨.exc x s⟩ = .exc x r s := rfl
theorem bd_exc {α β : Type} (f : α → Vs → Out β) (x : Exn) (s : Vs) : bd f ⟨.exc x s⟩ = .exc x s := rfl
structure Ls (f : Rho → Vs → Fin) where
  x : Fin
def sq (f : Rho → Vs → Fin) (z : Ls f) : Fin := match z.x with
  | .nx r s => f r s
  | .rt w s => .rt w s
  | .bk r s => .bk r s
  | .ct r s => .ct r s
  | .exc x r s => .exc x r s
  | .err => .err
theorem sq_nx (f : Rho → Vs → Fin) (r : Rho) (s : Vs) : sq f ⟨.nx r s⟩ = f r s := rfl
theorem sq_rt (f : Rho → Vs → Fin) (w : W) (s : Vs) : sq f ⟨.rt w s⟩ = .rt w s := rfl
theorem sq_exc (f : Rho → Vs → Fin) (x : Exn) (r : Rho) (s : Vs) : sq f ⟨.exc x r s⟩ = .exc x r s := rfl
def finO : Fin → Out W
  | .nx _ s => .ok .non s
  | .rt w s => .ok w s
  | .exc x _ s => .exc x s
  | _ => .err
theorem finO_nx (r : Rho) (s : Vs) : finO (Fin.nx r s) = .ok .non s := rfl
theorem finO_rt (w : W) (s : Vs) : finO (Fin.rt w s) = .ok w s := rfl
theorem finO_exc (x : Exn) (r : Rho) (s : Vs) : finO (Fin.exc x r s) = .exc x s := rfl
structure Lr {α : Type} (f : α → Fin) where
  o : Option α
def oF {α : Type} (f : α → Fin) (z : Lr f) : Fin := match z.o with
  | some r => f r
  | none => .err
theorem oF_some {α : Type} (f : α → Fin) (r : α) : oF f ⟨some r⟩ = f r := rfl
section
variable {D : Wd} {r : Rho} {s : Vs}
/-! ### expressions -/
theorem E_var (i : Nat) : den D (.var i) r s = match r[i]? with
  | some (some w) => .ok w s
  | _ => .err := by rw [den] <;> rfl
theorem E_con (w : W) : den D (.con w) r s = .ok w s := by rw [den]
theorem E_glo (x : Str) : den D (.glo x) r s = match D.gl x with
  | some w => .ok w s
  | none => .err := by rw [den] <;> rfl
theorem E_bin (o : BOp) (a b : IE) : den D (.bin o a b) r s = bd (fun x s1 => bd (fun y s2 => binV o x y s2) ⟨den D b r s1⟩) ⟨den D a r s⟩ := by rw [den] <;> rfl
theorem E_neg (a : IE) : den D (.neg a) r s = bd (fun x s1 => match x with
  | .int i => .ok (.int (-i)) s1
  | _ => .err) ⟨den D a r s⟩ := by rw [den] <;> rfl
theorem E_not (a : IE) : den D (.not a) r s = bd (fun x s1 => bd (fun b s2 => .ok (.bl (!b)) s2) ⟨truth x s1⟩) ⟨den D a r s⟩ := by rw [den] <;> rfl
theorem E_and (a b : IE) : den D (.and a b) r s = bd (fun x s1 => bd (fun t s2 => if t = true then den D b r s2 else .ok x s2) ⟨truth x s1⟩) ⟨den D a r s⟩ := by rw [den] <;> rfl
theorem E_or (a b : IE) : den D (.or a b) r s = bd (fun x s1 => bd (fun t s2 => if t = true then .ok x s2 else den D b r s2) ⟨truth x s1⟩) ⟨den D a r s⟩ := by rw [den] <;> rfl
theorem E_ite (c a b : IE) : den D (.ite c a b) r s = bd (fun x s1 => bd (fun t s2 => if t = true then den D a r s2 else den D b r s2) ⟨truth x s1⟩) ⟨den D c r s⟩ := by rw [den] <;> rfl
theorem E_cmp (o : COp) (a b : IE) : den D (.cmp o a b) r s = bd (fun x s1 => bd (fun y s2 => cmpV o x y s2) ⟨den D b r s1⟩) ⟨den D a r s⟩ := by rw [den] <;> rfl
theorem E_ceq (ng : Bool) (cs : List Str) (a b : IE) : den D (.ceq ng cs a b) r s = bd (fun x s1 => bd (fun y s2 => eqoV D.fe ng cs x y s2) ⟨den D b r s1⟩) ⟨den D a r s⟩ := by rw [den] <;> rfl
theorem E_chn (o p : COp) (a b c : IE) : den D (.chn o p a b c) r s = bd (fun x s1 => bd (fun y s2 => bd (fun z s3 => match z with
  | .bl t => if t = true then bd (fun w s4 => cmpV p y w s4) ⟨den D c r s3⟩ else .ok (.bl false) s3
  | _ => .err) ⟨cmpV o x y s2⟩) ⟨den D b r s1⟩) ⟨den D a r s⟩ := by rw [den] <;> rfl
theorem E_tup (l : IL) : den D (.tup l) r s = bd (fun ws s1 => if fits ws.length = true then .ok (.tup ws) s1 else .err) ⟨denL D l r s⟩ := by rw [den] <;> rfl
theorem E_lst (l : IL) : den D (.lst l) r s = bd (fun ws s1 => if fits ws.length = true then newL ws s1 else .err) ⟨denL D l r s⟩ := by rw [den] <;> rfl
theorem E_idx (a b : IE) : den D (.idx a b) r s = bd (fun x s1 => bd (fun y s2 => idxV x y s2) ⟨den D b r s1⟩) ⟨den D a r s⟩ := by rw [den] <;> rfl
theorem E_slc (a lo hi : IE) : den D (.slc a lo hi) r s = bd (fun x s1 => bd (fun l s2 => bd (fun h s3 => slcV x l h s3) ⟨if miss hi = true then .ok none s2 else bd intV ⟨den D hi r s2⟩⟩) ⟨if miss lo = true then .ok none s1 else bd intV ⟨den D lo r s1⟩⟩) ⟨den D a r s⟩ := by rw [den] <;> rfl
theorem E_fld (a : IE) (f : Str) : den D (.fld a f) r s = bd (fun x s1 => fldV x f s1) ⟨den D a r s⟩ := by rw [den] <;> rfl
theorem E_call (f : Str) (l : IL) : den D (.call f l) r s = bd (fun ws s1 => D.fe Str.empty f ws s1) ⟨denL D l r s⟩ := by rw [den] <;> rfl
theorem E_meth (a : IE) (m : Str) (l : IL) : den D (.meth a m l) r s = bd (fun x s1 => if recvOk m x s1 = true then bd (fun ws s2 => mtV m x ws s2) ⟨denL D l r s1⟩ else .err) ⟨den D a r s⟩ := by rw [den] <;> rfl
theorem E_omt (c m : Str) (a : IE) (l : IL) : den D (.omt c m a l) r s = bd (fun x s1 => if ownOk c m x s1 = true then bd (fun ws s2 => D.fe c m (x :: ws) s2) ⟨denL D l r s1⟩ else .err) ⟨den D a r s⟩ := by rw [den] <;> rfl
theorem E_bi (f : Bf) (l : IL) : den D (.bi f l) r s = bd (fun ws s1 => biV f ws s1) ⟨denL D l r s⟩ := by rw [den] <;> rfl
theorem E_isi (a : IE) (t : Str) : den D (.isi a t) r s = bd (fun x s1 => isiV t x s1) ⟨den D a r s⟩ := by rw [den] <;> rfl
theorem E_iso (a : IE) (t : Str) (cs : List Str) : den D (.iso a t cs) r s = bd (fun x s1 => isoV cs t x s1) ⟨den D a r s⟩ := by rw [den] <;> rfl
theorem E_lc (e : IE) (tg : Tg) (it : II) (c : IE) : den D (.lc e tg it c) r s = bd (fun q s1 => if (!fits q.items.length) = true then .err else bd (fun ys s6 => newL ys s6) ⟨lcL q.ok (lcF D e tg c r) q.items s1⟩) ⟨denI D it r s⟩ := by rw [den] <;> rfl
theorem L_nil : denL D .nil r s = .ok [] s := by rw [denL]
theorem L_cons (a : IE) (l : IL) : denL D (.cons a l) r s = bd (fun x s1 => bd (fun xs s2 => .ok (x :: xs) s2) ⟨denL D l r s1⟩) ⟨den D a r s⟩ := by rw [denL] <;> rfl
theorem I_val (e : IE) : denI D (.val e) r s = bd (fun x s1 => srcV x s1) ⟨den D e r s⟩ := by rw [denI] <;> rfl
def rngW : W → Vs → Out Src
  | .int i, s => rngV 0 i s
  | _, _ => .err
theorem rngW_int (i : Int) (s : Vs) : rngW (.int i) s = rngV 0 i s := by rw [rngW]
theorem I_rng1 (e : IE) : denI D (.rng1 e) r s = bd (fun x s1 => rngW x s1) ⟨den D e r s⟩ := by
  rw [denI]
  show (den D e r s).bind _ = (den D e r s).bind _
  congr 1
  funext x s1
  cases x <;> rfl
theorem I_zip (a b : IE) : denI D (.zip a b) r s = bd (fun x s1 => bd (fun y s2 => zipV x y s2) ⟨den D b r s1⟩) ⟨den D a r s⟩ := by rw [denI] <;> rfl
def enumW : W → Vs → Out Src
  | .ref n, s => (match lstAt s n with
    | some l => .ok ⟨enumL 0 l, [(n, l)]⟩ s
    | none => .err)
  | _, _ => .err
theorem enumW_ref {n : Nat} {s : Vs} {l : List W} (h : lstAt s n = some l) : enumW (.ref n) s = .ok ⟨enumL 0 l, [(n, l)]⟩ s := by
  rw [enumW, h]
theorem I_enum (a : IE) : denI D (.enum a) r s = bd (fun x s1 => enumW x s1) ⟨den D a r s⟩ := by
  rw [denI]
  show (den D a r s).bind _ = (den D a r s).bind _
  congr 1
  funext x s1
  cases x <;> rfl
theorem T_eq (c : IE) : test D c r s = bd (fun x s1 => truth x s1) ⟨den D c r s⟩ := rfl
/-- the turn of a comprehension -/
structure Lq {α : Type} (f : Rho → Out α) where
  o : Option Rho
def oO {α : Type} (f : Rho → Out α) (z : Lq f) : Out α := match z.o with
  | some r => f r
  | none => .err
theorem oO_some {α : Type} (f : Rho → Out α) (r : Rho) : oO f ⟨some r⟩ = f r := rfl
theorem lcF_eq (e : IE) (tg : Tg) (c : IE) (x : W) : lcF D e tg c r x s = oO (fun r' => bd (fun t s3 => bd (fun b s4 => if b = true then bd (fun y s5 => .ok (some y) s5) ⟨den D e r' s4⟩ else .ok none s4) ⟨truth t s3⟩) ⟨den D c r' s⟩) ⟨setT tg x r⟩ := by
  unfold lcF oO
  cases setT tg x r <;> rfl
/-! ### statements -/
variable {b : IB}
theorem C_nil : denB D .nil r s = .nx r s := by rw [denB]
theorem C_asg (i : Nat) (e : IE) : denB D (.cons (.asg i e) b) r s = fx r (fun w s1 => denB D b (r.set i (some w)) s1) ⟨den D e r s⟩ := by
  rw [denB, denS]
  cases den D e r s <;> rfl
theorem C_asgT (l : List Nat) (e : IE) : denB D (.cons (.asgT l e) b) r s = fx r (fun w s1 => oF (fun r' => denB D b r' s1) ⟨setTs l w r s1⟩) ⟨den D e r s⟩ := by
  rw [denB, denS]
  cases den D e r s with
  | ok w s1 => 
    show (match (match setTs l w r s1 with | some r' => Fin.nx r' s1 | none => .err) with | .nx r' s' => denB D b r' s' | .rt w s' => .rt w s' | .bk r' s' => .bk r' s' | .ct r' s' => .ct r' s' | .exc x r' s' => .exc x r' s' | .err => .err) = oF _ ⟨setTs l w r s1⟩
    unfold oF
    cases setTs l w r s1 <;> rfl
  | exc x s1 => rfl
  | err => rfl
theorem C_par (i j : Nat) (a c : IE) : denB D (.cons (.par i j a c) b) r s = fx r (fun x s1 => fx r (fun y s2 => denB D b ((r.set i (some x)).set j (some y)) s2) ⟨den D c r s1⟩) ⟨den D a r s⟩ := by
  rw [denB, denS]
  cases den D a r s with
  | ok w s1 =>
    show (match (den D c r s1).fin r _ with | .nx r' s' => denB D b r' s' | .rt w s' => .rt w s' | .bk r' s' => .bk r' s' | .ct r' s' => .ct r' s' | .exc x r' s' => .exc x r' s' | .err => .err) = fx r _ ⟨den D c r s1⟩
    cases den D c r s1 <;> rfl
  | exc x s1 => rfl
  | err => rfl
theorem C_exp (e : IE) : denB D (.cons (.exp e) b) r s = fx r (fun _ s1 => denB D b r s1) ⟨den D e r s⟩ := by
  rw [denB, denS]
  cases den D e r s <;> rfl
theorem C_ret (e : IE) : denB D (.cons (.ret e) b) r s = fx r (fun w s1 => .rt w s1) ⟨den D e r s⟩ := by
  rw [denB, denS]
  cases den D e r s <;> rfl
theorem C_retN : denB D (.cons .retN b) r s = .rt .non s := by rw [denB, denS]
theorem C_pass : denB D (.cons .pass b) r s = denB D b r s := by rw [denB, denS]
theorem C_ifs (c : IE) (x y : IB) : denB D (.cons (.ifs c x y) b) r s = fx r (fun t s1 => sq (fun r s => denB D b r s) ⟨if t = true then denB D x r s1 else denB D y r s1⟩) ⟨test D c r s⟩ := by
  rw [denB, denS]
  cases test D c r s <;> rfl
theorem C_sfld (o : IE) (f : Str) (e : IE) : denB D (.cons (.sfld o f e) b) r s = fx r (fun y s1 => fx r (fun x s2 => oF (fun s3 => denB D b r s3) ⟨sfldV D.fl x f y s2⟩) ⟨den D o r s1⟩) ⟨den D e r s⟩ := by
  rw [denB, denS]
  cases den D e r s with
  | ok w s1 =>
    show (match (den D o r s1).fin r _ with | .nx r' s' => denB D b r' s' | .rt w s' => .rt w s' | .bk r' s' => .bk r' s' | .ct r' s' => .ct r' s' | .exc x r' s' => .exc x r' s' | .err => .err) = fx r _ ⟨den D o r s1⟩
    cases den D o r s1 with
    | ok x s2 =>
      show (match (match sfldV D.fl x f w s2 with | some s3 => Fin.nx r s3 | none => .err) with | .nx r' s' => denB D b r' s' | .rt w s' => .rt w s' | .bk r' s' => .bk r' s' | .ct r' s' => .ct r' s' | .exc x r' s' => .exc x r' s' | .err => .err) = oF _ ⟨sfldV D.fl x f w s2⟩
      unfold oF
      cases sfldV D.fl x f w s2 <;> rfl
    | exc x s1 => rfl
    | err => rfl
  | exc x s1 => rfl
  | err => rfl
theorem C_ssub (o i e : IE) : denB D (.cons (.ssub o i e) b) r s = fx r (fun y s1 => fx r (fun x s2 => fx r (fun k s3 => oF (fun s4 => denB D b r s4) ⟨setV x k y s3⟩) ⟨den D i r s2⟩) ⟨den D o r s1⟩) ⟨den D e r s⟩ := by
  rw [denB, denS]
  cases den D e r s with
  | ok w s1 =>
    show (match (den D o r s1).fin r _ with | .nx r' s' => denB D b r' s' | .rt w s' => .rt w s' | .bk r' s' => .bk r' s' | .ct r' s' => .ct r' s' | .exc x r' s' => .exc x r' s' | .err => .err) = fx r _ ⟨den D o r s1⟩
    cases den D o r s1 with
    | ok x s2 =>
      show (match (den D i r s2).fin r _ with | .nx r' s' => denB D b r' s' | .rt w s' => .rt w s' | .bk r' s' => .bk r' s' | .ct r' s' => .ct r' s' | .exc x r' s' => .exc x r' s' | .err => .err) = fx r _ ⟨den D i r s2⟩
      cases den D i r s2 with
      | ok k s3 =>
        show (match (match setV x k w s3 with | some s3 => Fin.nx r s3 | none => .err) with | .nx r' s' => denB D b r' s' | .rt w s' => .rt w s' | .bk r' s' => .bk r' s' | .ct r' s' => .ct r' s' | .exc x r' s' => .exc x r' s' | .err => .err) = oF _ ⟨setV x k w s3⟩
        unfold oF
        cases setV x k w s3 <;> rfl
      | exc x s1 => rfl
      | err => rfl
    | exc x s1 => rfl
    | err => rfl
  | exc x s1 => rfl
  | err => rfl
theorem C_fors (tg : Tg) (it : II) (x : IB) : denB D (.cons (.fors tg it x) b) r s = fx r (fun q s1 => sq (fun r s => denB D b r s) ⟨forL q.ok (forF D tg x) q.items r s1⟩) ⟨denI D it r s⟩ := by
  rw [denB, denS]
  cases denI D it r s <;> rfl
theorem C_whl (c : IE) (x : IB) : denB D (.cons (.whl c x) b) r s = sq (fun r s => denB D b r s) ⟨whlL (test D c) (denB D x) r s⟩ := by
  rw [denB, denS]; rfl
theorem forF_eq (tg : Tg) (x : IB) (w : W) : forF D tg x w r s = oF (fun r2 => denB D x r2 s) ⟨setT tg w r⟩ := by
  unfold forF oF
  cases setT tg w r <;> rfl
end
section
variable {T : Str → Str → Option Te} {gl : Str → Option W} {fl : Str → List Str} {n : Nat} {s : Vs}
theorem run_def {c f : Str} {d : Fd} {ws : List W} (h : T c f = some (.fn d)) (hl : ws.length = d.np) : run T gl fl (n + 1) c f ws s = finO (denB ⟨run T gl fl n, gl, fl⟩ d.body (ws.map some ++ List.replicate (d.ns - d.np) none) s) := by
  rw [run_fn h hl]; unfold runB finO; cases denB _ d.body _ s <;> rfl
end
theorem fits0 : fits 0 = true := by decide
/-- how a for goes, by the number of turns -/
theorem for_ix {ok : Vs → Prop} {f : W → Rho → Vs → Fin} {items : List W} (I : Nat → Rho → Vs → Prop) (Q : W → Vs → Prop) (h0 : ∀ k r s, I k r s → ok s)
    (h1 : ∀ k x r s, items[k]? = some x → I k r s → (∃ r' s', (f x r s = .nx r' s' ∨ f x r s = .ct r' s') ∧ I (k + 1) r' s') ∨ ∃ w s', f x r s = .rt w s' ∧ Q w s') {r : Rho} {s : Vs} (i : I 0 r s) :
    (∃ r' s', forL ok f items r s = .nx r' s' ∧ I items.length r' s') ∨ ∃ w s', forL ok f items r s = .rt w s' ∧ Q w s' := by
  have key : ∀ (l : List W) (k : Nat) (r : Rho) (s : Vs), items.drop k = l → k ≤ items.length → I k r s → (∃ r' s', forL ok f l r s = .nx r' s' ∧ I items.length r' s') ∨ ∃ w s', forL ok f l r s = .rt w s' ∧ Q w s' := by
    intro l
    induction l with
    | nil =>
      intro k r s e hk i
      have : items.length ≤ k := List.drop_eq_nil_iff.mp e
      have hk2 : k = items.length := by omega
      subst hk2
      exact .inl ⟨r, s, by unfold forL; rw [if_pos (h0 _ _ _ i)], i⟩
    | cons x l ih =>
      intro k r s e hk i
      have hx : items[k]? = some x := by
        have := congrArg (fun z => z[0]?) e
        simpa using this
      have e2 : items.drop (k + 1) = l := by
        rw [← List.drop_drop, e]; rfl
      have hk2 : k < items.length := (List.getElem?_eq_some_iff.mp hx).1
      rcases h1 k x r s hx i with ⟨r', s', h2, i'⟩ | ⟨w, s', h2, q⟩
      · have e3 : forL ok f (x :: l) r s = forL ok f l r' s' := by
          rw [forL, if_pos (h0 _ _ _ i)]
          rcases h2 with h2 | h2 <;> rw [h2]
        rw [e3]
        exact ih (k + 1) r' s' e2 hk2 i'
      · refine .inr ⟨w, s', ?_, q⟩
        rw [forL, if_pos (h0 _ _ _ i), h2]
  exact key items 0 r s rfl (Nat.zero_le _) i
theorem for_ixn {ok : Vs → Prop} {f : W → Rho → Vs → Fin} {items : List W} (I : Nat → Rho → Vs → Prop) (h0 : ∀ k r s, I k r s → ok s)
    (h1 : ∀ k x r s, items[k]? = some x → I k r s → ∃ r' s', f x r s = .nx r' s' ∧ I (k + 1) r' s') {r : Rho} {s : Vs} (i : I 0 r s) : ∃ r' s', forL ok f items r s = .nx r' s' ∧ I items.length r' s' := by
  rcases for_ix I (fun _ _ => False) h0 (fun k x r s e i => .inl (let ⟨r', s', a, b⟩ := h1 k x r s e i; ⟨r', s', .inl a, b⟩)) i with h | ⟨_, _, _, h⟩
  · exact h
  · exact h.elim
/-- how a comprehension goes, by the number of turns -/
theorem lc_ix {ok : Vs → Prop} {f : W → Vs → Out (Option W)} {items : List W} (I : Nat → List W → Vs → Prop) (h0 : ∀ k a s, I k a s → ok s)
    (h1 : ∀ k x a s, items[k]? = some x → I k a s → ∃ y s', f x s = .ok y s' ∧ I (k + 1) (a ++ y.toList) s') {s : Vs} (i : I 0 [] s) : ∃ ys s', lcL ok f items s = .ok ys s' ∧ I items.length ys s' := by
  have key : ∀ (l : List W) (k : Nat) (a : List W) (s : Vs), items.drop k = l → k ≤ items.length → I k a s → ∃ ys s', lcL ok f l s = .ok ys s' ∧ I items.length (a ++ ys) s' := by
    intro l
    induction l with
    | nil =>
      intro k a s e hk i
      have : items.length ≤ k := List.drop_eq_nil_iff.mp e
      have hk2 : k = items.length := by omega
      subst hk2
      exact ⟨[], s, by unfold lcL; rw [if_pos (h0 _ _ _ i)], by rw [List.append_nil]; exact i⟩
    | cons x l ih =>
      intro k a s e hk i
      have hx : items[k]? = some x := by
        have := congrArg (fun z => z[0]?) e
        simpa using this
      have e2 : items.drop (k + 1) = l := by
        rw [← List.drop_drop, e]; rfl
      have hk2 : k < items.length := (List.getElem?_eq_some_iff.mp hx).1
      obtain ⟨y, s', h2, i'⟩ := h1 k x a s hx i
      obtain ⟨ys, s2, h3, i2⟩ := ih (k + 1) _ s' e2 hk2 i'
      cases y with
      | none =>
        refine ⟨ys, s2, ?_, by simpa using i2⟩
        rw [lcL, if_pos (h0 _ _ _ i), h2]
        show (lcL ok f l s').bind _ = _
        rw [h3]; rfl
      | some y =>
        refine ⟨y :: ys, s2, ?_, by simpa using i2⟩
        rw [lcL, if_pos (h0 _ _ _ i), h2]
        show (lcL ok f l s').bind _ = _
        rw [h3]; rfl
  obtain ⟨ys, s', h, i'⟩ := key items 0 [] s rfl (Nat.zero_le _) i
  exact ⟨ys, s', h, by simpa using i'⟩
end Vm
set_option Elab.async false
set_option linter.all false
set_option maxRecDepth 100000
set_option maxHeartbeats 2000000
/-! The interpreter on texts and exceptions, as rewriting rules. -/
namespace Vm
open PySem
section
variable {D : Wd} {r r' : Rho} {s s1 s' : Vs} {b : IB}
theorem E_fst (l : IL) : den D (.fst l) r s = denJ D l Str.empty r s := by rw [den]
theorem J_nil (acc : Str) : denJ D .nil acc r s = .ok (.str acc) s := by rw [denJ]
noncomputable def jn (D : Wd) (l : IL) (acc : Str) (r : Rho) : W → Vs → Out W
  | .str y, s1 => if fits (acc ++ y).length then denJ D l (acc ++ y) r s1 else .err
  | _, _ => .err
theorem J_cons (a : IE) (l : IL) (acc : Str) : denJ D (.cons a l) acc r s = bd (fun x s1 => jn D l acc r x s1) ⟨den D a r s⟩ := by
  rw [denJ]
  show (den D a r s).bind _ = (den D a r s).bind _
  congr 1
  funext x s1
  cases x <;> rfl
theorem jn_str {l : IL} {acc y : Str} (h : fits (acc ++ y).length = true) : jn D l acc r (.str y) s = denJ D l (acc ++ y) r s := by
  show (if fits (acc ++ y).length = true then _ else _) = _
  rw [if_pos h]
theorem E_fmt (a : IE) : den D (.fmt a) r s = bd (fun x s1 => fmtV x s1) ⟨den D a r s⟩ := by rw [den] <;> rfl
def strO : W → Vs → Out W
  | .str y, s2 => .ok (.str y) s2
  | _, _ => .err
theorem strO_str (y : Str) (s : Vs) : strO (.str y) s = .ok (.str y) s := rfl
theorem E_ostr (c : Str) (a : IE) : den D (.ostr c a) r s = bd (fun x s1 => if ownOk c "__str__" x s1 = true then bd (fun w s2 => strO w s2) ⟨D.fe c "__str__" [x] s1⟩ else .err) ⟨den D a r s⟩ := by
  rw [den]
  show (den D a r s).bind _ = (den D a r s).bind _
  congr 1
  funext x s1
  by_cases h : ownOk c "__str__" x s1 = true
  · rw [if_pos h, if_pos h]
    show (D.fe c "__str__" [x] s1).bind _ = (D.fe c "__str__" [x] s1).bind _
    congr 1
    funext w s2
    cases w <;> rfl
  · rw [if_neg h, if_neg h]
theorem fmt_str {y : Str} (h : fits y.length = true) : fmtV (.str y) s = .ok (.str y) s := by
  show (if fits y.length = true then _ else _) = _
  rw [if_pos h]
/-- raise -/
structure Lx where
  o : Option Exn
def oX (r : Rho) (s : Vs) (z : Lx) : Fin := match z.o with
  | some x => .exc x r s
  | none => .err
theorem oX_some (x : Exn) : oX r s ⟨some x⟩ = .exc x r s := rfl
theorem C_rse (c : Str) (l : IL) : denB D (.cons (.rse c l) b) r s = fx r (fun ws s1 => oX r s1 ⟨xMake c ws⟩) ⟨denL D l r s⟩ := by
  rw [denB, denS]
  cases denL D l r s with
  | ok ws s1 =>
    show (match (match xMake c ws with | some x => Fin.exc x r s1 | none => .err) with | .nx r' s' => denB D b r' s' | .rt w s' => .rt w s' | .bk r' s' => .bk r' s' | .ct r' s' => .ct r' s' | .exc x r' s' => .exc x r' s' | .err => .err) = oX r s1 ⟨xMake c ws⟩
    unfold oX
    cases xMake c ws <;> rfl
  | exc x s1 => rfl
  | err => rfl
structure Lt where
  x : Fin
def trH (hs : List Hd) (z : Lt) : Fin := match z.x with
  | .exc x r s => handF hs x r s
  | o => o
theorem trH_nx (hs : List Hd) (r : Rho) (s : Vs) : trH hs ⟨.nx r s⟩ = .nx r s := rfl
theorem trH_rt (hs : List Hd) (w : W) (s : Vs) : trH hs ⟨.rt w s⟩ = .rt w s := rfl
theorem trH_exc (hs : List Hd) (x : Exn) (r : Rho) (s : Vs) : trH hs ⟨.exc x r s⟩ = handF hs x r s := rfl
theorem C_tryx (x : IB) (hs : List Hd) : denB D (.cons (.tryx x hs) b) r s = sq (fun r s => denB D b r s) ⟨trH hs ⟨denB D x r s⟩⟩ := by
  rw [denB, denS]
  unfold sq trH
  cases denB D x r s <;> rfl
end
end Vm
set_option Elab.async false
set_option linter.all false
set_option maxRecDepth 100000
set_option maxHeartbeats 2000000
/-! Fractions: what the text's functions of them tell. -/
namespace Vm
open PySem
def fr (q : Rat) : W := .tup [.int q.num, .int q.den]
/-- small: numerator and denominator lie below 2^k -/
def Sm (k : Nat) (q : Rat) : Prop := q.num.natAbs < 2 ^ k ∧ q.den < 2 ^ k
theorem log2_le {n k : Nat} (h : n < 2 ^ k) : n.log2 ≤ k := by
  by_cases h0 : n = 0
  · subst h0; exact Nat.zero_le _
  · exact Nat.le_of_lt ((Nat.log2_lt h0).mpr h)
theorem mulFits_of {i j : Int} {k l : Nat} (hi : i.natAbs < 2 ^ k) (hj : j.natAbs < 2 ^ l) (h : k + l < 1000000) : mulFits i j = true := by
  have a := log2_le hi
  have b := log2_le hj
  exact decide_eq_true (by omega)
theorem Sm.mono {k l : Nat} {q : Rat} (h : Sm k q) (hl : k ≤ l) : Sm l q := by
  have e : 2 ^ k ≤ 2 ^ l := Nat.pow_le_pow_right (by omega) hl
  exact ⟨Nat.lt_of_lt_of_le h.1 e, Nat.lt_of_lt_of_le h.2 e⟩
theorem sm_divInt {a b : Int} {k : Nat} (hb : b ≠ 0) (h1 : a.natAbs < 2 ^ k) (h2 : b.natAbs < 2 ^ k) : Sm k (Rat.divInt a b) := by
  refine ⟨?_, ?_⟩
  · rw [Rat.num_divInt]
    refine Nat.lt_of_le_of_lt (Int.natAbs_ediv_le_natAbs _ _) ?_
    rw [Int.natAbs_mul, Int.natAbs_sign_of_ne_zero hb, Nat.one_mul]
    exact h1
  · rw [Rat.den_divInt, if_neg hb]
    exact Nat.lt_of_le_of_lt (Nat.div_le_self _ _) h2
theorem pow_add_lt {x y k l : Nat} (hx : x < 2 ^ k) (hy : y < 2 ^ l) : x * y < 2 ^ (k + l) := by
  rw [Nat.pow_add]
  exact Nat.mul_lt_mul'' hx hy
theorem sub_divInt (p q : Rat) : p - q = Rat.divInt (p.num * q.den - q.num * p.den) ((p.den * q.den : Nat) : Int) := by rw [Rat.sub_def', Rat.divInt_ofNat]
theorem add_divInt (p q : Rat) : p + q = Rat.divInt (p.num * q.den + q.num * p.den) ((p.den * q.den : Nat) : Int) := by rw [Rat.add_def', Rat.divInt_ofNat]
theorem mul_divInt (p q : Rat) : p * q = Rat.divInt (p.num * q.num) ((p.den * q.den : Nat) : Int) := by rw [Rat.mul_def', Rat.divInt_ofNat]
theorem div_divInt (p q : Rat) : p / q = Rat.divInt (p.num * q.den) (p.den * q.num) := by
  rw [Rat.div_def, Rat.inv_def]
  conv => lhs; lhs; rw [← Rat.num_divInt_den p]
  rw [Rat.divInt_mul_divInt]
theorem den_ne (p : Rat) : ((p.den : Nat) : Int) ≠ 0 := by have := p.den_nz; omega
theorem den_pos' (p : Rat) : 0 < ((p.den : Nat) : Int) := by have := p.den_nz; omega
theorem sm_sub {k l : Nat} {p q : Rat} (hp : Sm k p) (hq : Sm l q) : Sm (k + l + 1) (p - q) := by
  have a := pow_add_lt hp.1 hq.2
  have b := pow_add_lt hq.1 hp.2
  have c := pow_add_lt hp.2 hq.2
  rw [Nat.add_comm l k] at b
  have e : 2 ^ (k + l + 1) = 2 ^ (k + l) + 2 ^ (k + l) := by rw [Nat.pow_succ]; omega
  rw [sub_divInt]
  have nz : ((p.den * q.den : Nat) : Int) ≠ 0 := by
    have := Nat.mul_pos (Nat.pos_of_ne_zero p.den_nz) (Nat.pos_of_ne_zero q.den_nz)
    omega
  refine sm_divInt nz ?_ ?_
  · have z := Int.natAbs_sub_le (p.num * q.den) (q.num * p.den)
    rw [Int.natAbs_mul, Int.natAbs_mul, Int.natAbs_natCast, Int.natAbs_natCast] at z
    omega
  · rw [Int.natAbs_natCast]; omega
theorem sm_add {k l : Nat} {p q : Rat} (hp : Sm k p) (hq : Sm l q) : Sm (k + l + 1) (p + q) := by
  have a := pow_add_lt hp.1 hq.2
  have b := pow_add_lt hq.1 hp.2
  have c := pow_add_lt hp.2 hq.2
  rw [Nat.add_comm l k] at b
  have e : 2 ^ (k + l + 1) = 2 ^ (k + l) + 2 ^ (k + l) := by rw [Nat.pow_succ]; omega
  rw [add_divInt]
  have nz : ((p.den * q.den : Nat) : Int) ≠ 0 := by
    have := Nat.mul_pos (Nat.pos_of_ne_zero p.den_nz) (Nat.pos_of_ne_zero q.den_nz)
    omega
  refine sm_divInt nz ?_ ?_
  · have z := Int.natAbs_add_le (p.num * q.den) (q.num * p.den)
    rw [Int.natAbs_mul, Int.natAbs_mul, Int.natAbs_natCast, Int.natAbs_natCast] at z
    omega
  · rw [Int.natAbs_natCast]; omega
theorem sm_mul {k l : Nat} {p q : Rat} (hp : Sm k p) (hq : Sm l q) : Sm (k + l) (p * q) := by
  have a := pow_add_lt hp.1 hq.1
  have c := pow_add_lt hp.2 hq.2
  rw [mul_divInt]
  have nz : ((p.den * q.den : Nat) : Int) ≠ 0 := by
    have := Nat.mul_pos (Nat.pos_of_ne_zero p.den_nz) (Nat.pos_of_ne_zero q.den_nz)
    omega
  refine sm_divInt nz ?_ ?_
  · rw [Int.natAbs_mul]; exact a
  · rw [Int.natAbs_natCast]; exact c
theorem sm_div {k l : Nat} {p q : Rat} (hp : Sm k p) (hq : Sm l q) (h0 : q ≠ 0) : Sm (k + l) (p / q) := by
  have a := pow_add_lt hp.1 hq.2
  have c := pow_add_lt hp.2 hq.1
  have n0 : q.num ≠ 0 := fun z => h0 (Rat.num_eq_zero.mp z)
  rw [div_divInt]
  refine sm_divInt (Int.mul_ne_zero (den_ne p) n0) ?_ ?_
  · rw [Int.natAbs_mul, Int.natAbs_natCast]; exact a
  · rw [Int.natAbs_mul, Int.natAbs_natCast]; exact c
/-- a whole division without a rest -/
theorem exact_pos {a b : Int} (hb : 0 < b) : a.fdiv (Int.gcd a b) = (Rat.divInt a b).num ∧ b.fdiv (Int.gcd a b) = ((Rat.divInt a b).den : Nat) := by
  have g0 : Int.gcd a b ≠ 0 := fun z => by have := Int.gcd_eq_zero_iff.mp z; omega
  obtain ⟨k, hk⟩ := Int.gcd_dvd_left a b
  obtain ⟨m, hm⟩ := Int.gcd_dvd_right a b
  have gz : ((Int.gcd a b : Nat) : Int) ≠ 0 := by omega
  rw [Rat.num_divInt, Rat.den_divInt, if_neg (by omega), Int.gcd_comm b a, Int.sign_eq_one_of_pos hb, Int.one_mul, Int.natCast_ediv]
  rw [Int.natAbs_of_nonneg (by omega)]
  refine ⟨?_, ?_⟩
  · rw [Int.fdiv_eq_ediv_of_nonneg _ (by omega)]
  · rw [Int.fdiv_eq_ediv_of_nonneg _ (by omega)]
theorem exact_neg {a b : Int} (hb : b < 0) : a.fdiv (0 - (Int.gcd a b : Int)) = (Rat.divInt a b).num ∧ b.fdiv (0 - (Int.gcd a b : Int)) = ((Rat.divInt a b).den : Nat) := by
  have g0 : Int.gcd a b ≠ 0 := fun z => by have := Int.gcd_eq_zero_iff.mp z; omega
  obtain ⟨k, hk⟩ := Int.gcd_dvd_left a b
  obtain ⟨m, hm⟩ := Int.gcd_dvd_right a b
  have gz : ((Int.gcd a b : Nat) : Int) ≠ 0 := by omega
  have gm : (0 - (Int.gcd a b : Int)) ≠ 0 := by omega
  rw [Rat.num_divInt, Rat.den_divInt, if_neg (by omega), Int.gcd_comm b a, Int.sign_eq_neg_one_of_neg hb, Int.natCast_ediv]
  have e : ((b.natAbs : Nat) : Int) = -b := by omega
  rw [e]
  generalize hg : ((Int.gcd a b : Nat) : Int) = g at *
  refine ⟨?_, ?_⟩
  · rw [hk, show g * k = (0 - g) * (-k) by grind, Int.mul_fdiv_cancel_left _ gm, show -1 * ((0 - g) * -k) = g * (-k) by grind, Int.mul_ediv_cancel_left _ gz]
  · rw [hm, show g * m = (0 - g) * (-m) by grind, Int.mul_fdiv_cancel_left _ gm, show -((0 - g) * -m) = g * (-m) by grind, Int.mul_ediv_cancel_left _ gz]
def d_fraction : Fd := ⟨2, 3, [], (.cons (.asg 2 (.call "common" (.cons (.var 0) (.cons (.var 1) .nil)))) (.cons (.ifs (.cmp .lt (.var 1) (.con (.int 0))) (.cons (.asg 2 (.bin .sub (.con (.int 0)) (.var 2))) .nil) .nil) (.cons (.ret (.tup (.cons (.bin .fdiv (.var 0) (.var 2)) (.cons (.bin .fdiv (.var 1) (.var 2)) .nil)))) .nil)))⟩
def d_minus : Fd := ⟨2, 2, [], (.cons (.ret (.call "fraction" (.cons (.bin .sub (.bin .mul (.idx (.var 0) (.con (.int 0))) (.idx (.var 1) (.con (.int 1)))) (.bin .mul (.idx (.var 1) (.con (.int 0))) (.idx (.var 0) (.con (.int 1))))) (.cons (.bin .mul (.idx (.var 0) (.con (.int 1))) (.idx (.var 1) (.con (.int 1)))) .nil)))) .nil)⟩
def d_times : Fd := ⟨2, 2, [], (.cons (.ret (.call "fraction" (.cons (.bin .mul (.idx (.var 0) (.con (.int 0))) (.idx (.var 1) (.con (.int 0)))) (.cons (.bin .mul (.idx (.var 0) (.con (.int 1))) (.idx (.var 1) (.con (.int 1)))) .nil)))) .nil)⟩
def d_over : Fd := ⟨2, 2, [], (.cons (.ret (.call "fraction" (.cons (.bin .mul (.idx (.var 0) (.con (.int 0))) (.idx (.var 1) (.con (.int 1)))) (.cons (.bin .mul (.idx (.var 0) (.con (.int 1))) (.idx (.var 1) (.con (.int 0)))) .nil)))) .nil)⟩
def d_less : Fd := ⟨2, 2, [], (.cons (.ret (.cmp .lt (.bin .mul (.idx (.var 0) (.con (.int 0))) (.idx (.var 1) (.con (.int 1)))) (.bin .mul (.idx (.var 1) (.con (.int 0))) (.idx (.var 0) (.con (.int 1)))))) .nil)⟩
structure FracT (T : Str → Str → Option Te) : Prop where
  common : T Str.empty "common" = some (.fn d_common)
  fraction : T Str.empty "fraction" = some (.fn d_fraction)
  minus : T Str.empty "minus" = some (.fn d_minus)
  times : T Str.empty "times" = some (.fn d_times)
  over : T Str.empty "over" = some (.fn d_over)
  less : T Str.empty "less" = some (.fn d_less)
section
variable {T : Str → Str → Option Te} {gl : Str → Option W} {fl : Str → List Str} {n : Nat} {s : Vs}
theorem gcd_log {a b : Int} {k : Nat} (hb : b ≠ 0) (h : b.natAbs < 2 ^ k) (hk : k < 9000) : (Int.gcd a b).log2 < 9000 ∧ Int.gcd a b ≠ 0 := by
  have g0 : Int.gcd a b ≠ 0 := fun z => hb (Int.gcd_eq_zero_iff.mp z).2
  have d : Int.gcd a b ∣ b.natAbs := Nat.gcd_dvd_right _ _
  have := Nat.le_of_dvd (by omega) d
  have := log2_le (Nat.lt_of_le_of_lt this h)
  omega
theorem sp_fraction (F : FracT T) {a b : Int} {k : Nat} (hb : b ≠ 0) (h : b.natAbs < 2 ^ k) (hk : k < 9000) : run T gl fl (n + 2) Str.empty "fraction" [.int a, .int b] s = .ok (fr (Rat.divInt a b)) s := by
  obtain ⟨hl, g0⟩ := gcd_log (a := a) hb h hk
  refine run_rt F.fraction rfl ?_
  show denB _ (.cons _ (.cons _ (.cons _ .nil))) [some (.int a), some (.int b), none] s = _
  rw [B_asg (w := .int (Int.gcd a b)) (s1 := s) (by simp only [den, denL, test, bind_ok, fin_ok, truth_bl, cmpV_lt, cmpV_le, cmpV_gt, cmpV_ge, binV_add, binV_sub, idx2_0, idx2_1, biV_abs, getO_0, getO_s, set_0, set_s, sif_t, sif_f, List.length_cons, List.length_nil, denL]; exact sp_common F.common a b)]
  by_cases hn : b < 0
  · rw [B_tt (r' := [some (.int a), some (.int b), some (.int (0 - (Int.gcd a b : Int)))]) (s1 := s) (s' := s) (by simp only [den, denL, test, bind_ok, fin_ok, truth_bl, cmpV_lt, cmpV_le, cmpV_gt, cmpV_ge, binV_add, binV_sub, idx2_0, idx2_1, biV_abs, getO_0, getO_s, set_0, set_s, sif_t, sif_f, List.length_cons, List.length_nil, denL, hn, decide_true]) (by rw [B_asg (w := .int (0 - (Int.gcd a b : Int))) (s1 := s) (by simp only [den, denL, test, bind_ok, fin_ok, truth_bl, cmpV_lt, cmpV_le, cmpV_gt, cmpV_ge, binV_add, binV_sub, idx2_0, idx2_1, biV_abs, getO_0, getO_s, set_0, set_s, sif_t, sif_f, List.length_cons, List.length_nil, denL])]; exact B_nil)]
    have gm : (0 - (Int.gcd a b : Int)) ≠ 0 := by omega
    refine B_ret ?_
    simp only [den, denL, test, bind_ok, fin_ok, truth_bl, cmpV_lt, cmpV_le, cmpV_gt, cmpV_ge, binV_add, binV_sub, idx2_0, idx2_1, biV_abs, getO_0, getO_s, set_0, set_s, sif_t, sif_f, List.length_cons, List.length_nil, denL, binV_fdiv gm (show (0 - (Int.gcd a b : Int)).natAbs.log2 < 9000 by rw [show (0 - (Int.gcd a b : Int)).natAbs = Int.gcd a b by omega]; exact hl)]
    rw [(exact_neg hn).1, (exact_neg hn).2]
    rfl
  · rw [B_f (s1 := s) (by simp only [den, denL, test, bind_ok, fin_ok, truth_bl, cmpV_lt, cmpV_le, cmpV_gt, cmpV_ge, binV_add, binV_sub, idx2_0, idx2_1, biV_abs, getO_0, getO_s, set_0, set_s, sif_t, sif_f, List.length_cons, List.length_nil, denL, hn, decide_false])]
    have gm : (Int.gcd a b : Int) ≠ 0 := by omega
    have hp : 0 < b := by omega
    refine B_ret ?_
    simp only [den, denL, test, bind_ok, fin_ok, truth_bl, cmpV_lt, cmpV_le, cmpV_gt, cmpV_ge, binV_add, binV_sub, idx2_0, idx2_1, biV_abs, getO_0, getO_s, set_0, set_s, sif_t, sif_f, List.length_cons, List.length_nil, denL, binV_fdiv gm (show (Int.gcd a b : Int).natAbs.log2 < 9000 by rw [Int.natAbs_natCast]; exact hl)]
    rw [(exact_pos hp).1, (exact_pos hp).2]
    rfl
theorem mf_num {k l : Nat} {p q : Rat} (hp : Sm k p) (hq : Sm l q) (h : k + l < 9000) : mulFits p.num q.den = true ∧ mulFits q.num p.den = true ∧ mulFits p.den q.den = true ∧ mulFits p.num q.num = true ∧ mulFits p.den q.num = true :=
  ⟨mulFits_of hp.1 (by rw [Int.natAbs_natCast]; exact hq.2) (by omega), mulFits_of hq.1 (by rw [Int.natAbs_natCast]; exact hp.2) (by omega), mulFits_of (by rw [Int.natAbs_natCast]; exact hp.2) (by rw [Int.natAbs_natCast]; exact hq.2) (by omega), mulFits_of hp.1 hq.1 (by omega), mulFits_of (by rw [Int.natAbs_natCast]; exact hp.2) hq.1 (by omega)⟩
theorem dd_ne (p q : Rat) : ((p.den : Int) * (q.den : Int)) ≠ 0 := Int.mul_ne_zero (den_ne p) (den_ne q)
theorem dd_lt {k l : Nat} {p q : Rat} (hp : Sm k p) (hq : Sm l q) : ((p.den : Int) * (q.den : Int)).natAbs < 2 ^ (k + l) := by
  rw [Int.natAbs_mul, Int.natAbs_natCast, Int.natAbs_natCast]
  exact pow_add_lt hp.2 hq.2
theorem sp_minus (F : FracT T) {k l : Nat} {p q : Rat} (hp : Sm k p) (hq : Sm l q) (h : k + l < 9000) : run T gl fl (n + 3) Str.empty "minus" [fr p, fr q] s = .ok (fr (p - q)) s := by
  obtain ⟨h1, h2, h3, _, _⟩ := mf_num hp hq h
  refine run_rt F.minus rfl ?_
  show denB _ (.cons _ .nil) [some (.tup [.int p.num, .int p.den]), some (.tup [.int q.num, .int q.den])] s = _
  refine B_ret ?_
  simp only [den, denL, test, bind_ok, fin_ok, truth_bl, cmpV_lt, cmpV_le, cmpV_gt, cmpV_ge, binV_add, binV_sub, idx2_0, idx2_1, biV_abs, getO_0, getO_s, set_0, set_s, sif_t, sif_f, List.length_cons, List.length_nil, denL, binV_mul h1, binV_mul h2, binV_mul h3]
  rw [sub_divInt, Int.natCast_mul]
  exact sp_fraction F (dd_ne p q) (dd_lt hp hq) h
theorem sp_times (F : FracT T) {k l : Nat} {p q : Rat} (hp : Sm k p) (hq : Sm l q) (h : k + l < 9000) : run T gl fl (n + 3) Str.empty "times" [fr p, fr q] s = .ok (fr (p * q)) s := by
  obtain ⟨h1, h2, h3, h4, _⟩ := mf_num hp hq h
  refine run_rt F.times rfl ?_
  show denB _ (.cons _ .nil) [some (.tup [.int p.num, .int p.den]), some (.tup [.int q.num, .int q.den])] s = _
  refine B_ret ?_
  simp only [den, denL, test, bind_ok, fin_ok, truth_bl, cmpV_lt, cmpV_le, cmpV_gt, cmpV_ge, binV_add, binV_sub, idx2_0, idx2_1, biV_abs, getO_0, getO_s, set_0, set_s, sif_t, sif_f, List.length_cons, List.length_nil, denL, binV_mul h3, binV_mul h4]
  rw [mul_divInt, Int.natCast_mul]
  exact sp_fraction F (dd_ne p q) (dd_lt hp hq) h
theorem sp_over (F : FracT T) {k l : Nat} {p q : Rat} (hp : Sm k p) (hq : Sm l q) (h : k + l < 9000) (h0 : q ≠ 0) : run T gl fl (n + 3) Str.empty "over" [fr p, fr q] s = .ok (fr (p / q)) s := by
  obtain ⟨h1, h2, h3, h4, h5⟩ := mf_num hp hq h
  have n0 : q.num ≠ 0 := fun z => h0 (Rat.num_eq_zero.mp z)
  refine run_rt F.over rfl ?_
  show denB _ (.cons _ .nil) [some (.tup [.int p.num, .int p.den]), some (.tup [.int q.num, .int q.den])] s = _
  refine B_ret ?_
  simp only [den, denL, test, bind_ok, fin_ok, truth_bl, cmpV_lt, cmpV_le, cmpV_gt, cmpV_ge, binV_add, binV_sub, idx2_0, idx2_1, biV_abs, getO_0, getO_s, set_0, set_s, sif_t, sif_f, List.length_cons, List.length_nil, denL, binV_mul h1, binV_mul h5]
  rw [div_divInt]
  refine sp_fraction F (Int.mul_ne_zero (den_ne p) n0) (k := k + l) ?_ h
  rw [Int.natAbs_mul, Int.natAbs_natCast]
  exact pow_add_lt hp.2 hq.1
theorem sp_less (F : FracT T) {k l : Nat} {p q : Rat} (hp : Sm k p) (hq : Sm l q) (h : k + l < 9000) : run T gl fl (n + 1) Str.empty "less" [fr p, fr q] s = .ok (.bl (decide (p < q))) s := by
  obtain ⟨h1, h2, h3, _, _⟩ := mf_num hp hq h
  refine run_rt F.less rfl ?_
  show denB _ (.cons _ .nil) [some (.tup [.int p.num, .int p.den]), some (.tup [.int q.num, .int q.den])] s = _
  refine B_ret ?_
  simp only [den, denL, test, bind_ok, fin_ok, truth_bl, cmpV_lt, cmpV_le, cmpV_gt, cmpV_ge, binV_add, binV_sub, idx2_0, idx2_1, biV_abs, getO_0, getO_s, set_0, set_s, sif_t, sif_f, List.length_cons, List.length_nil, denL, binV_mul h1, binV_mul h2]
  rw [decide_eq_decide.mpr (Rat.lt_iff p q)]
end
end Vm
set_option Elab.async false
set_option linter.all false
set_option maxRecDepth 100000
set_option maxHeartbeats 2000000
/-! Gold, and the law's own fractions. -/
namespace Vm
open PySem
theorem idx_fr0 (q : Rat) (s : Vs) : idxV (fr q) (.int 0) s = .ok (.int q.num) s := rfl
theorem idx_fr1 (q : Rat) (s : Vs) : idxV (fr q) (.int 1) s = .ok (.int q.den) s := rfl
theorem eqD_int (i j : Int) (s : Vs) : eqD s (.int i) (.int j) = some (decide (i = j)) := by
  show some (PyData.eqv (.int i) (.int j)) = _
  unfold PyData.eqv
  rfl
theorem eqD_two (a b c d : Int) (s : Vs) : eqD s (.tup [.int a, .int b]) (.tup [.int c, .int d]) = some (decide (a = c) && decide (b = d)) := by
  show some (PyData.eqv (.tuple [.int a, .int b]) (.tuple [.int c, .int d])) = _
  simp only [PyData.eqv, PyData.eqvAll, Bool.and_true]
  congr
theorem eqD_fr (p q : Rat) (s : Vs) : eqD s (fr p) (fr q) = some (decide (p = q)) := by
  show eqD s (.tup [.int p.num, .int p.den]) (.tup [.int q.num, .int q.den]) = _
  rw [eqD_two]
  congr 1
  by_cases h : p = q
  · subst h; simp
  · rw [decide_eq_false h]
    by_cases h1 : p.num = q.num
    · by_cases h2 : (p.den : Int) = q.den
      · exact absurd (Rat.ext h1 (by omega)) h
      · rw [decide_eq_false h2, Bool.and_false]
    · rw [decide_eq_false h1, Bool.false_and]
theorem cmpV_eqI (i j : Int) (s : Vs) : cmpV .eq (.int i) (.int j) s = .ok (.bl (decide (i = j))) s := by
  show (match eqD s (.int i) (.int j) with | some b => Out.ok (W.bl b) s | none => .err) = _
  rw [eqD_int]
theorem cmpV_neI (i j : Int) (s : Vs) : cmpV .ne (.int i) (.int j) s = .ok (.bl (!decide (i = j))) s := by
  show (match eqD s (.int i) (.int j) with | some b => Out.ok (W.bl (!b)) s | none => .err) = _
  rw [eqD_int]
theorem cmpV_eqF (p q : Rat) (s : Vs) : cmpV .eq (fr p) (fr q) s = .ok (.bl (decide (p = q))) s := by
  show (match eqD s (fr p) (fr q) with | some b => Out.ok (W.bl b) s | none => .err) = _
  rw [eqD_fr]
theorem cmpV_neF (p q : Rat) (s : Vs) : cmpV .ne (fr p) (fr q) s = .ok (.bl (!decide (p = q))) s := by
  show (match eqD s (fr p) (fr q) with | some b => Out.ok (W.bl (!b)) s | none => .err) = _
  rw [eqD_fr]
theorem isi_int (i : Int) (s : Vs) : isiV "int" (.int i) s = .ok (.bl true) s := by rfl
theorem isi_bool (i : Int) (s : Vs) : isiV "bool" (.int i) s = .ok (.bl false) s := by rfl
theorem isi_tup (q : Rat) (s : Vs) : isiV "tuple" (fr q) s = .ok (.bl true) s := by rfl
theorem len_fr (q : Rat) (s : Vs) : biV .len [fr q] s = .ok (.int 2) s := rfl
theorem len_tup (l : List W) (s : Vs) : biV .len [.tup l] s = .ok (.int l.length) s := rfl
theorem fr_eta (q : Rat) : Rat.divInt q.num q.den = q := Rat.num_divInt_den q
def d_is_whole : Fd := ⟨1, 1, [], (.cons (.ret (.and (.isi (.var 0) "int") (.not (.isi (.var 0) "bool")))) .nil)⟩
def d_is_fraction : Fd := ⟨1, 1, [], (.cons (.ifs (.or (.not (.isi (.var 0) "tuple")) (.or (.cmp .ne (.bi .len (.cons (.var 0) .nil)) (.con (.int 2))) (.or (.not (.call "is_whole" (.cons (.idx (.var 0) (.con (.int 0))) .nil))) (.not (.call "is_whole" (.cons (.idx (.var 0) (.con (.int 1))) .nil)))))) (.cons (.ret (.con (.bl false))) .nil) .nil) (.cons (.ret (.and (.cmp .ge (.idx (.var 0) (.con (.int 1))) (.con (.int 1))) (.cmp .eq (.call "fraction" (.cons (.idx (.var 0) (.con (.int 0))) (.cons (.idx (.var 0) (.con (.int 1))) .nil))) (.var 0)))) .nil))⟩
def d_is_weight : Fd := ⟨1, 1, [], (.cons (.ret (.and (.call "is_fraction" (.cons (.var 0) .nil)) (.cmp .gt (.idx (.var 0) (.con (.int 0))) (.con (.int 0))))) .nil)⟩
def d_is_fineness : Fd := ⟨1, 1, [], (.cons (.ret (.and (.call "is_fraction" (.cons (.var 0) .nil)) (.and (.cmp .ge (.idx (.var 0) (.con (.int 0))) (.con (.int 0))) (.not (.call "less" (.cons (.glo "ONE") (.cons (.var 0) .nil))))))) .nil)⟩
def d_Gold_init : Fd := ⟨3, 3, [], (.cons (.ifs (.not (.call "is_weight" (.cons (.var 1) .nil))) (.cons (.rse "" .nil) .nil) .nil) (.cons (.ifs (.not (.call "is_fineness" (.cons (.var 2) .nil))) (.cons (.rse "" .nil) .nil) .nil) (.cons (.sfld (.var 0) "weight" (.var 1)) (.cons (.sfld (.var 0) "fineness" (.var 2)) .nil))))⟩
def d_Gold_pure : Fd := ⟨1, 1, [], (.cons (.ret (.call "times" (.cons (.fld (.var 0) "weight") (.cons (.fld (.var 0) "fineness") .nil)))) .nil)⟩
def d_least_of : Fd := ⟨2, 2, [], (.cons (.ifs (.call "less" (.cons (.var 1) (.cons (.var 0) .nil))) (.cons (.ret (.var 1)) .nil) .nil) (.cons (.ret (.var 0)) .nil))⟩
def d_copper_in : Fd := ⟨1, 1, [], (.cons (.ret (.call "minus" (.cons (.fld (.var 0) "weight") (.cons (.omt "Gold" "pure" (.var 0) .nil) .nil)))) .nil)⟩
def d__law_frac : Fd := ⟨2, 5, [], (.cons (.par 3 4 (.var 0) (.var 1)) (.cons (.whl (.cmp .ne (.var 4) (.con (.int 0))) (.cons (.par 3 4 (.var 4) (.bin .mod (.var 3) (.var 4))) .nil)) (.cons (.asg 2 (.bin .mul (.bi .abs (.cons (.var 3) .nil)) (.bin .sub (.con (.int 1)) (.bin .mul (.con (.int 2)) (.bi .int (.cons (.cmp .lt (.var 1) (.con (.int 0))) .nil)))))) (.cons (.ret (.tup (.cons (.bin .fdiv (.var 0) (.var 2)) (.cons (.bin .fdiv (.var 1) (.var 2)) .nil)))) .nil))))⟩
def d__law_add : Fd := ⟨2, 2, [], (.cons (.ret (.call "_law_frac" (.cons (.bin .add (.bin .mul (.idx (.var 0) (.con (.int 0))) (.idx (.var 1) (.con (.int 1)))) (.bin .mul (.idx (.var 1) (.con (.int 0))) (.idx (.var 0) (.con (.int 1))))) (.cons (.bin .mul (.idx (.var 0) (.con (.int 1))) (.idx (.var 1) (.con (.int 1)))) .nil)))) .nil)⟩
def d__law_sub : Fd := ⟨2, 2, [], (.cons (.ret (.call "_law_frac" (.cons (.bin .sub (.bin .mul (.idx (.var 0) (.con (.int 0))) (.idx (.var 1) (.con (.int 1)))) (.bin .mul (.idx (.var 1) (.con (.int 0))) (.idx (.var 0) (.con (.int 1))))) (.cons (.bin .mul (.idx (.var 0) (.con (.int 1))) (.idx (.var 1) (.con (.int 1)))) .nil)))) .nil)⟩
def d__law_mul : Fd := ⟨2, 2, [], (.cons (.ret (.call "_law_frac" (.cons (.bin .mul (.idx (.var 0) (.con (.int 0))) (.idx (.var 1) (.con (.int 0)))) (.cons (.bin .mul (.idx (.var 0) (.con (.int 1))) (.idx (.var 1) (.con (.int 1)))) .nil)))) .nil)⟩
def d__law_less : Fd := ⟨2, 2, [], (.cons (.ret (.cmp .lt (.bin .mul (.idx (.var 0) (.con (.int 0))) (.idx (.var 1) (.con (.int 1)))) (.bin .mul (.idx (.var 1) (.con (.int 0))) (.idx (.var 0) (.con (.int 1)))))) .nil)⟩
structure GoldT (T : Str → Str → Option Te) (gl : Str → Option W) (fl : Str → List Str) : Prop extends FracT T where
  is_whole : T Str.empty "is_whole" = some (.fn d_is_whole)
  is_fraction : T Str.empty "is_fraction" = some (.fn d_is_fraction)
  is_weight : T Str.empty "is_weight" = some (.fn d_is_weight)
  is_fineness : T Str.empty "is_fineness" = some (.fn d_is_fineness)
  least_of : T Str.empty "least_of" = some (.fn d_least_of)
  copper_in : T Str.empty "copper_in" = some (.fn d_copper_in)
  gold : T Str.empty "Gold" = some .cls
  init : T "Gold" "__init__" = some (.fn d_Gold_init)
  pure : T "Gold" "pure" = some (.fn d_Gold_pure)
  nought : gl "NOUGHT" = some (fr 0)
  one : gl "ONE" = some (fr 1)
  flds : fl "Gold" = [("weight" : Str), ("fineness" : Str)]
structure LawT (T : Str → Str → Option Te) : Prop where
  frac : T Str.empty "_law_frac" = some (.fn d__law_frac)
  add : T Str.empty "_law_add" = some (.fn d__law_add)
  sub : T Str.empty "_law_sub" = some (.fn d__law_sub)
  mul : T Str.empty "_law_mul" = some (.fn d__law_mul)
  less : T Str.empty "_law_less" = some (.fn d__law_less)
section
variable {T : Str → Str → Option Te} {gl : Str → Option W} {fl : Str → List Str} {n : Nat} {s : Vs}
theorem sp_is_whole (G : GoldT T gl fl) (i : Int) : run T gl fl (n + 1) Str.empty "is_whole" [.int i] s = .ok (.bl true) s := by
  refine run_rt G.is_whole rfl (B_ret ?_)
  show den _ _ [some (.int i)] s = _
  simp only [den, denL, test, bind_ok, fin_ok, truth_bl, cmpV_lt, cmpV_le, cmpV_gt, cmpV_ge, binV_add, binV_sub, idx2_0, idx2_1, biV_abs, getO_0, getO_s, set_0, set_s, sif_t, sif_f, if_true, if_false, List.length_cons, List.length_nil, denL, isi_int, isi_bool, Bool.not_false]
theorem sp_is_fraction (G : GoldT T gl fl) {k : Nat} {q : Rat} (h : Sm k q) (hk : k < 9000) : run T gl fl (n + 3) Str.empty "is_fraction" [fr q] s = .ok (.bl true) s := by
  refine run_rt G.is_fraction rfl ?_
  show denB _ (.cons _ (.cons _ .nil)) [some (fr q)] s = _
  rw [B_f (s1 := s) (by simp only [den, denL, test, bind_ok, fin_ok, truth_bl, cmpV_lt, cmpV_le, cmpV_gt, cmpV_ge, binV_add, binV_sub, idx2_0, idx2_1, biV_abs, getO_0, getO_s, set_0, set_s, sif_t, sif_f, if_true, if_false, List.length_cons, List.length_nil, denL, isi_tup, Bool.not_true, len_fr, cmpV_neI, idx_fr0, idx_fr1, sp_is_whole G, decide_true])]
  have hd : (1 : Int) ≤ q.den := by have := den_pos' q; omega
  refine B_ret ?_
  simp only [den, denL, test, bind_ok, fin_ok, truth_bl, cmpV_lt, cmpV_le, cmpV_gt, cmpV_ge, binV_add, binV_sub, idx2_0, idx2_1, biV_abs, getO_0, getO_s, set_0, set_s, sif_t, sif_f, if_true, if_false, List.length_cons, List.length_nil, denL, idx_fr0, idx_fr1, hd, decide_true, sp_fraction G.toFracT (den_ne q) (show ((q.den : Nat) : Int).natAbs < 2 ^ k by rw [Int.natAbs_natCast]; exact h.2) hk, fr_eta, cmpV_eqF]
theorem sp_is_weight (G : GoldT T gl fl) {k : Nat} {q : Rat} (h : Sm k q) (hk : k < 9000) : run T gl fl (n + 4) Str.empty "is_weight" [fr q] s = .ok (.bl (decide (0 < q.num))) s := by
  refine run_rt G.is_weight rfl (B_ret ?_)
  show den _ _ [some (fr q)] s = _
  simp only [den, denL, test, bind_ok, fin_ok, truth_bl, cmpV_lt, cmpV_le, cmpV_gt, cmpV_ge, binV_add, binV_sub, idx2_0, idx2_1, biV_abs, getO_0, getO_s, set_0, set_s, sif_t, sif_f, if_true, if_false, List.length_cons, List.length_nil, denL, sp_is_fraction G h hk, idx_fr0]
theorem sm_one : Sm 1 (1 : Rat) := ⟨by decide, by decide⟩
theorem sm_zero : Sm 1 (0 : Rat) := ⟨by decide, by decide⟩
theorem sp_is_fineness (G : GoldT T gl fl) {k : Nat} {q : Rat} (h : Sm k q) (hk : k < 8000) (h0 : 0 ≤ q.num) (h1 : q ≤ 1) : run T gl fl (n + 4) Str.empty "is_fineness" [fr q] s = .ok (.bl true) s := by
  refine run_rt G.is_fineness rfl (B_ret ?_)
  show den _ _ [some (fr q)] s = _
  have hl : ¬ (1 < q) := Rat.not_lt.mpr h1
  simp only [den, denL, test, bind_ok, fin_ok, truth_bl, cmpV_lt, cmpV_le, cmpV_gt, cmpV_ge, binV_add, binV_sub, idx2_0, idx2_1, biV_abs, getO_0, getO_s, set_0, set_s, sif_t, sif_f, if_true, if_false, List.length_cons, List.length_nil, denL, sp_is_fraction G h (show k < 9000 by omega), idx_fr0, h0, decide_true, G.one, sp_less G.toFracT sm_one h (show 1 + k < 9000 by omega), hl, decide_false, Bool.not_false]
theorem sp_least_of (G : GoldT T gl fl) {k l : Nat} {p q : Rat} (hp : Sm k p) (hq : Sm l q) (h : k + l < 9000) : run T gl fl (n + 2) Str.empty "least_of" [fr p, fr q] s = .ok (fr (if q < p then q else p)) s := by
  refine run_rt G.least_of rfl ?_
  show denB _ (.cons _ (.cons _ .nil)) [some (fr p), some (fr q)] s = _
  by_cases hl : q < p
  · rw [if_pos hl]
    refine B_tr (s1 := s) (by simp only [den, denL, test, bind_ok, fin_ok, truth_bl, cmpV_lt, cmpV_le, cmpV_gt, cmpV_ge, binV_add, binV_sub, idx2_0, idx2_1, biV_abs, getO_0, getO_s, set_0, set_s, sif_t, sif_f, if_true, if_false, List.length_cons, List.length_nil, denL, sp_less G.toFracT hq hp (show l + k < 9000 by omega), hl, decide_true]) (B_ret (by simp only [den, denL, test, bind_ok, fin_ok, truth_bl, cmpV_lt, cmpV_le, cmpV_gt, cmpV_ge, binV_add, binV_sub, idx2_0, idx2_1, biV_abs, getO_0, getO_s, set_0, set_s, sif_t, sif_f, if_true, if_false, List.length_cons, List.length_nil, denL]))
  · rw [if_neg hl, B_f (s1 := s) (by simp only [den, denL, test, bind_ok, fin_ok, truth_bl, cmpV_lt, cmpV_le, cmpV_gt, cmpV_ge, binV_add, binV_sub, idx2_0, idx2_1, biV_abs, getO_0, getO_s, set_0, set_s, sif_t, sif_f, if_true, if_false, List.length_cons, List.length_nil, denL, sp_less G.toFracT hq hp (show l + k < 9000 by omega), hl, decide_false])]
    exact B_ret (by simp only [den, denL, test, bind_ok, fin_ok, truth_bl, cmpV_lt, cmpV_le, cmpV_gt, cmpV_ge, binV_add, binV_sub, idx2_0, idx2_1, biV_abs, getO_0, getO_s, set_0, set_s, sif_t, sif_f, if_true, if_false, List.length_cons, List.length_nil, denL])
/-! ### gold -/
def goldO (w f : Rat) : Ob := .ins "Gold" [("weight", fr w), ("fineness", fr f)]
theorem fld_weight {a : Nat} {w f : Rat} (h : s[a]? = some (goldO w f)) : fldV (.ref a) "weight" s = .ok (fr w) s := by
  show (match s[a]? with | some (.ins _ fs) => _ | _ => Out.err) = _
  rw [h]
  rfl
theorem fld_fineness {a : Nat} {w f : Rat} (h : s[a]? = some (goldO w f)) : fldV (.ref a) "fineness" s = .ok (fr f) s := by
  show (match s[a]? with | some (.ins _ fs) => _ | _ => Out.err) = _
  rw [h]
  rfl
theorem own_pure {a : Nat} {w f : Rat} (h : s[a]? = some (goldO w f)) : ownOk "Gold" "pure" (.ref a) s = true := by
  show (match s[a]? with | some (.ins c' fs) => decide (c' = "Gold") && (fs.lookup ("pure" : Str)).isNone | _ => false) = true
  rw [h]
  rfl
theorem sp_pure (G : GoldT T gl fl) {k l a : Nat} {w f : Rat} (ha : s[a]? = some (goldO w f)) (hw : Sm k w) (hf : Sm l f) (h : k + l < 9000) : run T gl fl (n + 4) "Gold" "pure" [.ref a] s = .ok (fr (w * f)) s := by
  refine run_rt G.pure rfl (B_ret ?_)
  show den _ _ [some (.ref a)] s = _
  simp only [den, denL, test, bind_ok, fin_ok, truth_bl, cmpV_lt, cmpV_le, cmpV_gt, cmpV_ge, binV_add, binV_sub, idx2_0, idx2_1, biV_abs, getO_0, getO_s, set_0, set_s, sif_t, sif_f, if_true, if_false, List.length_cons, List.length_nil, denL, fld_weight ha, fld_fineness ha, sp_times G.toFracT hw hf h]
theorem sp_copper_in (G : GoldT T gl fl) {k l a : Nat} {w f : Rat} (ha : s[a]? = some (goldO w f)) (hw : Sm k w) (hf : Sm l f) (h : k + (k + l) < 9000) : run T gl fl (n + 5) Str.empty "copper_in" [.ref a] s = .ok (fr (w - w * f)) s := by
  refine run_rt G.copper_in rfl (B_ret ?_)
  show den _ _ [some (.ref a)] s = _
  simp only [den, denL, test, bind_ok, fin_ok, truth_bl, cmpV_lt, cmpV_le, cmpV_gt, cmpV_ge, binV_add, binV_sub, idx2_0, idx2_1, biV_abs, getO_0, getO_s, set_0, set_s, sif_t, sif_f, if_true, if_false, List.length_cons, List.length_nil, denL, fld_weight ha, own_pure ha, sp_pure G ha hw hf (show k + l < 9000 by omega), sp_minus G.toFracT hw (sm_mul hw hf) h]
theorem set_last {α : Type} {l : List α} {x y : α} : (l ++ [x]).set l.length y = l ++ [y] := by
  rw [List.set_append_right _ _ (Nat.le_refl _), Nat.sub_self]
  rfl
theorem get_last {α : Type} {l : List α} {x : α} : (l ++ [x])[l.length]? = some x := by
  rw [List.getElem?_append_right (Nat.le_refl _), Nat.sub_self]
  rfl
theorem sfld_last {c f : Str} {v : W} {fs : List (Str × W)} (hl : fs.length < 1000) (h : (fl c).contains f = true) : sfldV fl (.ref s.length) f v (s ++ [.ins c fs]) = some (s ++ [.ins c (putW f v fs)]) := by
  show (match (s ++ [Ob.ins c fs])[s.length]? with | some (Ob.ins c' fs') => if decide (fs'.length < 1000) && (fl c').contains f then some ((s ++ [Ob.ins c fs]).set s.length (Ob.ins c' (putW f v fs'))) else none | _ => none) = _
  rw [get_last]
  show (if decide (fs.length < 1000) && (fl c).contains f then some (_ : Vs) else none) = _
  rw [decide_eq_true hl, h]
  show some ((s ++ [Ob.ins c fs]).set s.length _) = _
  rw [set_last]
theorem sp_Gold (G : GoldT T gl fl) {k l : Nat} {w f : Rat} (hw : Sm k w) (hf : Sm l f) (hk : k < 8000) (hl : l < 8000) (h0 : 0 < w) (h1 : 0 ≤ f) (h2 : f ≤ 1) : run T gl fl (n + 6) Str.empty "Gold" [fr w, fr f] s = .ok (.ref s.length) (s ++ [goldO w f]) := by
  have w0 : 0 < w.num := by
    have := Rat.num_nonneg.mpr (Rat.le_of_lt h0)
    have : w.num ≠ 0 := fun z => Rat.ne_of_gt h0 (Rat.num_eq_zero.mp z)
    omega
  have init : run T gl fl (n + 5) "Gold" "__init__" [.ref s.length, fr w, fr f] (s ++ [.ins "Gold" []]) = .ok .non (s ++ [goldO w f]) := by
    rw [run_fn G.init rfl]
    refine runB_nx (r := [some (.ref s.length), some (fr w), some (fr f)]) ?_
    show denB _ (.cons _ (.cons _ (.cons _ (.cons _ .nil)))) [some (.ref s.length), some (fr w), some (fr f)] _ = _
    rw [B_f (s1 := s ++ [.ins "Gold" []]) (by simp only [den, denL, test, bind_ok, fin_ok, truth_bl, cmpV_lt, cmpV_le, cmpV_gt, cmpV_ge, binV_add, binV_sub, idx2_0, idx2_1, biV_abs, getO_0, getO_s, set_0, set_s, sif_t, sif_f, if_true, if_false, List.length_cons, List.length_nil, denL, sp_is_weight G hw (show k < 9000 by omega), w0, decide_true, Bool.not_true])]
    rw [B_f (s1 := s ++ [.ins "Gold" []]) (by simp only [den, denL, test, bind_ok, fin_ok, truth_bl, cmpV_lt, cmpV_le, cmpV_gt, cmpV_ge, binV_add, binV_sub, idx2_0, idx2_1, biV_abs, getO_0, getO_s, set_0, set_s, sif_t, sif_f, if_true, if_false, List.length_cons, List.length_nil, denL, sp_is_fineness G hf hl (Rat.num_nonneg.mpr h1) h2, Bool.not_true])]
    rw [B_sfld (w := fr w) (x := .ref s.length) (s1 := s ++ [.ins "Gold" []]) (s2 := s ++ [.ins "Gold" []]) (s' := s ++ [.ins "Gold" [("weight", fr w)]]) (by simp only [den, denL, test, bind_ok, fin_ok, truth_bl, cmpV_lt, cmpV_le, cmpV_gt, cmpV_ge, binV_add, binV_sub, idx2_0, idx2_1, biV_abs, getO_0, getO_s, set_0, set_s, sif_t, sif_f, if_true, if_false, List.length_cons, List.length_nil, denL]) (by simp only [den, denL, test, bind_ok, fin_ok, truth_bl, cmpV_lt, cmpV_le, cmpV_gt, cmpV_ge, binV_add, binV_sub, idx2_0, idx2_1, biV_abs, getO_0, getO_s, set_0, set_s, sif_t, sif_f, if_true, if_false, List.length_cons, List.length_nil, denL]) (sfld_last (by decide) (by show (fl "Gold").contains _ = true; rw [G.flds]; rfl))]
    rw [B_sfld (w := fr f) (x := .ref s.length) (s1 := s ++ [.ins "Gold" [("weight", fr w)]]) (s2 := s ++ [.ins "Gold" [("weight", fr w)]]) (s' := s ++ [goldO w f]) (by simp only [den, denL, test, bind_ok, fin_ok, truth_bl, cmpV_lt, cmpV_le, cmpV_gt, cmpV_ge, binV_add, binV_sub, idx2_0, idx2_1, biV_abs, getO_0, getO_s, set_0, set_s, sif_t, sif_f, if_true, if_false, List.length_cons, List.length_nil, denL]) (by simp only [den, denL, test, bind_ok, fin_ok, truth_bl, cmpV_lt, cmpV_le, cmpV_gt, cmpV_ge, binV_add, binV_sub, idx2_0, idx2_1, biV_abs, getO_0, getO_s, set_0, set_s, sif_t, sif_f, if_true, if_false, List.length_cons, List.length_nil, denL]) (sfld_last (by show 1 < 1000; omega) (by show (fl "Gold").contains _ = true; rw [G.flds]; rfl))]
    exact B_nil
  rw [run, G.gold]
  show (match run T gl fl (n + 5) "Gold" "__init__" [.ref s.length, fr w, fr f] (s ++ [.ins "Gold" []]) with | .ok .non s' => Out.ok (W.ref s.length) s' | .exc x s' => .exc x s' | _ => .err) = _
  rw [init]
end
end Vm
set_option Elab.async false
set_option linter.all false
set_option maxRecDepth 100000
set_option maxHeartbeats 2000000
/-! The law's own draws and fractions. -/
namespace Vm
open PySem
theorem mf {i j : Int} (hi : i.natAbs < 2 ^ 250) (hj : j.natAbs < 2 ^ 250) : mulFits i j = true := mulFits_of hi hj (by omega)
theorem binV_modP {i j : Int} (h : 0 < j) (s : Vs) : binV .mod (.int i) (.int j) s = .ok (.int (i % j)) s := by rw [binV_mod (by omega), Int.fmod_eq_emod_of_nonneg _ (by omega)]
theorem binV_fdivP {i j : Int} (h : 0 < j) (h2 : j.natAbs < 2 ^ 250) (s : Vs) : binV .fdiv (.int i) (.int j) s = .ok (.int (i / j)) s := by
  have := log2_le h2
  rw [binV_fdiv (by omega) (by omega), Int.fdiv_eq_ediv_of_nonneg _ (by omega)]
theorem binV_pow {i j : Int} (h : 0 ≤ j ∧ j ≤ 1000000 ∧ i.natAbs < 2 ^ 64) (s : Vs) : binV .pow (.int i) (.int j) s = .ok (.int (i ^ j.toNat)) s := if_pos (decide_eq_true h)
theorem pow60 (s : Vs) : binV .pow (.int 10) (.int 60) s = .ok (.int (10 ^ 60)) s := binV_pow (by decide) s
theorem pow18 (s : Vs) : binV .pow (.int 10) (.int 18) s = .ok (.int (10 ^ 18)) s := binV_pow (by decide) s
theorem pow6 (s : Vs) : binV .pow (.int 10) (.int 6) s = .ok (.int (10 ^ 6)) s := binV_pow (by decide) s
theorem pow9 (s : Vs) : binV .pow (.int 10) (.int 9) s = .ok (.int (10 ^ 9)) s := binV_pow (by decide) s
theorem atI_nat {α : Type} {l : List α} {i : Int} {x : α} (h0 : 0 ≤ i) (h : l[i.toNat]? = some x) : L2.atI l i = some x := by
  have hl : i.toNat < l.length := (List.getElem?_eq_some_iff.mp h).1
  unfold L2.atI L2.ixN
  rw [if_pos h0, if_pos (by omega)]
  exact h
theorem idx_scr {l : List Int} {i x : Int} (h0 : 0 ≤ i) (h : l[i.toNat]? = some x) (s : Vs) : idxV (.scr l) (.int i) s = .ok (.int x) s := by
  show (match L2.atI l i with | some j => Out.ok (W.int j) s | none => .err) = _
  rw [atI_nat h0 h]
theorem lst_at {s : Vs} {a : Nat} {l : List W} (h : s[a]? = some (.lst l)) : lstAt s a = some l := by
  unfold lstAt
  rw [h]
theorem len_scr (l : List Int) (s : Vs) : biV .len [.scr l] s = .ok (.int l.length) s := rfl
theorem idx_ref {s : Vs} {a : Nat} {l : List W} {i : Int} {x : W} (h : s[a]? = some (.lst l)) (h0 : 0 ≤ i) (hx : l[i.toNat]? = some x) : idxV (.ref a) (.int i) s = .ok x s := by
  show (match lstAt s a with | some l => (match L2.atI l i with | some w => Out.ok w s | none => .err) | none => idxD (.ref a) (.int i) s) = _
  rw [lst_at h]
  show (match L2.atI l i with | some w => Out.ok w s | none => .err) = _
  rw [atI_nat h0 hx]
theorem setV_ref {s : Vs} {a : Nat} {l : List W} {i : Int} {v : W} (h : s[a]? = some (.lst l)) (h0 : 0 ≤ i) (hi : i.toNat < l.length) : setV (.ref a) (.int i) v s = some (s.set a (.lst (l.set i.toNat v))) := by
  show (match s[a]? with | some (.lst l) => (match L2.ixN l.length i with | some j => some (s.set a (.lst (l.set j v))) | none => none) | _ => setD (.ref a) (.int i) v s) = _
  rw [h]
  show (match L2.ixN l.length i with | some j => some (s.set a (.lst (l.set j v))) | none => none) = _
  unfold L2.ixN
  rw [if_pos h0, if_pos (by omega)]
/-! ### frames -/
/-- all but b stands as before -/
structure Fr (b : Nat → Prop) (s s' : Vs) : Prop where
  len : s.length ≤ s'.length
  at_ : ∀ i, i < s.length → ¬ b i → s'[i]? = s[i]?
theorem Fr.refl {b : Nat → Prop} {s : Vs} : Fr b s s := ⟨Nat.le_refl _, fun _ _ _ => rfl⟩
theorem Fr.trans {b : Nat → Prop} {s s1 s2 : Vs} (h : Fr b s s1) (k : Fr b s1 s2) : Fr b s s2 := ⟨Nat.le_trans h.len k.len, fun i hi hb => (k.at_ i (Nat.lt_of_lt_of_le hi h.len) hb).trans (h.at_ i hi hb)⟩
theorem Fr.mono {b c : Nat → Prop} {s s1 : Vs} (h : Fr b s s1) (k : ∀ i, b i → c i) : Fr c s s1 := ⟨h.len, fun i hi hb => h.at_ i hi fun z => hb (k i z)⟩
theorem Fr.app {b : Nat → Prop} {s t : Vs} : Fr b s (s ++ t) := ⟨by rw [List.length_append]; omega, fun i hi _ => List.getElem?_append_left hi⟩
theorem Fr.set {b : Nat → Prop} {s : Vs} {a : Nat} {o : Ob} (h : b a) : Fr b s (s.set a o) := ⟨by rw [List.length_set]; omega, fun i _ hb => List.getElem?_set_ne (by rintro rfl; exact hb h)⟩
theorem Fr.get {b : Nat → Prop} {s s1 : Vs} (h : Fr b s s1) {i : Nat} {o : Ob} (hi : s[i]? = some o) (hb : ¬ b i) : s1[i]? = some o := by
  have : i < s.length := (List.getElem?_eq_some_iff.mp hi).1
  rw [h.at_ i this hb, hi]
theorem lt_of_get {s : Vs} {i : Nat} {o : Ob} (hi : s[i]? = some o) : i < s.length := (List.getElem?_eq_some_iff.mp hi).1
/-- a frame from a place on: what lies behind it may change -/
theorem Fr.weak {b c : Nat → Prop} {s s1 s2 : Vs} (h : Fr b s s1) (k : Fr c s1 s2) (hc : ∀ i, i < s.length → c i → b i) : Fr b s s2 :=
  ⟨Nat.le_trans h.len k.len, fun i hi hb => (k.at_ i (Nat.lt_of_lt_of_le hi h.len) fun z => hb (hc i hi z)).trans (h.at_ i hi hb)⟩
/-! ### the bag -/
def BagOk (s : Vs) (b : Nat) : Prop := ∃ c d : Int, s[b]? = some (.lst [.int c, .int d]) ∧ 0 ≤ c ∧ c < 10 ^ 60 ∧ 0 ≤ d ∧ d < 2 ^ 31
theorem BagOk.lt {s : Vs} {b : Nat} (h : BagOk s b) : b < s.length := by
  obtain ⟨c, d, h, _⟩ := h
  exact lt_of_get h
theorem BagOk.fr {s s' : Vs} {b : Nat} {x : Nat → Prop} (h : BagOk s b) (f : Fr x s s') (hx : ¬ x b) : BagOk s' b := by
  obtain ⟨c, d, h, r⟩ := h
  exact ⟨c, d, f.get h hx, r⟩
def d__law_bag : Fd := ⟨2, 4, [], (.cons (.asg 2 (.con (.int 0))) (.cons (.ifs (.cmp .lt (.var 1) (.bi .len (.cons (.var 0) .nil))) (.cons (.asg 2 (.bin .mod (.idx (.var 0) (.var 1)) (.bin .pow (.con (.int 10)) (.con (.int 60))))) .nil) .nil) (.cons (.asg 3 (.bin .add (.con (.int 1)) (.bin .mod (.bin .add (.bin .add (.bin .add (.bin .mul (.bin .mod (.var 2) (.con (.int 2147483629))) (.con (.int 16807))) (.bin .mul (.bin .mul (.con (.int 40009)) (.var 1)) (.var 1))) (.bin .mul (.con (.int 7919)) (.var 1))) (.con (.int 1009))) (.con (.int 2147483645))))) (.cons (.ifs (.cmp .lt (.var 2) (.bin .pow (.con (.int 10)) (.con (.int 18)))) (.cons (.ret (.lst (.cons (.con (.int 0)) (.cons (.var 3) .nil)))) .nil) .nil) (.cons (.ret (.lst (.cons (.var 2) (.cons (.var 3) .nil)))) .nil)))))⟩
def d__law_take : Fd := ⟨2, 3, [], (.cons (.ifs (.cmp .gt (.idx (.var 0) (.con (.int 0))) (.con (.int 0))) (.cons (.asg 2 (.bin .mod (.idx (.var 0) (.con (.int 0))) (.var 1))) (.cons (.ssub (.var 0) (.con (.int 0)) (.bin .fdiv (.idx (.var 0) (.con (.int 0))) (.var 1))) (.cons (.ret (.var 2)) .nil))) .nil) (.cons (.ssub (.var 0) (.con (.int 1)) (.bin .mod (.bin .mul (.idx (.var 0) (.con (.int 1))) (.con (.int 48271))) (.con (.int 2147483647)))) (.cons (.ret (.bin .mod (.bin .fdiv (.bin .mod (.bin .mul (.bin .fdiv (.idx (.var 0) (.con (.int 1))) (.con (.int 13))) (.bin .add (.bin .mod (.idx (.var 0) (.con (.int 1))) (.con (.int 32749))) (.con (.int 17)))) (.con (.int 2147483629))) (.con (.int 32))) (.var 1))) .nil)))⟩
def d__law_weight : Fd := ⟨1, 2, [], (.cons (.asg 1 (.idx (.lst (.cons (.con (.int 12)) (.cons (.con (.int 99)) (.cons (.bin .pow (.con (.int 10)) (.con (.int 6))) .nil)))) (.call "_law_take" (.cons (.var 0) (.cons (.con (.int 3)) .nil))))) (.cons (.ret (.call "_law_frac" (.cons (.bin .add (.con (.int 1)) (.call "_law_take" (.cons (.var 0) (.cons (.var 1) .nil)))) (.cons (.bin .add (.con (.int 1)) (.call "_law_take" (.cons (.var 0) (.cons (.idx (.lst (.cons (.con (.int 1)) (.cons (.con (.int 4)) (.cons (.var 1) .nil)))) (.call "_law_take" (.cons (.var 0) (.cons (.con (.int 3)) .nil)))) .nil)))) .nil)))) .nil))⟩
def d__law_fine : Fd := ⟨1, 2, [], (.cons (.asg 1 (.idx (.lst (.cons (.con (.int 1)) (.cons (.con (.int 4)) (.cons (.con (.int 24)) (.cons (.con (.int 1000)) .nil))))) (.call "_law_take" (.cons (.var 0) (.cons (.con (.int 4)) .nil))))) (.cons (.ret (.call "_law_frac" (.cons (.call "_law_take" (.cons (.var 0) (.cons (.bin .add (.var 1) (.con (.int 1))) .nil))) (.cons (.var 1) .nil)))) .nil))⟩
structure DrawT (T : Str → Str → Option Te) : Prop where
  bag : T Str.empty "_law_bag" = some (.fn d__law_bag)
  take : T Str.empty "_law_take" = some (.fn d__law_take)
section
variable {T : Str → Str → Option Te} {gl : Str → Option W} {fl : Str → List Str} {n : Nat} {s : Vs}
theorem sp_bag (F : DrawT T) (ns : List Int) (k : Nat) (hk : k < 1000) : ∃ s', run T gl fl (n + 1) Str.empty "_law_bag" [.scr ns, .int k] s = .ok (.ref s.length) s' ∧ BagOk s' s.length ∧ Fr (fun _ => False) s s' := by
  -- the cell
  have cell : ∃ c : Int, 0 ≤ c ∧ c < 10 ^ 60 ∧ ∀ (b : IB), denB ⟨run T gl fl n, gl, fl⟩ (.cons (.asg 2 (.con (.int 0))) (.cons (.ifs (.cmp .lt (.var 1) (.bi .len (.cons (.var 0) .nil))) (.cons (.asg 2 (.bin .mod (.idx (.var 0) (.var 1)) (.bin .pow (.con (.int 10)) (.con (.int 60))))) .nil) .nil) b)) [some (.scr ns), some (.int k), none, none] s
      = denB ⟨run T gl fl n, gl, fl⟩ b [some (.scr ns), some (.int k), some (.int c), none] s := by
    by_cases h : k < ns.length
    · refine ⟨ns[k] % 10 ^ 60, Int.emod_nonneg _ (by decide), Int.emod_lt_of_pos _ (by decide), fun b => ?_⟩
      rw [B_asg (w := .int 0) (s1 := s) (by simp only [den, denL, test, bind_ok, fin_ok, truth_bl, cmpV_lt, cmpV_le, cmpV_gt, cmpV_ge, binV_add, binV_sub, idx2_0, idx2_1, biV_abs, getO_0, getO_s, set_0, set_s, sif_t, sif_f, if_true, if_false, List.length_cons, List.length_nil, denL])]
      have h2 : (k : Int) < (ns.length : Int) := by omega
      have h3 : ns[((k : Nat) : Int).toNat]? = some ns[k] := by rw [Int.toNat_natCast]; exact List.getElem?_eq_getElem h
      refine B_tt (s1 := s) ?_ ?_
      · simp only [den, denL, test, bind_ok, fin_ok, truth_bl, cmpV_lt, cmpV_le, cmpV_gt, cmpV_ge, binV_add, binV_sub, idx2_0, idx2_1, biV_abs, getO_0, getO_s, set_0, set_s, sif_t, sif_f, if_true, if_false, List.length_cons, List.length_nil, denL, len_scr, h2, decide_true]
      · rw [B_asg (w := .int (ns[k] % 10 ^ 60)) (s1 := s) (by simp only [den, denL, test, bind_ok, fin_ok, truth_bl, cmpV_lt, cmpV_le, cmpV_gt, cmpV_ge, binV_add, binV_sub, idx2_0, idx2_1, biV_abs, getO_0, getO_s, set_0, set_s, sif_t, sif_f, if_true, if_false, List.length_cons, List.length_nil, denL, idx_scr (show (0 : Int) ≤ k by omega) h3, pow60, binV_modP (show (0 : Int) < 10 ^ 60 by decide)])]
        exact B_nil
    · refine ⟨0, by decide, by decide, fun b => ?_⟩
      rw [B_asg (w := .int 0) (s1 := s) (by simp only [den, denL, test, bind_ok, fin_ok, truth_bl, cmpV_lt, cmpV_le, cmpV_gt, cmpV_ge, binV_add, binV_sub, idx2_0, idx2_1, biV_abs, getO_0, getO_s, set_0, set_s, sif_t, sif_f, if_true, if_false, List.length_cons, List.length_nil, denL])]
      have h2 : ¬ (k : Int) < (ns.length : Int) := by omega
      refine B_f (s1 := s) ?_
      simp only [den, denL, test, bind_ok, fin_ok, truth_bl, cmpV_lt, cmpV_le, cmpV_gt, cmpV_ge, binV_add, binV_sub, idx2_0, idx2_1, biV_abs, getO_0, getO_s, set_0, set_s, sif_t, sif_f, if_true, if_false, List.length_cons, List.length_nil, denL, len_scr, h2, decide_false]
  obtain ⟨c, c0, c1, hc⟩ := cell
  have kk : (k : Int) * k < 1000 * 1000 := by
    have : k * k < 1000 * 1000 := Nat.mul_lt_mul'' hk hk
    rw [← Int.natCast_mul]
    omega
  have k0 : (0 : Int) ≤ (k : Int) * k := by rw [← Int.natCast_mul]; omega
  have e40 : (40009 * (k : Int)) * k = 40009 * ((k : Int) * k) := Int.mul_assoc ..
  generalize hd : 1 + ((c % 2147483629 * 16807 + 40009 * (k : Int) * k + 7919 * (k : Int) + 1009) % 2147483645) = d
  have d0 : 0 ≤ d := by omega
  have d1 : d < 2 ^ 31 := by omega
  have run2 : ∀ (w : W) (s' : Vs), (denB ⟨run T gl fl n, gl, fl⟩ (.cons (.ifs (.cmp .lt (.var 2) (.bin .pow (.con (.int 10)) (.con (.int 18)))) (.cons (.ret (.lst (.cons (.con (.int 0)) (.cons (.var 3) .nil)))) .nil) .nil) (.cons (.ret (.lst (.cons (.var 2) (.cons (.var 3) .nil)))) .nil)) [some (.scr ns), some (.int k), some (.int c), some (.int d)] s = .rt w s') → run T gl fl (n + 1) Str.empty "_law_bag" [.scr ns, .int k] s = .ok w s' := fun w s' h => by
    refine run_rt F.bag rfl ?_
    show denB _ (.cons _ (.cons _ (.cons _ _))) [some (.scr ns), some (.int k), none, none] s = _
    rw [hc]
    have m1 : mulFits (c % 2147483629) 16807 = true := mf (by omega) (by decide)
    have m2 : mulFits 40009 (k : Int) = true := mf (by decide) (by omega)
    have m3 : mulFits (40009 * (k : Int)) k = true := mf (by omega) (by omega)
    have m4 : mulFits 7919 (k : Int) = true := mf (by decide) (by omega)
    rw [B_asg (w := .int d) (s1 := s) (by simp only [den, denL, test, bind_ok, fin_ok, truth_bl, cmpV_lt, cmpV_le, cmpV_gt, cmpV_ge, binV_add, binV_sub, idx2_0, idx2_1, biV_abs, getO_0, getO_s, set_0, set_s, sif_t, sif_f, if_true, if_false, List.length_cons, List.length_nil, denL, binV_modP (show (0 : Int) < 2147483629 by decide), binV_modP (show (0 : Int) < 2147483645 by decide), binV_mul m1, binV_mul m2, binV_mul m3, binV_mul m4, hd])]
    exact h
  by_cases h18 : c < 10 ^ 18
  · refine ⟨s ++ [.lst [.int 0, .int d]], run2 _ _ ?_, ⟨0, d, get_last, by decide, by decide, d0, d1⟩, Fr.app⟩
    refine B_tr (s1 := s) (by simp only [den, denL, test, bind_ok, fin_ok, truth_bl, cmpV_lt, cmpV_le, cmpV_gt, cmpV_ge, binV_add, binV_sub, idx2_0, idx2_1, biV_abs, getO_0, getO_s, set_0, set_s, sif_t, sif_f, if_true, if_false, List.length_cons, List.length_nil, denL, pow18, h18, decide_true]) (B_ret ?_)
    simp only [den, denL, test, bind_ok, fin_ok, truth_bl, cmpV_lt, cmpV_le, cmpV_gt, cmpV_ge, binV_add, binV_sub, idx2_0, idx2_1, biV_abs, getO_0, getO_s, set_0, set_s, sif_t, sif_f, if_true, if_false, List.length_cons, List.length_nil, denL]
    rfl
  · refine ⟨s ++ [.lst [.int c, .int d]], run2 _ _ ?_, ⟨c, d, get_last, c0, c1, d0, d1⟩, Fr.app⟩
    rw [B_f (s1 := s) (by simp only [den, denL, test, bind_ok, fin_ok, truth_bl, cmpV_lt, cmpV_le, cmpV_gt, cmpV_ge, binV_add, binV_sub, idx2_0, idx2_1, biV_abs, getO_0, getO_s, set_0, set_s, sif_t, sif_f, if_true, if_false, List.length_cons, List.length_nil, denL, pow18, h18, decide_false])]
    refine B_ret ?_
    simp only [den, denL, test, bind_ok, fin_ok, truth_bl, cmpV_lt, cmpV_le, cmpV_gt, cmpV_ge, binV_add, binV_sub, idx2_0, idx2_1, biV_abs, getO_0, getO_s, set_0, set_s, sif_t, sif_f, if_true, if_false, List.length_cons, List.length_nil, denL]
    rfl
theorem sp_take (F : DrawT T) {b : Nat} {m : Int} (h : BagOk s b) (hm : 0 < m) (hm2 : m < 2 ^ 60) : ∃ r s', run T gl fl (n + 1) Str.empty "_law_take" [.ref b, .int m] s = .ok (.int r) s' ∧ 0 ≤ r ∧ r < m ∧ BagOk s' b ∧ Fr (· = b) s s' ∧ s'.length = s.length := by
  obtain ⟨c, d, hb, c0, c1, d0, d1⟩ := h
  have hl := lt_of_get hb
  have i0 : idxV (.ref b) (.int 0) s = .ok (.int c) s := idx_ref hb (by decide) rfl
  have i1 : idxV (.ref b) (.int 1) s = .ok (.int d) s := idx_ref hb (by decide) rfl
  by_cases hc : 0 < c
  · refine ⟨c % m, s.set b (.lst [.int (c / m), .int d]), ?_, Int.emod_nonneg _ (by omega), Int.emod_lt_of_pos _ hm, ⟨c / m, d, List.getElem?_set_self hl, Int.ediv_nonneg c0 (by omega), ?_, d0, d1⟩, Fr.set rfl, List.length_set⟩
    · refine run_rt F.take rfl ?_
      show denB _ (.cons _ (.cons _ _)) [some (.ref b), some (.int m), none] s = _
      refine B_tr (s1 := s) (by simp only [den, denL, test, bind_ok, fin_ok, truth_bl, cmpV_lt, cmpV_le, cmpV_gt, cmpV_ge, binV_add, binV_sub, idx2_0, idx2_1, biV_abs, getO_0, getO_s, set_0, set_s, sif_t, sif_f, if_true, if_false, List.length_cons, List.length_nil, denL, i0, hc, decide_true]) ?_
      rw [B_asg (w := .int (c % m)) (s1 := s) (by simp only [den, denL, test, bind_ok, fin_ok, truth_bl, cmpV_lt, cmpV_le, cmpV_gt, cmpV_ge, binV_add, binV_sub, idx2_0, idx2_1, biV_abs, getO_0, getO_s, set_0, set_s, sif_t, sif_f, if_true, if_false, List.length_cons, List.length_nil, denL, i0, binV_modP hm])]
      rw [B_ssub (w := .int (c / m)) (x := .ref b) (k := .int 0) (s1 := s) (s2 := s) (s3 := s) (s' := s.set b (.lst [.int (c / m), .int d])) (by simp only [den, denL, test, bind_ok, fin_ok, truth_bl, cmpV_lt, cmpV_le, cmpV_gt, cmpV_ge, binV_add, binV_sub, idx2_0, idx2_1, biV_abs, getO_0, getO_s, set_0, set_s, sif_t, sif_f, if_true, if_false, List.length_cons, List.length_nil, denL, i0, binV_fdivP hm (show m.natAbs < 2 ^ 250 by omega)]) (by simp only [den, denL, test, bind_ok, fin_ok, truth_bl, cmpV_lt, cmpV_le, cmpV_gt, cmpV_ge, binV_add, binV_sub, idx2_0, idx2_1, biV_abs, getO_0, getO_s, set_0, set_s, sif_t, sif_f, if_true, if_false, List.length_cons, List.length_nil, denL]) (by simp only [den, denL, test, bind_ok, fin_ok, truth_bl, cmpV_lt, cmpV_le, cmpV_gt, cmpV_ge, binV_add, binV_sub, idx2_0, idx2_1, biV_abs, getO_0, getO_s, set_0, set_s, sif_t, sif_f, if_true, if_false, List.length_cons, List.length_nil, denL]) (setV_ref hb (by decide) (by show 0 < 2; omega))]
      exact B_ret (by simp only [den, denL, test, bind_ok, fin_ok, truth_bl, cmpV_lt, cmpV_le, cmpV_gt, cmpV_ge, binV_add, binV_sub, idx2_0, idx2_1, biV_abs, getO_0, getO_s, set_0, set_s, sif_t, sif_f, if_true, if_false, List.length_cons, List.length_nil, denL])
    · exact Int.lt_of_le_of_lt (Int.ediv_le_self _ c0) c1
  · generalize hd : d * 48271 % 2147483647 = d2
    have e0 : 0 ≤ d2 := by omega
    have e1 : d2 < 2 ^ 31 := by omega
    generalize hr : d2 / 13 * (d2 % 32749 + 17) % 2147483629 / 32 = r2
    have g2 : (s.set b (.lst [.int c, .int d2]))[b]? = some (.lst [.int c, .int d2]) := List.getElem?_set_self hl
    have j1 : idxV (.ref b) (.int 1) (s.set b (.lst [.int c, .int d2])) = .ok (.int d2) (s.set b (.lst [.int c, .int d2])) := idx_ref g2 (by decide) rfl
    refine ⟨r2 % m, s.set b (.lst [.int c, .int d2]), ?_, Int.emod_nonneg _ (by omega), Int.emod_lt_of_pos _ hm, ⟨c, d2, g2, c0, c1, e0, e1⟩, Fr.set rfl, List.length_set⟩
    refine run_rt F.take rfl ?_
    show denB _ (.cons _ (.cons _ _)) [some (.ref b), some (.int m), none] s = _
    rw [B_f (s1 := s) (by simp only [den, denL, test, bind_ok, fin_ok, truth_bl, cmpV_lt, cmpV_le, cmpV_gt, cmpV_ge, binV_add, binV_sub, idx2_0, idx2_1, biV_abs, getO_0, getO_s, set_0, set_s, sif_t, sif_f, if_true, if_false, List.length_cons, List.length_nil, denL, i0, hc, decide_false])]
    have m1 : mulFits d 48271 = true := mf (by omega) (by decide)
    have m2 : mulFits (d2 / 13) (d2 % 32749 + 17) = true := mf (by omega) (by omega)
    rw [B_ssub (w := .int d2) (x := .ref b) (k := .int 1) (s1 := s) (s2 := s) (s3 := s) (s' := s.set b (.lst [.int c, .int d2])) (by simp only [den, denL, test, bind_ok, fin_ok, truth_bl, cmpV_lt, cmpV_le, cmpV_gt, cmpV_ge, binV_add, binV_sub, idx2_0, idx2_1, biV_abs, getO_0, getO_s, set_0, set_s, sif_t, sif_f, if_true, if_false, List.length_cons, List.length_nil, denL, i1, binV_mul m1, binV_modP (show (0 : Int) < 2147483647 by decide), hd]) (by simp only [den, denL, test, bind_ok, fin_ok, truth_bl, cmpV_lt, cmpV_le, cmpV_gt, cmpV_ge, binV_add, binV_sub, idx2_0, idx2_1, biV_abs, getO_0, getO_s, set_0, set_s, sif_t, sif_f, if_true, if_false, List.length_cons, List.length_nil, denL]) (by simp only [den, denL, test, bind_ok, fin_ok, truth_bl, cmpV_lt, cmpV_le, cmpV_gt, cmpV_ge, binV_add, binV_sub, idx2_0, idx2_1, biV_abs, getO_0, getO_s, set_0, set_s, sif_t, sif_f, if_true, if_false, List.length_cons, List.length_nil, denL]) (setV_ref hb (by decide) (by show 1 < 2; omega))]
    refine B_ret ?_
    simp only [den, denL, test, bind_ok, fin_ok, truth_bl, cmpV_lt, cmpV_le, cmpV_gt, cmpV_ge, binV_add, binV_sub, idx2_0, idx2_1, biV_abs, getO_0, getO_s, set_0, set_s, sif_t, sif_f, if_true, if_false, List.length_cons, List.length_nil, denL, j1, binV_fdivP (show (0 : Int) < 13 by decide) (by decide), binV_modP (show (0 : Int) < 32749 by decide), binV_mul m2, binV_modP (show (0 : Int) < 2147483629 by decide), binV_fdivP (show (0 : Int) < 32 by decide) (by decide), binV_modP hm, hr]
end
end Vm
set_option Elab.async false
set_option linter.all false
set_option maxRecDepth 100000
set_option maxHeartbeats 2000000
/-! The law's own fractions, weights and finenesses. -/
namespace Vm
open PySem
theorem int_bl (b : Bool) (s : Vs) : biV .int [.bl b] s = .ok (.int (if b then 1 else 0)) s := rfl
theorem fits1 : fits (0 + 1) = true := by decide
theorem fits2 : fits (0 + 1 + 1) = true := by decide
theorem fits3 : fits (0 + 1 + 1 + 1) = true := by decide
theorem fits4 : fits (0 + 1 + 1 + 1 + 1) = true := by decide
theorem fits5 : fits (0 + 1 + 1 + 1 + 1 + 1) = true := by decide
theorem fits6 : fits (0 + 1 + 1 + 1 + 1 + 1 + 1) = true := by decide
theorem fits7 : fits (0 + 1 + 1 + 1 + 1 + 1 + 1 + 1) = true := by decide
theorem fits8 : fits (0 + 1 + 1 + 1 + 1 + 1 + 1 + 1 + 1) = true := by decide
theorem newL_eq (l : List W) (s : Vs) : newL l s = .ok (.ref s.length) (s ++ [.lst l]) := rfl
/-- the loop of _law_frac -/
theorem euclidN {D : Wd} {s : Vs} {x0 x1 x2 : Option W} : ∀ (b a : Nat), ∃ k, iter (test D (.cmp .ne (.var 4) (.con (.int 0)))) (denB D (.cons (.par 3 4 (.var 4) (.bin .mod (.var 3) (.var 4))) .nil)) k [x0, x1, x2, some (.int a), some (.int b)] s = .nx [x0, x1, x2, some (.int (Nat.gcd a b)), some (.int 0)] s := by
  intro b
  induction b using Nat.strongRecOn with
  | _ b ih =>
    intro a
    by_cases hb : b = 0
    · subst hb
      refine ⟨1, ?_⟩
      rw [iter_stop (s1 := s) (by simp only [den, denL, test, bind_ok, fin_ok, truth_bl, cmpV_lt, cmpV_le, cmpV_gt, cmpV_ge, binV_add, binV_sub, idx2_0, idx2_1, biV_abs, getO_0, getO_s, set_0, set_s, sif_t, sif_f, if_true, if_false, List.length_cons, List.length_nil, denL, cmpV_neI]; rfl)]
      rw [Nat.gcd_zero_right]
      rfl
    · obtain ⟨k, hk⟩ := ih (a % b) (Nat.mod_lt _ (by omega)) b
      refine ⟨k + 1, ?_⟩
      have hb' : ¬ ((b : Int) = 0) := by omega
      have hb2 : (b : Int) ≠ 0 := by omega
      rw [iter_go (s1 := s) (r' := [x0, x1, x2, some (.int b), some (.int ((a % b : Nat) : Int))]) (s' := s) (by simp only [den, denL, test, bind_ok, fin_ok, truth_bl, cmpV_lt, cmpV_le, cmpV_gt, cmpV_ge, binV_add, binV_sub, idx2_0, idx2_1, biV_abs, getO_0, getO_s, set_0, set_s, sif_t, sif_f, if_true, if_false, List.length_cons, List.length_nil, denL, cmpV_neI, hb', decide_false, Bool.not_false]) (by rw [B_par (x := .int b) (y := .int ((a % b : Nat) : Int)) (s1 := s) (s2 := s) (by simp only [den, denL, test, bind_ok, fin_ok, truth_bl, cmpV_lt, cmpV_le, cmpV_gt, cmpV_ge, binV_add, binV_sub, idx2_0, idx2_1, biV_abs, getO_0, getO_s, set_0, set_s, sif_t, sif_f, if_true, if_false, List.length_cons, List.length_nil, denL]) (by simp only [den, denL, test, bind_ok, fin_ok, truth_bl, cmpV_lt, cmpV_le, cmpV_gt, cmpV_ge, binV_add, binV_sub, idx2_0, idx2_1, biV_abs, getO_0, getO_s, set_0, set_s, sif_t, sif_f, if_true, if_false, List.length_cons, List.length_nil, denL, binV_mod hb2, fmod_nat])]; exact B_nil)]
      rw [hk, Nat.gcd_comm b, Nat.gcd_comm a b, Nat.gcd_rec b a]
theorem gcd_step (a : Int) {b : Nat} (hb : 0 < b) : Nat.gcd b (a % b).toNat = Int.gcd a b := by
  have e : a = a % b + b * (a / b) := (Int.emod_add_mul_ediv a b).symm
  have h0 : 0 ≤ a % (b : Int) := Int.emod_nonneg _ (by omega)
  have h1 : Int.gcd a b = Int.gcd (a % b) b := by
    conv => lhs; rw [e]
    exact Int.gcd_add_mul_left_left ..
  rw [h1]
  unfold Int.gcd
  rw [Int.natAbs_natCast, Nat.gcd_comm]
  congr 1
  omega
theorem euclidZ {D : Wd} {s : Vs} {x0 x1 x2 : Option W} (a : Int) {b : Nat} (hb : 0 < b) : ∃ k, iter (test D (.cmp .ne (.var 4) (.con (.int 0)))) (denB D (.cons (.par 3 4 (.var 4) (.bin .mod (.var 3) (.var 4))) .nil)) k [x0, x1, x2, some (.int a), some (.int b)] s = .nx [x0, x1, x2, some (.int (Int.gcd a b)), some (.int 0)] s := by
  obtain ⟨k, hk⟩ := euclidN (D := D) (s := s) (x0 := x0) (x1 := x1) (x2 := x2) (a % b).toNat b
  refine ⟨k + 1, ?_⟩
  have hb' : ¬ ((b : Int) = 0) := by omega
  have h0 : 0 ≤ a % (b : Int) := Int.emod_nonneg _ (by omega)
  have e : (((a % b).toNat : Nat) : Int) = a % b := Int.toNat_of_nonneg h0
  rw [iter_go (s1 := s) (r' := [x0, x1, x2, some (.int b), some (.int (((a % b).toNat : Nat) : Int))]) (s' := s) (by simp only [den, denL, test, bind_ok, fin_ok, truth_bl, cmpV_lt, cmpV_le, cmpV_gt, cmpV_ge, binV_add, binV_sub, idx2_0, idx2_1, biV_abs, getO_0, getO_s, set_0, set_s, sif_t, sif_f, if_true, if_false, List.length_cons, List.length_nil, denL, cmpV_neI, hb', decide_false, Bool.not_false]) (by rw [B_par (x := .int b) (y := .int (((a % b).toNat : Nat) : Int)) (s1 := s) (s2 := s) (by simp only [den, denL, test, bind_ok, fin_ok, truth_bl, cmpV_lt, cmpV_le, cmpV_gt, cmpV_ge, binV_add, binV_sub, idx2_0, idx2_1, biV_abs, getO_0, getO_s, set_0, set_s, sif_t, sif_f, if_true, if_false, List.length_cons, List.length_nil, denL]) (by simp only [den, denL, test, bind_ok, fin_ok, truth_bl, cmpV_lt, cmpV_le, cmpV_gt, cmpV_ge, binV_add, binV_sub, idx2_0, idx2_1, biV_abs, getO_0, getO_s, set_0, set_s, sif_t, sif_f, if_true, if_false, List.length_cons, List.length_nil, denL, binV_modP (show (0 : Int) < b by omega), e])]; exact B_nil)]
  rw [hk, gcd_step a hb]
structure DrawT2 (T : Str → Str → Option Te) : Prop extends DrawT T, LawT T where
  weight : T Str.empty "_law_weight" = some (.fn d__law_weight)
  fine : T Str.empty "_law_fine" = some (.fn d__law_fine)
section
variable {T : Str → Str → Option Te} {gl : Str → Option W} {fl : Str → List Str} {n : Nat} {s : Vs}
theorem sp_law_frac (L : LawT T) {a b : Int} {k : Nat} (hb : 0 < b) (h : b.natAbs < 2 ^ k) (hk : k < 9000) : run T gl fl (n + 1) Str.empty "_law_frac" [.int a, .int b] s = .ok (fr (Rat.divInt a b)) s := by
  obtain ⟨hl, g0⟩ := gcd_log (a := a) (show b ≠ 0 by omega) h hk
  obtain ⟨B, rfl⟩ : ∃ B : Nat, b = B := ⟨b.toNat, by omega⟩
  obtain ⟨j, hj⟩ := euclidZ (D := ⟨run T gl fl n, gl, fl⟩) (s := s) (x0 := some (.int a)) (x1 := some (.int B)) (x2 := none) a (show 0 < B by omega)
  refine run_rt L.frac rfl ?_
  show denB _ (.cons _ (.cons _ (.cons _ (.cons _ .nil)))) [some (.int a), some (.int B), none, none, none] s = _
  rw [B_par (x := .int a) (y := .int B) (s1 := s) (s2 := s) (by simp only [den, denL, test, bind_ok, fin_ok, truth_bl, cmpV_lt, cmpV_le, cmpV_gt, cmpV_ge, binV_add, binV_sub, idx2_0, idx2_1, biV_abs, getO_0, getO_s, set_0, set_s, sif_t, sif_f, if_true, if_false, List.length_cons, List.length_nil, denL]) (by simp only [den, denL, test, bind_ok, fin_ok, truth_bl, cmpV_lt, cmpV_le, cmpV_gt, cmpV_ge, binV_add, binV_sub, idx2_0, idx2_1, biV_abs, getO_0, getO_s, set_0, set_s, sif_t, sif_f, if_true, if_false, List.length_cons, List.length_nil, denL])]
  simp only [set_0, set_s]
  rw [B_whl hj]
  have gp : (0 : Int) < (Int.gcd a B : Int) := by omega
  have nb : ¬ ((B : Int) < 0) := by omega
  have gl1 : ¬ ((Int.gcd a B : Int) < 0) := by omega
  have dv : Int.gcd a B ∣ (B : Int).natAbs := Nat.gcd_dvd_right _ _
  have gk : Int.gcd a B < 2 ^ k := Nat.lt_of_le_of_lt (Nat.le_of_dvd (by omega) dv) h
  have m1 : mulFits (Int.gcd a B : Int) (1 - 2 * 0) = true := mulFits_of (k := k) (l := 1) (by rw [Int.natAbs_natCast]; exact gk) (by decide) (by omega)
  have m2 : mulFits 2 0 = true := by decide
  rw [B_asg (w := .int (Int.gcd a B)) (s1 := s) (by simp only [den, denL, test, bind_ok, fin_ok, truth_bl, cmpV_lt, cmpV_le, cmpV_gt, cmpV_ge, binV_add, binV_sub, idx2_0, idx2_1, biV_abs, getO_0, getO_s, set_0, set_s, sif_t, sif_f, if_true, if_false, List.length_cons, List.length_nil, denL, nb, decide_false, int_bl, binV_mul m2, Bool.false_eq_true, binV_mul m1, gl1]; congr 2; omega)]
  have gm : (Int.gcd a B : Int) ≠ 0 := by omega
  refine B_ret ?_
  simp only [den, denL, test, bind_ok, fin_ok, truth_bl, cmpV_lt, cmpV_le, cmpV_gt, cmpV_ge, binV_add, binV_sub, idx2_0, idx2_1, biV_abs, getO_0, getO_s, set_0, set_s, sif_t, sif_f, if_true, if_false, List.length_cons, List.length_nil, denL, binV_fdiv gm (show (Int.gcd a B : Int).natAbs.log2 < 9000 by rw [Int.natAbs_natCast]; exact hl)]
  rw [(exact_pos hb).1, (exact_pos hb).2]
  rfl
theorem dd_pos (p q : Rat) : 0 < ((p.den : Int) * (q.den : Int)) := Int.mul_pos (den_pos' p) (den_pos' q)
theorem sp_law_sub (L : LawT T) {k l : Nat} {p q : Rat} (hp : Sm k p) (hq : Sm l q) (h : k + l < 9000) : run T gl fl (n + 2) Str.empty "_law_sub" [fr p, fr q] s = .ok (fr (p - q)) s := by
  obtain ⟨h1, h2, h3, _, _⟩ := mf_num hp hq h
  refine run_rt L.sub rfl (B_ret ?_)
  show den _ _ [some (fr p), some (fr q)] s = _
  simp only [den, denL, test, bind_ok, fin_ok, truth_bl, cmpV_lt, cmpV_le, cmpV_gt, cmpV_ge, binV_add, binV_sub, idx2_0, idx2_1, biV_abs, getO_0, getO_s, set_0, set_s, sif_t, sif_f, if_true, if_false, List.length_cons, List.length_nil, denL, binV_mul h1, binV_mul h2, binV_mul h3, idx_fr0, idx_fr1]
  rw [sub_divInt, Int.natCast_mul]
  exact sp_law_frac L (dd_pos p q) (dd_lt hp hq) h
theorem sp_law_add (L : LawT T) {k l : Nat} {p q : Rat} (hp : Sm k p) (hq : Sm l q) (h : k + l < 9000) : run T gl fl (n + 2) Str.empty "_law_add" [fr p, fr q] s = .ok (fr (p + q)) s := by
  obtain ⟨h1, h2, h3, _, _⟩ := mf_num hp hq h
  refine run_rt L.add rfl (B_ret ?_)
  show den _ _ [some (fr p), some (fr q)] s = _
  simp only [den, denL, test, bind_ok, fin_ok, truth_bl, cmpV_lt, cmpV_le, cmpV_gt, cmpV_ge, binV_add, binV_sub, idx2_0, idx2_1, biV_abs, getO_0, getO_s, set_0, set_s, sif_t, sif_f, if_true, if_false, List.length_cons, List.length_nil, denL, binV_mul h1, binV_mul h2, binV_mul h3, idx_fr0, idx_fr1]
  rw [add_divInt, Int.natCast_mul]
  exact sp_law_frac L (dd_pos p q) (dd_lt hp hq) h
theorem sp_law_mul (L : LawT T) {k l : Nat} {p q : Rat} (hp : Sm k p) (hq : Sm l q) (h : k + l < 9000) : run T gl fl (n + 2) Str.empty "_law_mul" [fr p, fr q] s = .ok (fr (p * q)) s := by
  obtain ⟨h1, h2, h3, h4, _⟩ := mf_num hp hq h
  refine run_rt L.mul rfl (B_ret ?_)
  show den _ _ [some (fr p), some (fr q)] s = _
  simp only [den, denL, test, bind_ok, fin_ok, truth_bl, cmpV_lt, cmpV_le, cmpV_gt, cmpV_ge, binV_add, binV_sub, idx2_0, idx2_1, biV_abs, getO_0, getO_s, set_0, set_s, sif_t, sif_f, if_true, if_false, List.length_cons, List.length_nil, denL, binV_mul h4, binV_mul h3, idx_fr0, idx_fr1]
  rw [mul_divInt, Int.natCast_mul]
  exact sp_law_frac L (dd_pos p q) (dd_lt hp hq) h
theorem sp_law_less (L : LawT T) {k l : Nat} {p q : Rat} (hp : Sm k p) (hq : Sm l q) (h : k + l < 9000) : run T gl fl (n + 1) Str.empty "_law_less" [fr p, fr q] s = .ok (.bl (decide (p < q))) s := by
  obtain ⟨h1, h2, h3, _, _⟩ := mf_num hp hq h
  refine run_rt L.less rfl (B_ret ?_)
  show den _ _ [some (fr p), some (fr q)] s = _
  simp only [den, denL, test, bind_ok, fin_ok, truth_bl, cmpV_lt, cmpV_le, cmpV_gt, cmpV_ge, binV_add, binV_sub, idx2_0, idx2_1, biV_abs, getO_0, getO_s, set_0, set_s, sif_t, sif_f, if_true, if_false, List.length_cons, List.length_nil, denL, binV_mul h1, binV_mul h2, idx_fr0, idx_fr1]
  rw [decide_eq_decide.mpr (Rat.lt_iff p q)]
/-- one of a told list, drawn -/
theorem draw_ix (F : DrawT T) {b : Nat} {l : List W} (h : BagOk s b) (hl : 0 < l.length) (hl2 : l.length < 1000) : ∃ r s', run T gl fl (n + 1) Str.empty "_law_take" [.ref b, .int l.length] (s ++ [.lst l]) = .ok (.int r) s' ∧ (∃ x, l[r.toNat]? = some x ∧ idxV (.ref s.length) (.int r) s' = .ok x s') ∧ BagOk s' b ∧ Fr (· = b) s s' := by
  have f1 : Fr (fun _ => False) s (s ++ [.lst l]) := Fr.app
  obtain ⟨r, s', e, r0, r1, hb, f, _⟩ := sp_take (gl := gl) (fl := fl) (n := n) F (h.fr f1 id) (show (0 : Int) < l.length by omega) (by omega)
  have hr : r.toNat < l.length := by omega
  have hs : (s ++ [.lst l])[s.length]? = some (.lst l) := get_last
  have hx : s'[s.length]? = some (.lst l) := f.get hs (by have := h.lt; omega)
  exact ⟨r, s', e, ⟨l[r.toNat], List.getElem?_eq_getElem hr, idx_ref hx r0 (List.getElem?_eq_getElem hr)⟩, hb, (f1.mono fun _ z => z.elim).trans f⟩
theorem sp_law_weight (F : DrawT2 T) {b : Nat} (h : BagOk s b) : ∃ q s', run T gl fl (n + 2) Str.empty "_law_weight" [.ref b] s = .ok (fr q) s' ∧ 0 < q ∧ Sm 20 q ∧ BagOk s' b ∧ Fr (· = b) s s' := by
  obtain ⟨r1, s1, e1, ⟨x1, hx1, i1⟩, b1, f1⟩ := draw_ix (gl := gl) (fl := fl) (n := n) F.toDrawT (l := [.int 12, .int 99, .int (10 ^ 6)]) h (by decide) (by decide)
  have far : ∃ m : Int, x1 = .int m ∧ 0 < m ∧ m ≤ 10 ^ 6 := by
    have := List.mem_of_getElem? hx1
    simp only [List.mem_cons, List.not_mem_nil, or_false] at this
    rcases this with rfl | rfl | rfl
    · exact ⟨12, rfl, by decide, by decide⟩
    · exact ⟨99, rfl, by decide, by decide⟩
    · exact ⟨_, rfl, by decide, by decide⟩
  obtain ⟨m, rfl, m0, m1⟩ := far
  obtain ⟨t1, s2, e2, t10, t11, b2, f2, _⟩ := sp_take (gl := gl) (fl := fl) (n := n) F.toDrawT b1 m0 (by omega)
  obtain ⟨r2, s3, e3, ⟨x2, hx2, i2⟩, b3, f3⟩ := draw_ix (gl := gl) (fl := fl) (n := n) F.toDrawT (l := [.int 1, .int 4, .int m]) b2 (by show 0 < 3; omega) (by show 3 < 1000; omega)
  have bot : ∃ m2 : Int, x2 = .int m2 ∧ 0 < m2 ∧ m2 ≤ 10 ^ 6 := by
    have := List.mem_of_getElem? hx2
    simp only [List.mem_cons, List.not_mem_nil, or_false] at this
    rcases this with rfl | rfl | rfl
    · exact ⟨1, rfl, by decide, by decide⟩
    · exact ⟨4, rfl, by decide, by decide⟩
    · exact ⟨_, rfl, m0, m1⟩
  obtain ⟨m2, rfl, m20, m21⟩ := bot
  obtain ⟨t2, s4, e4, t20, t21, b4, f4, _⟩ := sp_take (gl := gl) (fl := fl) (n := n) F.toDrawT b3 m20 (by omega)
  have n1 : (1 + t1).natAbs < 2 ^ 20 := by omega
  have n2 : (1 + t2).natAbs < 2 ^ 20 := by omega
  refine ⟨Rat.divInt (1 + t1) (1 + t2), s4, ?_, ?_, sm_divInt (by omega) n1 n2, b4, ((f1.trans f2).trans f3).trans f4⟩
  · refine run_rt F.weight rfl ?_
    show denB _ (.cons _ (.cons _ .nil)) [some (.ref b), none] s = _
    rw [B_asg (w := .int m) (s1 := s1) (by
      have e1' : run T gl fl (n + 1) Str.empty "_law_take" [.ref b, .int 3] (s ++ [.lst [.int 12, .int 99, .int (10 ^ 6)]]) = .ok (.int r1) s1 := e1
      simp only [den, denL, test, bind_ok, fin_ok, truth_bl, cmpV_lt, cmpV_le, cmpV_gt, cmpV_ge, binV_add, binV_sub, idx2_0, idx2_1, biV_abs, getO_0, getO_s, set_0, set_s, sif_t, sif_f, if_true, if_false, List.length_cons, List.length_nil, denL, fits1, fits2, fits3, fits4, fits5, fits6, fits7, fits8, newL_eq, pow6, e1', i1])]
    refine B_ret ?_
    have e3' : run T gl fl (n + 1) Str.empty "_law_take" [.ref b, .int 3] (s2 ++ [.lst [.int 1, .int 4, .int m]]) = .ok (.int r2) s3 := e3
    simp only [den, denL, test, bind_ok, fin_ok, truth_bl, cmpV_lt, cmpV_le, cmpV_gt, cmpV_ge, binV_add, binV_sub, idx2_0, idx2_1, biV_abs, getO_0, getO_s, set_0, set_s, sif_t, sif_f, if_true, if_false, List.length_cons, List.length_nil, denL, fits1, fits2, fits3, fits4, fits5, fits6, fits7, fits8, newL_eq, e2, e3', i2, e4]
    exact sp_law_frac F.toLawT (by omega) n2 (by omega)
  · rw [Rat.divInt_eq_div]
    have a1 : (0 : Rat) < ((1 + t1 : Int) : Rat) := by exact_mod_cast (show (0 : Int) < 1 + t1 by omega)
    have a2 : (0 : Rat) < ((1 + t2 : Int) : Rat) := by exact_mod_cast (show (0 : Int) < 1 + t2 by omega)
    rw [Rat.div_def]
    exact Rat.mul_pos a1 (Rat.inv_pos.mpr a2)
theorem sp_law_fine (F : DrawT2 T) {b : Nat} (h : BagOk s b) : ∃ q s', run T gl fl (n + 2) Str.empty "_law_fine" [.ref b] s = .ok (fr q) s' ∧ 0 ≤ q ∧ q ≤ 1 ∧ Sm 10 q ∧ BagOk s' b ∧ Fr (· = b) s s' := by
  obtain ⟨r1, s1, e1, ⟨x1, hx1, i1⟩, b1, f1⟩ := draw_ix (gl := gl) (fl := fl) (n := n) F.toDrawT (l := [.int 1, .int 4, .int 24, .int 1000]) h (by decide) (by decide)
  have far : ∃ m : Int, x1 = .int m ∧ 0 < m ∧ m ≤ 1000 := by
    have := List.mem_of_getElem? hx1
    simp only [List.mem_cons, List.not_mem_nil, or_false] at this
    rcases this with rfl | rfl | rfl | rfl
    · exact ⟨1, rfl, by decide, by decide⟩
    · exact ⟨4, rfl, by decide, by decide⟩
    · exact ⟨24, rfl, by decide, by decide⟩
    · exact ⟨1000, rfl, by decide, by decide⟩
  obtain ⟨m, rfl, m0, m1⟩ := far
  obtain ⟨t, s2, e2, t0, t1, b2, f2, _⟩ := sp_take (gl := gl) (fl := fl) (n := n) F.toDrawT b1 (show 0 < m + 1 by omega) (by omega)
  have n1 : t.natAbs < 2 ^ 10 := by omega
  have n2 : m.natAbs < 2 ^ 10 := by omega
  refine ⟨Rat.divInt t m, s2, ?_, ?_, ?_, sm_divInt (by omega) n1 n2, b2, f1.trans f2⟩
  · refine run_rt F.fine rfl ?_
    show denB _ (.cons _ (.cons _ .nil)) [some (.ref b), none] s = _
    rw [B_asg (w := .int m) (s1 := s1) (by
      have e1' : run T gl fl (n + 1) Str.empty "_law_take" [.ref b, .int 4] (s ++ [.lst [.int 1, .int 4, .int 24, .int 1000]]) = .ok (.int r1) s1 := e1
      simp only [den, denL, test, bind_ok, fin_ok, truth_bl, cmpV_lt, cmpV_le, cmpV_gt, cmpV_ge, binV_add, binV_sub, idx2_0, idx2_1, biV_abs, getO_0, getO_s, set_0, set_s, sif_t, sif_f, if_true, if_false, List.length_cons, List.length_nil, denL, fits1, fits2, fits3, fits4, fits5, fits6, fits7, fits8, newL_eq, pow6, e1', i1])]
    refine B_ret ?_
    simp only [den, denL, test, bind_ok, fin_ok, truth_bl, cmpV_lt, cmpV_le, cmpV_gt, cmpV_ge, binV_add, binV_sub, idx2_0, idx2_1, biV_abs, getO_0, getO_s, set_0, set_s, sif_t, sif_f, if_true, if_false, List.length_cons, List.length_nil, denL, e2]
    exact sp_law_frac F.toLawT m0 n2 (by omega)
  · exact Rat.divInt_nonneg t0 (by omega)
  · rw [Rat.divInt_eq_div]
    have a2 : (0 : Rat) < ((m : Int) : Rat) := by exact_mod_cast m0
    refine Rat.not_lt.mp fun z => ?_
    rw [Rat.lt_div_iff a2, Rat.one_mul] at z
    have : m < t := by exact_mod_cast z
    omega
end
end Vm
set_option Elab.async false
set_option linter.all false
set_option maxRecDepth 100000
set_option maxHeartbeats 4000000
/-! Golds, fractions, drawn numbers, over the least tables (printed by mk_x.py). -/
namespace Vm
open PySem
def d_Gold_initX : Fd := ⟨3, 3, [], (.cons (.ifs (.not (.call "is_weight" (.cons (.var 1) .nil))) (.cons (.rse "NoGold" (.cons (.con (.str "weight")) .nil)) .nil) .nil) (.cons (.ifs (.not (.call "is_fineness" (.cons (.var 2) .nil))) (.cons (.rse "NoGold" (.cons (.con (.str "fineness")) .nil)) .nil) .nil) (.cons (.sfld (.var 0) "weight" (.var 1)) (.cons (.sfld (.var 0) "fineness" (.var 2)) .nil))))⟩
structure FracX (T : Str → Str → Option Te) : Prop where
  common : T Str.empty "common" = some (.fn d_common)
  fraction : T Str.empty "fraction" = some (.fn d_fraction)
  less : T Str.empty "less" = some (.fn d_less)
structure GoldX (T : Str → Str → Option Te) (gl : Str → Option W) (fl : Str → List Str) : Prop extends FracX T where
  is_whole : T Str.empty "is_whole" = some (.fn d_is_whole)
  is_fraction : T Str.empty "is_fraction" = some (.fn d_is_fraction)
  is_weight : T Str.empty "is_weight" = some (.fn d_is_weight)
  is_fineness : T Str.empty "is_fineness" = some (.fn d_is_fineness)
  gold : T Str.empty "Gold" = some .cls
  init : T "Gold" "__init__" = some (.fn d_Gold_initX)
  one : gl "ONE" = some (fr 1)
  flds : fl "Gold" = [("weight" : Str), ("fineness" : Str)]
structure LawX (T : Str → Str → Option Te) : Prop where
  frac : T Str.empty "_law_frac" = some (.fn d__law_frac)
structure DrawX (T : Str → Str → Option Te) : Prop extends DrawT T, LawX T where
  weight : T Str.empty "_law_weight" = some (.fn d__law_weight)
  fine : T Str.empty "_law_fine" = some (.fn d__law_fine)
section
variable {T : Str → Str → Option Te} {gl : Str → Option W} {fl : Str → List Str} {n : Nat} {s : Vs}
theorem sp_fractionX (F : FracX T) {a b : Int} {k : Nat} (hb : b ≠ 0) (h : b.natAbs < 2 ^ k) (hk : k < 9000) : run T gl fl (n + 2) Str.empty "fraction" [.int a, .int b] s = .ok (fr (Rat.divInt a b)) s := by
  obtain ⟨hl, g0⟩ := gcd_log (a := a) hb h hk
  refine run_rt F.fraction rfl ?_
  show denB _ (.cons _ (.cons _ (.cons _ .nil))) [some (.int a), some (.int b), none] s = _
  rw [B_asg (w := .int (Int.gcd a b)) (s1 := s) (by simp only [den, denL, test, bind_ok, fin_ok, truth_bl, cmpV_lt, cmpV_le, cmpV_gt, cmpV_ge, binV_add, binV_sub, idx2_0, idx2_1, biV_abs, getO_0, getO_s, set_0, set_s, sif_t, sif_f, if_true, if_false, List.length_cons, List.length_nil, denL]; exact sp_common F.common a b)]
  by_cases hn : b < 0
  · rw [B_tt (r' := [some (.int a), some (.int b), some (.int (0 - (Int.gcd a b : Int)))]) (s1 := s) (s' := s) (by simp only [den, denL, test, bind_ok, fin_ok, truth_bl, cmpV_lt, cmpV_le, cmpV_gt, cmpV_ge, binV_add, binV_sub, idx2_0, idx2_1, biV_abs, getO_0, getO_s, set_0, set_s, sif_t, sif_f, if_true, if_false, List.length_cons, List.length_nil, denL, hn, decide_true]) (by rw [B_asg (w := .int (0 - (Int.gcd a b : Int))) (s1 := s) (by simp only [den, denL, test, bind_ok, fin_ok, truth_bl, cmpV_lt, cmpV_le, cmpV_gt, cmpV_ge, binV_add, binV_sub, idx2_0, idx2_1, biV_abs, getO_0, getO_s, set_0, set_s, sif_t, sif_f, if_true, if_false, List.length_cons, List.length_nil, denL])]; exact B_nil)]
    have gm : (0 - (Int.gcd a b : Int)) ≠ 0 := by omega
    refine B_ret ?_
    simp only [den, denL, test, bind_ok, fin_ok, truth_bl, cmpV_lt, cmpV_le, cmpV_gt, cmpV_ge, binV_add, binV_sub, idx2_0, idx2_1, biV_abs, getO_0, getO_s, set_0, set_s, sif_t, sif_f, if_true, if_false, List.length_cons, List.length_nil, denL, binV_fdiv gm (show (0 - (Int.gcd a b : Int)).natAbs.log2 < 9000 by rw [show (0 - (Int.gcd a b : Int)).natAbs = Int.gcd a b by omega]; exact hl)]
    rw [(exact_neg hn).1, (exact_neg hn).2]
    rfl
  · rw [B_f (s1 := s) (by simp only [den, denL, test, bind_ok, fin_ok, truth_bl, cmpV_lt, cmpV_le, cmpV_gt, cmpV_ge, binV_add, binV_sub, idx2_0, idx2_1, biV_abs, getO_0, getO_s, set_0, set_s, sif_t, sif_f, if_true, if_false, List.length_cons, List.length_nil, denL, hn, decide_false])]
    have gm : (Int.gcd a b : Int) ≠ 0 := by omega
    have hp : 0 < b := by omega
    refine B_ret ?_
    simp only [den, denL, test, bind_ok, fin_ok, truth_bl, cmpV_lt, cmpV_le, cmpV_gt, cmpV_ge, binV_add, binV_sub, idx2_0, idx2_1, biV_abs, getO_0, getO_s, set_0, set_s, sif_t, sif_f, if_true, if_false, List.length_cons, List.length_nil, denL, binV_fdiv gm (show (Int.gcd a b : Int).natAbs.log2 < 9000 by rw [Int.natAbs_natCast]; exact hl)]
    rw [(exact_pos hp).1, (exact_pos hp).2]
    rfl
theorem sp_lessX (F : FracX T) {k l : Nat} {p q : Rat} (hp : Sm k p) (hq : Sm l q) (h : k + l < 9000) : run T gl fl (n + 1) Str.empty "less" [fr p, fr q] s = .ok (.bl (decide (p < q))) s := by
  obtain ⟨h1, h2, h3, _, _⟩ := mf_num hp hq h
  refine run_rt F.less rfl ?_
  show denB _ (.cons _ .nil) [some (.tup [.int p.num, .int p.den]), some (.tup [.int q.num, .int q.den])] s = _
  refine B_ret ?_
  simp only [den, denL, test, bind_ok, fin_ok, truth_bl, cmpV_lt, cmpV_le, cmpV_gt, cmpV_ge, binV_add, binV_sub, idx2_0, idx2_1, biV_abs, getO_0, getO_s, set_0, set_s, sif_t, sif_f, if_true, if_false, List.length_cons, List.length_nil, denL, binV_mul h1, binV_mul h2]
  rw [decide_eq_decide.mpr (Rat.lt_iff p q)]
theorem sp_is_wholeX (G : GoldX T gl fl) (i : Int) : run T gl fl (n + 1) Str.empty "is_whole" [.int i] s = .ok (.bl true) s := by
  refine run_rt G.is_whole rfl (B_ret ?_)
  show den _ _ [some (.int i)] s = _
  simp only [den, denL, test, bind_ok, fin_ok, truth_bl, cmpV_lt, cmpV_le, cmpV_gt, cmpV_ge, binV_add, binV_sub, idx2_0, idx2_1, biV_abs, getO_0, getO_s, set_0, set_s, sif_t, sif_f, if_true, if_false, List.length_cons, List.length_nil, denL, isi_int, isi_bool, Bool.not_false]
theorem sp_is_fractionX (G : GoldX T gl fl) {k : Nat} {q : Rat} (h : Sm k q) (hk : k < 9000) : run T gl fl (n + 3) Str.empty "is_fraction" [fr q] s = .ok (.bl true) s := by
  refine run_rt G.is_fraction rfl ?_
  show denB _ (.cons _ (.cons _ .nil)) [some (fr q)] s = _
  rw [B_f (s1 := s) (by simp only [den, denL, test, bind_ok, fin_ok, truth_bl, cmpV_lt, cmpV_le, cmpV_gt, cmpV_ge, binV_add, binV_sub, idx2_0, idx2_1, biV_abs, getO_0, getO_s, set_0, set_s, sif_t, sif_f, if_true, if_false, List.length_cons, List.length_nil, denL, isi_tup, Bool.not_true, len_fr, cmpV_neI, idx_fr0, idx_fr1, sp_is_wholeX G, decide_true])]
  have hd : (1 : Int) ≤ q.den := by have := den_pos' q; omega
  refine B_ret ?_
  simp only [den, denL, test, bind_ok, fin_ok, truth_bl, cmpV_lt, cmpV_le, cmpV_gt, cmpV_ge, binV_add, binV_sub, idx2_0, idx2_1, biV_abs, getO_0, getO_s, set_0, set_s, sif_t, sif_f, if_true, if_false, List.length_cons, List.length_nil, denL, idx_fr0, idx_fr1, hd, decide_true, sp_fractionX G.toFracX (den_ne q) (show ((q.den : Nat) : Int).natAbs < 2 ^ k by rw [Int.natAbs_natCast]; exact h.2) hk, fr_eta, cmpV_eqF]
theorem sp_is_weightX (G : GoldX T gl fl) {k : Nat} {q : Rat} (h : Sm k q) (hk : k < 9000) : run T gl fl (n + 4) Str.empty "is_weight" [fr q] s = .ok (.bl (decide (0 < q.num))) s := by
  refine run_rt G.is_weight rfl (B_ret ?_)
  show den _ _ [some (fr q)] s = _
  simp only [den, denL, test, bind_ok, fin_ok, truth_bl, cmpV_lt, cmpV_le, cmpV_gt, cmpV_ge, binV_add, binV_sub, idx2_0, idx2_1, biV_abs, getO_0, getO_s, set_0, set_s, sif_t, sif_f, if_true, if_false, List.length_cons, List.length_nil, denL, sp_is_fractionX G h hk, idx_fr0]
theorem sp_is_finenessX (G : GoldX T gl fl) {k : Nat} {q : Rat} (h : Sm k q) (hk : k < 8000) (h0 : 0 ≤ q.num) (h1 : q ≤ 1) : run T gl fl (n + 4) Str.empty "is_fineness" [fr q] s = .ok (.bl true) s := by
  refine run_rt G.is_fineness rfl (B_ret ?_)
  show den _ _ [some (fr q)] s = _
  have hl : ¬ (1 < q) := Rat.not_lt.mpr h1
  simp only [den, denL, test, bind_ok, fin_ok, truth_bl, cmpV_lt, cmpV_le, cmpV_gt, cmpV_ge, binV_add, binV_sub, idx2_0, idx2_1, biV_abs, getO_0, getO_s, set_0, set_s, sif_t, sif_f, if_true, if_false, List.length_cons, List.length_nil, denL, sp_is_fractionX G h (show k < 9000 by omega), idx_fr0, h0, decide_true, G.one, sp_lessX G.toFracX sm_one h (show 1 + k < 9000 by omega), hl, decide_false, Bool.not_false]
theorem sp_GoldX (G : GoldX T gl fl) {k l : Nat} {w f : Rat} (hw : Sm k w) (hf : Sm l f) (hk : k < 8000) (hl : l < 8000) (h0 : 0 < w) (h1 : 0 ≤ f) (h2 : f ≤ 1) : run T gl fl (n + 6) Str.empty "Gold" [fr w, fr f] s = .ok (.ref s.length) (s ++ [goldO w f]) := by
  have w0 : 0 < w.num := by
    have := Rat.num_nonneg.mpr (Rat.le_of_lt h0)
    have : w.num ≠ 0 := fun z => Rat.ne_of_gt h0 (Rat.num_eq_zero.mp z)
    omega
  have init : run T gl fl (n + 5) "Gold" "__init__" [.ref s.length, fr w, fr f] (s ++ [.ins "Gold" []]) = .ok .non (s ++ [goldO w f]) := by
    rw [run_fn G.init rfl]
    refine runB_nx (r := [some (.ref s.length), some (fr w), some (fr f)]) ?_
    show denB _ (.cons _ (.cons _ (.cons _ (.cons _ .nil)))) [some (.ref s.length), some (fr w), some (fr f)] _ = _
    rw [B_f (s1 := s ++ [.ins "Gold" []]) (by simp only [den, denL, test, bind_ok, fin_ok, truth_bl, cmpV_lt, cmpV_le, cmpV_gt, cmpV_ge, binV_add, binV_sub, idx2_0, idx2_1, biV_abs, getO_0, getO_s, set_0, set_s, sif_t, sif_f, if_true, if_false, List.length_cons, List.length_nil, denL, sp_is_weightX G hw (show k < 9000 by omega), w0, decide_true, Bool.not_true])]
    rw [B_f (s1 := s ++ [.ins "Gold" []]) (by simp only [den, denL, test, bind_ok, fin_ok, truth_bl, cmpV_lt, cmpV_le, cmpV_gt, cmpV_ge, binV_add, binV_sub, idx2_0, idx2_1, biV_abs, getO_0, getO_s, set_0, set_s, sif_t, sif_f, if_true, if_false, List.length_cons, List.length_nil, denL, sp_is_finenessX G hf hl (Rat.num_nonneg.mpr h1) h2, Bool.not_true])]
    rw [B_sfld (w := fr w) (x := .ref s.length) (s1 := s ++ [.ins "Gold" []]) (s2 := s ++ [.ins "Gold" []]) (s' := s ++ [.ins "Gold" [("weight", fr w)]]) (by simp only [den, denL, test, bind_ok, fin_ok, truth_bl, cmpV_lt, cmpV_le, cmpV_gt, cmpV_ge, binV_add, binV_sub, idx2_0, idx2_1, biV_abs, getO_0, getO_s, set_0, set_s, sif_t, sif_f, if_true, if_false, List.length_cons, List.length_nil, denL]) (by simp only [den, denL, test, bind_ok, fin_ok, truth_bl, cmpV_lt, cmpV_le, cmpV_gt, cmpV_ge, binV_add, binV_sub, idx2_0, idx2_1, biV_abs, getO_0, getO_s, set_0, set_s, sif_t, sif_f, if_true, if_false, List.length_cons, List.length_nil, denL]) (sfld_last (by decide) (by show (fl "Gold").contains _ = true; rw [G.flds]; rfl))]
    rw [B_sfld (w := fr f) (x := .ref s.length) (s1 := s ++ [.ins "Gold" [("weight", fr w)]]) (s2 := s ++ [.ins "Gold" [("weight", fr w)]]) (s' := s ++ [goldO w f]) (by simp only [den, denL, test, bind_ok, fin_ok, truth_bl, cmpV_lt, cmpV_le, cmpV_gt, cmpV_ge, binV_add, binV_sub, idx2_0, idx2_1, biV_abs, getO_0, getO_s, set_0, set_s, sif_t, sif_f, if_true, if_false, List.length_cons, List.length_nil, denL]) (by simp only [den, denL, test, bind_ok, fin_ok, truth_bl, cmpV_lt, cmpV_le, cmpV_gt, cmpV_ge, binV_add, binV_sub, idx2_0, idx2_1, biV_abs, getO_0, getO_s, set_0, set_s, sif_t, sif_f, if_true, if_false, List.length_cons, List.length_nil, denL]) (sfld_last (by show 1 < 1000; omega) (by show (fl "Gold").contains _ = true; rw [G.flds]; rfl))]
    exact B_nil
  rw [run, G.gold]
  show (match run T gl fl (n + 5) "Gold" "__init__" [.ref s.length, fr w, fr f] (s ++ [.ins "Gold" []]) with | .ok .non s' => Out.ok (W.ref s.length) s' | .exc x s' => .exc x s' | _ => .err) = _
  rw [init]
theorem sp_law_fracX (L : LawX T) {a b : Int} {k : Nat} (hb : 0 < b) (h : b.natAbs < 2 ^ k) (hk : k < 9000) : run T gl fl (n + 1) Str.empty "_law_frac" [.int a, .int b] s = .ok (fr (Rat.divInt a b)) s := by
  obtain ⟨hl, g0⟩ := gcd_log (a := a) (show b ≠ 0 by omega) h hk
  obtain ⟨B, rfl⟩ : ∃ B : Nat, b = B := ⟨b.toNat, by omega⟩
  obtain ⟨j, hj⟩ := euclidZ (D := ⟨run T gl fl n, gl, fl⟩) (s := s) (x0 := some (.int a)) (x1 := some (.int B)) (x2 := none) a (show 0 < B by omega)
  refine run_rt L.frac rfl ?_
  show denB _ (.cons _ (.cons _ (.cons _ (.cons _ .nil)))) [some (.int a), some (.int B), none, none, none] s = _
  rw [B_par (x := .int a) (y := .int B) (s1 := s) (s2 := s) (by simp only [den, denL, test, bind_ok, fin_ok, truth_bl, cmpV_lt, cmpV_le, cmpV_gt, cmpV_ge, binV_add, binV_sub, idx2_0, idx2_1, biV_abs, getO_0, getO_s, set_0, set_s, sif_t, sif_f, if_true, if_false, List.length_cons, List.length_nil, denL]) (by simp only [den, denL, test, bind_ok, fin_ok, truth_bl, cmpV_lt, cmpV_le, cmpV_gt, cmpV_ge, binV_add, binV_sub, idx2_0, idx2_1, biV_abs, getO_0, getO_s, set_0, set_s, sif_t, sif_f, if_true, if_false, List.length_cons, List.length_nil, denL])]
  simp only [set_0, set_s]
  rw [B_whl hj]
  have gp : (0 : Int) < (Int.gcd a B : Int) := by omega
  have nb : ¬ ((B : Int) < 0) := by omega
  have gl1 : ¬ ((Int.gcd a B : Int) < 0) := by omega
  have dv : Int.gcd a B ∣ (B : Int).natAbs := Nat.gcd_dvd_right _ _
  have gk : Int.gcd a B < 2 ^ k := Nat.lt_of_le_of_lt (Nat.le_of_dvd (by omega) dv) h
  have m1 : mulFits (Int.gcd a B : Int) (1 - 2 * 0) = true := mulFits_of (k := k) (l := 1) (by rw [Int.natAbs_natCast]; exact gk) (by decide) (by omega)
  have m2 : mulFits 2 0 = true := by decide
  rw [B_asg (w := .int (Int.gcd a B)) (s1 := s) (by simp only [den, denL, test, bind_ok, fin_ok, truth_bl, cmpV_lt, cmpV_le, cmpV_gt, cmpV_ge, binV_add, binV_sub, idx2_0, idx2_1, biV_abs, getO_0, getO_s, set_0, set_s, sif_t, sif_f, if_true, if_false, List.length_cons, List.length_nil, denL, nb, decide_false, int_bl, binV_mul m2, Bool.false_eq_true, binV_mul m1, gl1]; congr 2; omega)]
  have gm : (Int.gcd a B : Int) ≠ 0 := by omega
  refine B_ret ?_
  simp only [den, denL, test, bind_ok, fin_ok, truth_bl, cmpV_lt, cmpV_le, cmpV_gt, cmpV_ge, binV_add, binV_sub, idx2_0, idx2_1, biV_abs, getO_0, getO_s, set_0, set_s, sif_t, sif_f, if_true, if_false, List.length_cons, List.length_nil, denL, binV_fdiv gm (show (Int.gcd a B : Int).natAbs.log2 < 9000 by rw [Int.natAbs_natCast]; exact hl)]
  rw [(exact_pos hb).1, (exact_pos hb).2]
  rfl
/-- one of a told list, drawn -/
theorem sp_law_weightX (F : DrawX T) {b : Nat} (h : BagOk s b) : ∃ q s', run T gl fl (n + 2) Str.empty "_law_weight" [.ref b] s = .ok (fr q) s' ∧ 0 < q ∧ Sm 20 q ∧ BagOk s' b ∧ Fr (· = b) s s' := by
  obtain ⟨r1, s1, e1, ⟨x1, hx1, i1⟩, b1, f1⟩ := draw_ix (gl := gl) (fl := fl) (n := n) F.toDrawT (l := [.int 12, .int 99, .int (10 ^ 6)]) h (by decide) (by decide)
  have far : ∃ m : Int, x1 = .int m ∧ 0 < m ∧ m ≤ 10 ^ 6 := by
    have := List.mem_of_getElem? hx1
    simp only [List.mem_cons, List.not_mem_nil, or_false] at this
    rcases this with rfl | rfl | rfl
    · exact ⟨12, rfl, by decide, by decide⟩
    · exact ⟨99, rfl, by decide, by decide⟩
    · exact ⟨_, rfl, by decide, by decide⟩
  obtain ⟨m, rfl, m0, m1⟩ := far
  obtain ⟨t1, s2, e2, t10, t11, b2, f2, _⟩ := sp_take (gl := gl) (fl := fl) (n := n) F.toDrawT b1 m0 (by omega)
  obtain ⟨r2, s3, e3, ⟨x2, hx2, i2⟩, b3, f3⟩ := draw_ix (gl := gl) (fl := fl) (n := n) F.toDrawT (l := [.int 1, .int 4, .int m]) b2 (by show 0 < 3; omega) (by show 3 < 1000; omega)
  have bot : ∃ m2 : Int, x2 = .int m2 ∧ 0 < m2 ∧ m2 ≤ 10 ^ 6 := by
    have := List.mem_of_getElem? hx2
    simp only [List.mem_cons, List.not_mem_nil, or_false] at this
    rcases this with rfl | rfl | rfl
    · exact ⟨1, rfl, by decide, by decide⟩
    · exact ⟨4, rfl, by decide, by decide⟩
    · exact ⟨_, rfl, m0, m1⟩
  obtain ⟨m2, rfl, m20, m21⟩ := bot
  obtain ⟨t2, s4, e4, t20, t21, b4, f4, _⟩ := sp_take (gl := gl) (fl := fl) (n := n) F.toDrawT b3 m20 (by omega)
  have n1 : (1 + t1).natAbs < 2 ^ 20 := by omega
  have n2 : (1 + t2).natAbs < 2 ^ 20 := by omega
  refine ⟨Rat.divInt (1 + t1) (1 + t2), s4, ?_, ?_, sm_divInt (by omega) n1 n2, b4, ((f1.trans f2).trans f3).trans f4⟩
  · refine run_rt F.weight rfl ?_
    show denB _ (.cons _ (.cons _ .nil)) [some (.ref b), none] s = _
    rw [B_asg (w := .int m) (s1 := s1) (by
      have e1' : run T gl fl (n + 1) Str.empty "_law_take" [.ref b, .int 3] (s ++ [.lst [.int 12, .int 99, .int (10 ^ 6)]]) = .ok (.int r1) s1 := e1
      simp only [den, denL, test, bind_ok, fin_ok, truth_bl, cmpV_lt, cmpV_le, cmpV_gt, cmpV_ge, binV_add, binV_sub, idx2_0, idx2_1, biV_abs, getO_0, getO_s, set_0, set_s, sif_t, sif_f, if_true, if_false, List.length_cons, List.length_nil, denL, fits1, fits2, fits3, fits4, fits5, fits6, fits7, fits8, newL_eq, pow6, e1', i1])]
    refine B_ret ?_
    have e3' : run T gl fl (n + 1) Str.empty "_law_take" [.ref b, .int 3] (s2 ++ [.lst [.int 1, .int 4, .int m]]) = .ok (.int r2) s3 := e3
    simp only [den, denL, test, bind_ok, fin_ok, truth_bl, cmpV_lt, cmpV_le, cmpV_gt, cmpV_ge, binV_add, binV_sub, idx2_0, idx2_1, biV_abs, getO_0, getO_s, set_0, set_s, sif_t, sif_f, if_true, if_false, List.length_cons, List.length_nil, denL, fits1, fits2, fits3, fits4, fits5, fits6, fits7, fits8, newL_eq, e2, e3', i2, e4]
    exact sp_law_fracX F.toLawX (by omega) n2 (by omega)
  · rw [Rat.divInt_eq_div]
    have a1 : (0 : Rat) < ((1 + t1 : Int) : Rat) := by exact_mod_cast (show (0 : Int) < 1 + t1 by omega)
    have a2 : (0 : Rat) < ((1 + t2 : Int) : Rat) := by exact_mod_cast (show (0 : Int) < 1 + t2 by omega)
    rw [Rat.div_def]
    exact Rat.mul_pos a1 (Rat.inv_pos.mpr a2)
theorem sp_law_fineX (F : DrawX T) {b : Nat} (h : BagOk s b) : ∃ q s', run T gl fl (n + 2) Str.empty "_law_fine" [.ref b] s = .ok (fr q) s' ∧ 0 ≤ q ∧ q ≤ 1 ∧ Sm 10 q ∧ BagOk s' b ∧ Fr (· = b) s s' := by
  obtain ⟨r1, s1, e1, ⟨x1, hx1, i1⟩, b1, f1⟩ := draw_ix (gl := gl) (fl := fl) (n := n) F.toDrawT (l := [.int 1, .int 4, .int 24, .int 1000]) h (by decide) (by decide)
  have far : ∃ m : Int, x1 = .int m ∧ 0 < m ∧ m ≤ 1000 := by
    have := List.mem_of_getElem? hx1
    simp only [List.mem_cons, List.not_mem_nil, or_false] at this
    rcases this with rfl | rfl | rfl | rfl
    · exact ⟨1, rfl, by decide, by decide⟩
    · exact ⟨4, rfl, by decide, by decide⟩
    · exact ⟨24, rfl, by decide, by decide⟩
    · exact ⟨1000, rfl, by decide, by decide⟩
  obtain ⟨m, rfl, m0, m1⟩ := far
  obtain ⟨t, s2, e2, t0, t1, b2, f2, _⟩ := sp_take (gl := gl) (fl := fl) (n := n) F.toDrawT b1 (show 0 < m + 1 by omega) (by omega)
  have n1 : t.natAbs < 2 ^ 10 := by omega
  have n2 : m.natAbs < 2 ^ 10 := by omega
  refine ⟨Rat.divInt t m, s2, ?_, ?_, ?_, sm_divInt (by omega) n1 n2, b2, f1.trans f2⟩
  · refine run_rt F.fine rfl ?_
    show denB _ (.cons _ (.cons _ .nil)) [some (.ref b), none] s = _
    rw [B_asg (w := .int m) (s1 := s1) (by
      have e1' : run T gl fl (n + 1) Str.empty "_law_take" [.ref b, .int 4] (s ++ [.lst [.int 1, .int 4, .int 24, .int 1000]]) = .ok (.int r1) s1 := e1
      simp only [den, denL, test, bind_ok, fin_ok, truth_bl, cmpV_lt, cmpV_le, cmpV_gt, cmpV_ge, binV_add, binV_sub, idx2_0, idx2_1, biV_abs, getO_0, getO_s, set_0, set_s, sif_t, sif_f, if_true, if_false, List.length_cons, List.length_nil, denL, fits1, fits2, fits3, fits4, fits5, fits6, fits7, fits8, newL_eq, pow6, e1', i1])]
    refine B_ret ?_
    simp only [den, denL, test, bind_ok, fin_ok, truth_bl, cmpV_lt, cmpV_le, cmpV_gt, cmpV_ge, binV_add, binV_sub, idx2_0, idx2_1, biV_abs, getO_0, getO_s, set_0, set_s, sif_t, sif_f, if_true, if_false, List.length_cons, List.length_nil, denL, e2]
    exact sp_law_fracX F.toLawX m0 n2 (by omega)
  · exact Rat.divInt_nonneg t0 (by omega)
  · rw [Rat.divInt_eq_div]
    have a2 : (0 : Rat) < ((m : Int) : Rat) := by exact_mod_cast m0
    refine Rat.not_lt.mp fun z => ?_
    rw [Rat.lt_div_iff a2, Rat.one_mul] at z
    have : m < t := by exact_mod_cast z
    omega
end
end Vm
set_option Elab.async false
set_option linter.all false
set_option maxRecDepth 100000
set_option maxHeartbeats 2000000
/-! Small rules: loops over few items, lists, conditions. -/
namespace Vm
open PySem
section
variable {D : Wd} {r r' : Rho} {s s1 s' : Vs} {b : IB} {w : W}
theorem srcAt {a : Nat} {l : List W} (h : s[a]? = some (.lst l)) : srcV (.ref a) s = .ok ⟨l, [(a, l)]⟩ s := by
  show (match lstAt s a with | some l => Out.ok (⟨l, [(a, l)]⟩ : Src) s | none => .err) = _
  rw [lst_at h]
theorem srcTup (l : List W) : srcV (.tup l) s = .ok ⟨l, []⟩ s := rfl
theorem rngAt {m : Nat} (hm : m < 1000) : rngV 0 (m : Nat) s = .ok ⟨(List.range m).map fun i => W.int (i : Nat), []⟩ s := by
  unfold rngV
  rw [if_pos (by rw [decide_eq_true_eq]; refine ⟨by decide, by decide, ?_, ?_⟩ <;> omega)]
  congr 2
  rw [Int.sub_zero, Int.toNat_natCast]
  congr 1
  funext i
  rw [Int.zero_add]
theorem newL_x (l : List W) (s : Vs) : ∃ s', newL l s = .ok (.ref s.length) s' ∧ s'[s.length]? = some (.lst l) ∧ Fr (fun _ => False) s s' ∧ s'.length = s.length + 1 := ⟨_, rfl, get_last, Fr.app, List.length_append⟩
/-- the turns of a for, one by one -/
structure Lf (f : Rho → Vs → Fin) where
  x : Fin
def fq (f : Rho → Vs → Fin) (z : Lf f) : Fin := match z.x with
  | .nx r s => f r s
  | .ct r s => f r s
  | .bk r s => .nx r s
  | .rt w s => .rt w s
  | .exc x r s => .exc x r s
  | .err => .err
theorem fq_nx (f : Rho → Vs → Fin) (r : Rho) (s : Vs) : fq f ⟨.nx r s⟩ = f r s := rfl
theorem fq_rt (f : Rho → Vs → Fin) (w : W) (s : Vs) : fq f ⟨.rt w s⟩ = .rt w s := rfl
theorem forL_cons {ok : Vs → Prop} {f : W → Rho → Vs → Fin} {x : W} {l : List W} (h : ok s) : forL ok f (x :: l) r s = fq (fun r s => forL ok f l r s) ⟨f x r s⟩ := by
  rw [forL, if_pos h]
  unfold fq
  cases f x r s <;> rfl
theorem forL_nil {ok : Vs → Prop} {f : W → Rho → Vs → Fin} (h : ok s) : forL ok f [] r s = .nx r s := by
  rw [forL, if_pos h]
theorem ok_nil {l : List W} : Src.ok ⟨l, []⟩ s := fun _ h => by cases h
theorem ok_at {a : Nat} {l : List W} (h : s[a]? = some (.lst l)) : Src.ok ⟨l, [(a, l)]⟩ s := fun p hp => by
  rw [List.mem_singleton.mp hp]
  exact lst_at h
theorem set_nm {i : Nat} : setT (.nm i) w r = some (r.set i (some w)) := rfl
theorem set_tp2 {i j : Nat} {x y : W} : setT (.tp [i, j]) (.tup [x, y]) r = some ((r.set i (some x)).set j (some y)) := rfl
theorem toD_ref {k a : Nat} {l : List W} (h : s[a]? = some (.lst l)) : toD s (k + 1) (.ref a) = (toDs s k l).map .list := by
  rw [toD, lst_at h]
theorem eqD_non : eqD s .non .non = some true := by
  show some (PyData.eqv .none .none) = _
  unfold PyData.eqv
  rfl
theorem eqD_str {x y : Str} (hx : PyData.strOk x = true) (hy : PyData.strOk y = true) : eqD s (.str x) (.str y) = some (decide (x = y)) := by
  have sh : ∀ {x : Str}, PyData.strOk x = true → SeqAt.shaped (.str x) = true := fun {x} h => by
    show ((PyData.str x).canLay0 && decide ((PyData.str x).depth ≤ 64)) = true
    rw [PyData.canLay0, h]
    rfl
  show (if (SeqAt.shaped (.str x) && SeqAt.shaped (.str y)) = true then some (PyData.eqv (.str x) (.str y)) else none) = _
  rw [sh hx, sh hy, Bool.true_and, if_pos rfl]
  unfold PyData.eqv
  rfl
theorem eqD_bl (x y : Bool) : eqD s (.bl x) (.bl y) = some (x == y) := by
  show some (PyData.eqv (.bool x) (.bool y)) = _
  cases x <;> cases y <;> (unfold PyData.eqv; rfl)
theorem cmp_eq {x y : W} {b : Bool} (h : eqD s x y = some b) : cmpV .eq x y s = .ok (.bl b) s := by
  show (match eqD s x y with | some b => Out.ok (W.bl b) s | none => .err) = _
  rw [h]
theorem cmp_ne {x y : W} {b : Bool} (h : eqD s x y = some b) : cmpV .ne x y s = .ok (.bl (!b)) s := by
  show (match eqD s x y with | some b => Out.ok (W.bl (!b)) s | none => .err) = _
  rw [h]
theorem okS_append {x y : Str} (hx : PyData.strOk x = true) (hy : PyData.strOk y = true) : PyData.strOk (x ++ y) = true := by
  unfold PyData.strOk at *
  show (x.cps ++ y.cps).all _ = true
  rw [Array.all_append, hx, hy]
  rfl
theorem okS_of (x : String) : PyData.strOk (Str.ofString x) = true := by
  rw [Str.ofString_eq_toList]
  show Array.all _ _ = true
  rw [List.all_toArray, List.all_eq_true]
  intro c hc
  obtain ⟨d, _, rfl⟩ := List.mem_map.mp hc
  have := d.valid
  rw [decide_eq_true_eq]
  show d.val.toNat < _
  rcases this with h | h
  · have : d.val.toNat < 0xd800 := h
    omega
  · have : d.val.toNat < 0x110000 := h.2
    omega
theorem len_append (x y : Str) : (x ++ y).length = x.length + y.length := by
  show (x.cps ++ y.cps).size = _
  rw [Array.size_append]
  rfl
theorem cat_str {x y : Str} (h : x.length + y.length ≤ 2 ^ 20) : binV .add (.str x) (.str y) s = .ok (.str (x ++ y)) s := by
  show (if fits (x.length + y.length) = true then _ else _) = _
  rw [if_pos]
  exact decide_eq_true (Nat.le_trans h (by decide))
end
end Vm
set_option Elab.async false
set_option linter.all false
set_option maxRecDepth 100000
set_option maxHeartbeats 2000000
/-! Golds of any told values; their texts. -/
namespace Vm
open PySem
def d_ftext : Fd := ⟨1, 1, [], (.cons (.ifs (.cmp .eq (.idx (.var 0) (.con (.int 1))) (.con (.int 1))) (.cons (.ret (.bi .str (.cons (.idx (.var 0) (.con (.int 0))) .nil))) .nil) .nil) (.cons (.ret (.bin .add (.bin .add (.bi .str (.cons (.idx (.var 0) (.con (.int 0))) .nil)) (.con (.str "/"))) (.bi .str (.cons (.idx (.var 0) (.con (.int 1))) .nil)))) .nil))⟩
def d_Gold_eq1 : Fd := ⟨2, 2, [], (.cons (.ret (.and (.iso (.var 1) "Gold" ["Gold"]) (.and (.cmp .eq (.fld (.var 0) "weight") (.fld (.var 1) "weight")) (.cmp .eq (.fld (.var 0) "fineness") (.fld (.var 1) "fineness"))))) .nil)⟩
def d_Gold_str : Fd := ⟨1, 1, [], (.cons (.ret (.fst (.cons (.fmt (.call "fraction_text" (.cons (.fld (.var 0) "weight") .nil))) (.cons (.con (.str " at ")) (.cons (.fmt (.call "fraction_text" (.cons (.fld (.var 0) "fineness") .nil))) .nil))))) .nil)⟩
def d__law_is_fraction : Fd := ⟨1, 2, [], (.cons (.ifs (.or (.not (.isi (.var 0) "tuple")) (.cmp .ne (.bi .len (.cons (.var 0) .nil)) (.con (.int 2)))) (.cons (.ret (.con (.bl false))) .nil) .nil) (.cons (.fors (.nm 1) (.val (.var 0)) (.cons (.ifs (.or (.not (.isi (.var 1) "int")) (.isi (.var 1) "bool")) (.cons (.ret (.con (.bl false))) .nil) .nil) .nil)) (.cons (.ret (.and (.cmp .gt (.idx (.var 0) (.con (.int 1))) (.con (.int 0))) (.cmp .eq (.call "_law_frac" (.cons (.idx (.var 0) (.con (.int 0))) (.cons (.idx (.var 0) (.con (.int 1))) .nil))) (.var 0)))) .nil)))⟩
/-! ### texts of whole numbers and fractions -/
theorem lenOf (x : String) : (Str.ofString x).length = x.toList.length := by
  rw [Str.ofString_eq_toList]
  show (List.map _ _).toArray.size = _
  rw [List.size_toArray, List.length_map]
theorem natS_len {n k : Nat} (hk : 1 ≤ k) (h : n < 2 ^ k) : (toString n : String).toList.length ≤ k := by
  show (Nat.repr n).toList.length ≤ k
  unfold Nat.repr
  rw [String.toList_ofList]
  exact toDigits_len_pow (by decide) hk (Nat.lt_of_lt_of_le h (Nat.pow_le_pow_left (by decide) _))
theorem intS_len {i : Int} {k : Nat} (hk : 1 ≤ k) (h : i.natAbs < 2 ^ k) : (Str.ofString (toString i)).length ≤ k + 1 := by
  rw [lenOf]
  cases i with
  | ofNat n => exact Nat.le_succ_of_le (natS_len hk h)
  | negSucc n =>
    show ("-" ++ toString (n + 1) : String).toList.length ≤ _
    rw [String.toList_append, List.length_append]
    have := natS_len (n := n + 1) hk h
    have e : ("-" : String).toList.length = 1 := by decide
    omega
def intS (i : Int) : Str := Str.ofString (toString i)
def ftS (q : Rat) : Str := if (q.den : Int) = 1 then intS q.num else intS q.num ++ ("/" : Str) ++ intS q.den
section
variable {T : Str → Str → Option Te} {gl : Str → Option W} {fl : Str → List Str} {n : Nat} {s : Vs}
theorem str_int {i : Int} {k : Nat} (h : i.natAbs < 2 ^ k) (hk : k < 1900) : biV .str [.int i] s = .ok (.str (intS i)) s := by
  show (if decide (i.natAbs.log2 < 1920) = true then _ else _) = _
  rw [if_pos]
  · rfl
  · rw [decide_eq_true_eq]
    have := log2_le h
    omega
theorem okS_ft (q : Rat) : PyData.strOk (ftS q) = true := by
  unfold ftS
  split
  · exact okS_of _
  · exact okS_append (okS_append (okS_of _) (by decide +kernel)) (okS_of _)
theorem len_ft {q : Rat} {k : Nat} (h : Sm k q) (hk : 1 ≤ k) : (ftS q).length ≤ 2 * k + 3 := by
  have h1 := intS_len hk h.1
  have h2 := intS_len (i := (q.den : Int)) hk (by rw [Int.natAbs_natCast]; exact h.2)
  unfold ftS
  split
  · show (intS q.num).length ≤ _
    unfold intS
    omega
  · rw [len_append, len_append]
    have e : (("/" : Str)).length = 1 := by decide
    unfold intS
    omega
theorem sp_ftext {f : Str} (hT : T Str.empty f = some (.fn d_ftext)) {q : Rat} {k : Nat} (h : Sm k q) (h1 : 1 ≤ k) (hk : k < 1900) : run T gl fl (n + 1) Str.empty f [fr q] s = .ok (.str (ftS q)) s := by
  rw [run_def hT rfl]
  show finO (denB _ (.cons _ (.cons _ .nil)) [some (fr q)] s) = _
  have e1 : biV .str [.int q.num] s = .ok (.str (intS q.num)) s := str_int h.1 hk
  have e2 : biV .str [.int (q.den : Int)] s = .ok (.str (intS q.den)) s := str_int (k := k) (by rw [Int.natAbs_natCast]; exact h.2) hk
  have l1 := intS_len h1 h.1
  have l2 := intS_len (i := (q.den : Int)) h1 (by rw [Int.natAbs_natCast]; exact h.2)
  have e : (("/" : Str)).length = 1 := by decide
  have c1 : binV .add (.str (intS q.num)) (.str ("/" : Str)) s = .ok (.str (intS q.num ++ ("/" : Str))) s := cat_str (by unfold intS; omega)
  have c2 : binV .add (.str (intS q.num ++ ("/" : Str))) (.str (intS q.den)) s = .ok (.str (intS q.num ++ ("/" : Str) ++ intS q.den)) s := cat_str (by rw [len_append]; unfold intS; omega)
  unfold ftS
  by_cases hd : (q.den : Int) = 1
  · rw [if_pos hd]
    simp only [E_var, E_con, E_glo, E_bin, E_neg, E_not, E_and, E_or, E_ite, E_cmp, E_ceq, E_chn, E_tup, E_lst, E_idx, E_slc, E_fld, E_call, E_meth, E_omt, E_bi, E_isi, E_iso, E_lc, L_nil, L_cons, I_val, I_rng1, rngW_int, I_zip, I_enum, T_eq, C_nil, C_asg, C_asgT, C_par, C_exp, C_ret, C_retN, C_pass, C_ifs, C_sfld, C_ssub, C_fors, bd_ok, fx_ok, sq_nx, sq_rt, oF_some, oO_some, finO_rt, finO_nx, truth_bl, cmpV_lt, cmpV_le, cmpV_gt, cmpV_ge, binV_add, binV_sub, idx2_0, idx2_1, idx_fr0, idx_fr1, biV_abs, getO_0, getO_s, set_0, set_s, reduceIte, Bool.not_true, Bool.not_false, Bool.false_eq_true, List.length_cons, List.length_nil, fits0, fits1, fits2, fits3, fits4, fits5, fits6, fits7, fits8, newL_eq, E_fst, J_nil, J_cons, E_fmt, E_ostr, C_rse, C_tryx, fx_exc, bd_exc, sq_exc, finO_exc, trH_nx, trH_rt, trH_exc, oX_some, strO_str, cmpV_eqI, hd, decide_true, e1]
  · rw [if_neg hd]
    simp only [E_var, E_con, E_glo, E_bin, E_neg, E_not, E_and, E_or, E_ite, E_cmp, E_ceq, E_chn, E_tup, E_lst, E_idx, E_slc, E_fld, E_call, E_meth, E_omt, E_bi, E_isi, E_iso, E_lc, L_nil, L_cons, I_val, I_rng1, rngW_int, I_zip, I_enum, T_eq, C_nil, C_asg, C_asgT, C_par, C_exp, C_ret, C_retN, C_pass, C_ifs, C_sfld, C_ssub, C_fors, bd_ok, fx_ok, sq_nx, sq_rt, oF_some, oO_some, finO_rt, finO_nx, truth_bl, cmpV_lt, cmpV_le, cmpV_gt, cmpV_ge, binV_add, binV_sub, idx2_0, idx2_1, idx_fr0, idx_fr1, biV_abs, getO_0, getO_s, set_0, set_s, reduceIte, Bool.not_true, Bool.not_false, Bool.false_eq_true, List.length_cons, List.length_nil, fits0, fits1, fits2, fits3, fits4, fits5, fits6, fits7, fits8, newL_eq, E_fst, J_nil, J_cons, E_fmt, E_ostr, C_rse, C_tryx, fx_exc, bd_exc, sq_exc, finO_exc, trH_nx, trH_rt, trH_exc, oX_some, strO_str, cmpV_eqI, hd, decide_false, e1, e2, c1, c2]
theorem fitsLe {k : Nat} (h : k ≤ 2 ^ 20) : fits k = true := decide_eq_true (Nat.le_trans h (by decide))
def goldS (w f : Rat) : Str := ftS w ++ (" at " : Str) ++ ftS f
theorem okS_gold (w f : Rat) : PyData.strOk (goldS w f) = true := okS_append (okS_append (okS_ft _) (by decide +kernel)) (okS_ft _)
theorem own_str {a : Nat} {w f : Rat} (h : s[a]? = some (goldO w f)) : ownOk "Gold" "__str__" (.ref a) s = true := by
  show (match s[a]? with | some (.ins c' fs) => decide (c' = "Gold") && (fs.lookup ("__str__" : Str)).isNone | _ => false) = true
  rw [h]
  rfl
theorem sp_gold_str (hT : T Str.empty "fraction_text" = some (.fn d_ftext)) (hS : T "Gold" "__str__" = some (.fn d_Gold_str)) {a k l : Nat} {w f : Rat} (ha : s[a]? = some (goldO w f)) (hw : Sm k w) (hf : Sm l f) (h1 : 1 ≤ k) (h2 : 1 ≤ l) (hk : k < 1900) (hl : l < 1900) : run T gl fl (n + 2) "Gold" "__str__" [.ref a] s = .ok (.str (goldS w f)) s := by
  rw [run_def hS rfl]
  show finO (denB _ (.cons _ .nil) [some (.ref a)] s) = _
  have lw := len_ft hw h1
  have lf := len_ft hf h2
  have e4 : ((" at " : Str)).length = 4 := by decide
  have e0 : (Str.empty ++ ftS w) = ftS w := by
    show (⟨#[] ++ (ftS w).cps⟩ : Str) = _
    rw [Array.empty_append]
  have j1 : fits (Str.empty ++ ftS w).length = true := by rw [e0]; exact fitsLe (by omega)
  have j2 : fits (ftS w ++ (" at " : Str)).length = true := by rw [len_append]; exact fitsLe (by omega)
  have j3 : fits (ftS w ++ (" at " : Str) ++ ftS f).length = true := by rw [len_append, len_append]; exact fitsLe (by omega)
  simp only [E_var, E_con, E_glo, E_bin, E_neg, E_not, E_and, E_or, E_ite, E_cmp, E_ceq, E_chn, E_tup, E_lst, E_idx, E_slc, E_fld, E_call, E_meth, E_omt, E_bi, E_isi, E_iso, E_lc, L_nil, L_cons, I_val, I_rng1, rngW_int, I_zip, I_enum, T_eq, C_nil, C_asg, C_asgT, C_par, C_exp, C_ret, C_retN, C_pass, C_ifs, C_sfld, C_ssub, C_fors, bd_ok, fx_ok, sq_nx, sq_rt, oF_some, oO_some, finO_rt, finO_nx, truth_bl, cmpV_lt, cmpV_le, cmpV_gt, cmpV_ge, binV_add, binV_sub, idx2_0, idx2_1, idx_fr0, idx_fr1, biV_abs, getO_0, getO_s, set_0, set_s, reduceIte, Bool.not_true, Bool.not_false, Bool.false_eq_true, List.length_cons, List.length_nil, fits0, fits1, fits2, fits3, fits4, fits5, fits6, fits7, fits8, newL_eq, E_fst, J_nil, J_cons, E_fmt, E_ostr, C_rse, C_tryx, fx_exc, bd_exc, sq_exc, finO_exc, trH_nx, trH_rt, trH_exc, oX_some, strO_str, fld_weight ha, fld_fineness ha, sp_ftext hT hw h1 hk, sp_ftext hT hf h2 hl, fmt_str (fitsLe (show (ftS w).length ≤ 2 ^ 20 by omega)), fmt_str (fitsLe (show (ftS f).length ≤ 2 ^ 20 by omega)), jn_str j1, e0, jn_str j2, jn_str j3]
  rfl
end
end Vm
set_option Elab.async false
set_option linter.all false
set_option maxRecDepth 100000
set_option maxHeartbeats 2000000
/-! Golds of any told values: when they are made. -/
namespace Vm
open PySem
/-- the fraction that a value is -/
def frQ : W → Option Rat
  | .tup [.int a, .int b] => if 1 ≤ b ∧ (Rat.divInt a b).num = a ∧ (((Rat.divInt a b).den : Nat) : Int) = b then some (Rat.divInt a b) else none
  | _ => none
theorem frQ_some {w : W} {q : Rat} (h : frQ w = some q) : w = fr q := by
  unfold frQ at h
  split at h
  · rename_i a b
    split at h
    · rename_i c
      cases h
      unfold fr
      rw [c.2.1, c.2.2]
    · cases h
  · cases h
theorem frQ_fr (q : Rat) : frQ (fr q) = some q := by
  show (if 1 ≤ (q.den : Int) ∧ (Rat.divInt q.num q.den).num = q.num ∧ (((Rat.divInt q.num q.den).den : Nat) : Int) = q.den then some (Rat.divInt q.num q.den) else none) = _
  rw [fr_eta, if_pos]
  have := den_pos' q
  exact ⟨by omega, rfl, rfl⟩
def wholeB : W → Bool
  | .int _ => true
  | _ => false
theorem frQ_two {x y : W} (h : wholeB x = false ∨ wholeB y = false) : frQ (.tup [x, y]) = none := by
  cases x <;> first | rfl | (cases y <;> first | rfl | (rcases h with h | h <;> cases h))
def wtB (w : W) : Bool := match frQ w with
  | some q => decide (0 < q.num)
  | none => false
def fiB (w : W) : Bool := match frQ w with
  | some q => decide (0 ≤ q.num) && !decide (1 < q)
  | none => false
/-- a value of a built-in type, its items too; small -/
structure Od (s : Vs) (w : W) : Prop where
  ty : (tyV w s).isSome = true
  its : ∀ l, w = .tup l → ∀ x ∈ l, (tyV x s).isSome = true
  sm : ∀ a b, w = .tup [.int a, .int b] → a.natAbs < 2 ^ 1000 ∧ b.natAbs < 2 ^ 1000
theorem Od.q {s : Vs} {w : W} {q : Rat} (h : Od s w) (e : frQ w = some q) : w = fr q ∧ Sm 1000 q := by
  have e1 := frQ_some e
  refine ⟨e1, ?_⟩
  have := h.sm q.num q.den e1
  refine ⟨this.1, ?_⟩
  have h2 := this.2
  rw [Int.natAbs_natCast] at h2
  exact h2
theorem od_fr {s : Vs} {q : Rat} {k : Nat} (h : Sm k q) (hk : k ≤ 1000) : Od s (fr q) := by
  refine ⟨rfl, fun l e x hx => ?_, fun a b e => ?_⟩
  · cases e
    simp only [List.mem_cons, List.not_mem_nil, or_false] at hx
    rcases hx with rfl | rfl <;> rfl
  · cases e
    have := h.mono hk
    exact ⟨this.1, by rw [Int.natAbs_natCast]; exact this.2⟩
theorem ty_fr {x : Nat → Prop} {s s' : Vs} {w : W} (f : Fr x s s') (hx : ∀ i o, x i → s[i]? = some o → False) (h : (tyV w s).isSome = true) : tyV w s' = tyV w s := by
  cases w with
  | ref n =>
    show (match s'[n]? with | some (.lst _) => some "list" | some (.dct _) => some "dict" | some (.dtt _) => some "dict" | _ => none) = (match s[n]? with | some (.lst _) => some "list" | some (.dct _) => some "dict" | some (.dtt _) => some "dict" | _ => none)
    have h : (match s[n]? with | some (.lst _) => some "list" | some (.dct _) => some "dict" | some (.dtt _) => some "dict" | _ => none).isSome = true := h
    cases e : s[n]? with
    | none => rw [e] at h; cases h
    | some o => rw [f.get e fun z => hx n o z e]
  | _ => rfl
section
variable {T : Str → Str → Option Te} {gl : Str → Option W} {fl : Str → List Str} {n : Nat} {s : Vs} {w f : W}
theorem ty_ref {a : Nat} {t : String} (h : tyV (.ref a) s = some t) : t = "list" ∨ t = "dict" := by
  have h : (match s[a]? with | some (.lst _) => some "list" | some (.dct _) => some "dict" | some (.dtt _) => some "dict" | _ => none) = some t := h
  split at h
  · cases h; exact .inl rfl
  · cases h; exact .inr rfl
  · cases h; exact .inr rfl
  · cases h
theorem isi_of {t : Str} {a b : String} (hb : isBase t = some b) (h : tyV w s = some a) : isiV t w s = .ok (.bl (decide (a = b) || (decide (a = "bool") && decide (b = "int")))) s := by
  unfold isiV
  rw [hb, h]
theorem isi_tupF (h : (tyV w s).isSome = true) (hn : ∀ l, w ≠ .tup l) : isiV "tuple" w s = .ok (.bl false) s := by
  cases w with
  | tup l => exact absurd rfl (hn l)
  | ref a =>
    obtain ⟨t, ht⟩ := Option.isSome_iff_exists.mp h
    rw [isi_of (b := "tuple") (by decide +kernel) ht]
    rcases ty_ref ht with rfl | rfl <;> rfl
  | glo x => cases h
  | ty x => cases h
  | scr x => cases h
  | _ => rfl
theorem isi_whole (h : (tyV w s).isSome = true) (hw : wholeB w = false) : isiV "int" w s = .ok (.bl false) s ∨ (isiV "int" w s = .ok (.bl true) s ∧ isiV "bool" w s = .ok (.bl true) s) := by
  cases w with
  | int i => cases hw
  | bl b => exact .inr ⟨rfl, rfl⟩
  | ref a =>
    obtain ⟨t, ht⟩ := Option.isSome_iff_exists.mp h
    rw [isi_of (b := "int") (by decide +kernel) ht]
    rcases ty_ref ht with rfl | rfl <;> exact .inl rfl
  | glo x => cases h
  | ty x => cases h
  | scr x => cases h
  | _ => exact .inl rfl
theorem sp_whole (G : GoldX T gl fl) (h : (tyV w s).isSome = true) : run T gl fl (n + 1) Str.empty "is_whole" [w] s = .ok (.bl (wholeB w)) s := by
  cases hw : wholeB w with
  | true =>
    cases w <;> first | cases hw | skip
    exact sp_is_wholeX G _
  | false =>
    refine run_rt G.is_whole rfl (B_ret ?_)
    show den _ _ [some w] s = _
    rcases isi_whole h hw with e | ⟨e, e2⟩
    · simp only [E_var, E_con, E_glo, E_bin, E_neg, E_not, E_and, E_or, E_ite, E_cmp, E_ceq, E_chn, E_tup, E_lst, E_idx, E_slc, E_fld, E_call, E_meth, E_omt, E_bi, E_isi, E_iso, E_lc, L_nil, L_cons, I_val, I_rng1, rngW_int, I_zip, I_enum, T_eq, C_nil, C_asg, C_asgT, C_par, C_exp, C_ret, C_retN, C_pass, C_ifs, C_sfld, C_ssub, C_fors, bd_ok, fx_ok, sq_nx, sq_rt, oF_some, oO_some, finO_rt, finO_nx, truth_bl, cmpV_lt, cmpV_le, cmpV_gt, cmpV_ge, binV_add, binV_sub, idx2_0, idx2_1, idx_fr0, idx_fr1, biV_abs, getO_0, getO_s, set_0, set_s, reduceIte, Bool.not_true, Bool.not_false, Bool.false_eq_true, List.length_cons, List.length_nil, fits0, fits1, fits2, fits3, fits4, fits5, fits6, fits7, fits8, newL_eq, E_fst, J_nil, J_cons, E_fmt, E_ostr, C_rse, C_tryx, fx_exc, bd_exc, sq_exc, finO_exc, trH_nx, trH_rt, trH_exc, oX_some, strO_str, e]
    · simp only [E_var, E_con, E_glo, E_bin, E_neg, E_not, E_and, E_or, E_ite, E_cmp, E_ceq, E_chn, E_tup, E_lst, E_idx, E_slc, E_fld, E_call, E_meth, E_omt, E_bi, E_isi, E_iso, E_lc, L_nil, L_cons, I_val, I_rng1, rngW_int, I_zip, I_enum, T_eq, C_nil, C_asg, C_asgT, C_par, C_exp, C_ret, C_retN, C_pass, C_ifs, C_sfld, C_ssub, C_fors, bd_ok, fx_ok, sq_nx, sq_rt, oF_some, oO_some, finO_rt, finO_nx, truth_bl, cmpV_lt, cmpV_le, cmpV_gt, cmpV_ge, binV_add, binV_sub, idx2_0, idx2_1, idx_fr0, idx_fr1, biV_abs, getO_0, getO_s, set_0, set_s, reduceIte, Bool.not_true, Bool.not_false, Bool.false_eq_true, List.length_cons, List.length_nil, fits0, fits1, fits2, fits3, fits4, fits5, fits6, fits7, fits8, newL_eq, E_fst, J_nil, J_cons, E_fmt, E_ostr, C_rse, C_tryx, fx_exc, bd_exc, sq_exc, finO_exc, trH_nx, trH_rt, trH_exc, oX_some, strO_str, e, e2]
theorem idx_0 {x y : W} : idxV (.tup [x, y]) (.int 0) s = .ok x s := rfl
theorem idx_1 {x y : W} : idxV (.tup [x, y]) (.int 1) s = .ok y s := rfl
theorem sp_is_frac (G : GoldX T gl fl) (h : Od s w) : run T gl fl (n + 3) Str.empty "is_fraction" [w] s = .ok (.bl (frQ w).isSome) s := by
  rw [run_def G.is_fraction rfl]
  show finO (denB _ (.cons _ (.cons _ .nil)) [some w] s) = _
  by_cases ht : ∃ l, w = .tup l
  · obtain ⟨l, rfl⟩ := ht
    have t1 : isiV "tuple" (.tup l) s = .ok (.bl true) s := rfl
    by_cases hl : l.length = 2
    · match l, hl with
      | [x, y], _ =>
        have hx := h.its _ rfl x (by simp)
        have hy := h.its _ rfl y (by simp)
        have c2 : ((2 : Nat) : Int) = 2 := rfl
        cases wx : wholeB x with
        | false =>
          rw [frQ_two (.inl wx)]
          simp only [E_var, E_con, E_glo, E_bin, E_neg, E_not, E_and, E_or, E_ite, E_cmp, E_ceq, E_chn, E_tup, E_lst, E_idx, E_slc, E_fld, E_call, E_meth, E_omt, E_bi, E_isi, E_iso, E_lc, L_nil, L_cons, I_val, I_rng1, rngW_int, I_zip, I_enum, T_eq, C_nil, C_asg, C_asgT, C_par, C_exp, C_ret, C_retN, C_pass, C_ifs, C_sfld, C_ssub, C_fors, bd_ok, fx_ok, sq_nx, sq_rt, oF_some, oO_some, finO_rt, finO_nx, truth_bl, cmpV_lt, cmpV_le, cmpV_gt, cmpV_ge, binV_add, binV_sub, idx2_0, idx2_1, idx_fr0, idx_fr1, biV_abs, getO_0, getO_s, set_0, set_s, reduceIte, Bool.not_true, Bool.not_false, Bool.false_eq_true, List.length_cons, List.length_nil, fits0, fits1, fits2, fits3, fits4, fits5, fits6, fits7, fits8, newL_eq, E_fst, J_nil, J_cons, E_fmt, E_ostr, C_rse, C_tryx, fx_exc, bd_exc, sq_exc, finO_exc, trH_nx, trH_rt, trH_exc, oX_some, strO_str, t1, len_tup, cmpV_neI, Nat.reduceAdd, c2, decide_true, sp_whole G hx, wx, Option.isSome_none]
        | true =>
          cases wy : wholeB y with
          | false =>
            rw [frQ_two (.inr wy)]
            simp only [E_var, E_con, E_glo, E_bin, E_neg, E_not, E_and, E_or, E_ite, E_cmp, E_ceq, E_chn, E_tup, E_lst, E_idx, E_slc, E_fld, E_call, E_meth, E_omt, E_bi, E_isi, E_iso, E_lc, L_nil, L_cons, I_val, I_rng1, rngW_int, I_zip, I_enum, T_eq, C_nil, C_asg, C_asgT, C_par, C_exp, C_ret, C_retN, C_pass, C_ifs, C_sfld, C_ssub, C_fors, bd_ok, fx_ok, sq_nx, sq_rt, oF_some, oO_some, finO_rt, finO_nx, truth_bl, cmpV_lt, cmpV_le, cmpV_gt, cmpV_ge, binV_add, binV_sub, idx2_0, idx2_1, idx_fr0, idx_fr1, biV_abs, getO_0, getO_s, set_0, set_s, reduceIte, Bool.not_true, Bool.not_false, Bool.false_eq_true, List.length_cons, List.length_nil, fits0, fits1, fits2, fits3, fits4, fits5, fits6, fits7, fits8, newL_eq, E_fst, J_nil, J_cons, E_fmt, E_ostr, C_rse, C_tryx, fx_exc, bd_exc, sq_exc, finO_exc, trH_nx, trH_rt, trH_exc, oX_some, strO_str, t1, len_tup, cmpV_neI, Nat.reduceAdd, c2, decide_true, sp_whole G hx, sp_whole G hy, wx, wy, Option.isSome_none]
          | true =>
            cases x <;> first | cases wx | skip
            cases y <;> first | cases wy | skip
            rename_i a b hl3
            have sz := (h.sm a b rfl).2
            have wx : wholeB (.int a) = true := rfl
            have wy : wholeB (.int b) = true := rfl
            by_cases hb : 1 ≤ b
            · have fq := sp_fractionX (gl := gl) (fl := fl) (n := n) (s := s) G.toFracX (a := a) (b := b) (k := 1000) (by omega) sz (by omega)
              have ee : (frQ (.tup [.int a, .int b])).isSome = (decide ((Rat.divInt a b).num = a) && decide ((((Rat.divInt a b).den : Nat) : Int) = b)) := by
                show Option.isSome (if 1 ≤ b ∧ (Rat.divInt a b).num = a ∧ (((Rat.divInt a b).den : Nat) : Int) = b then some (Rat.divInt a b) else none) = _
                by_cases c : (Rat.divInt a b).num = a ∧ (((Rat.divInt a b).den : Nat) : Int) = b
                · rw [if_pos ⟨hb, c⟩, decide_eq_true c.1, decide_eq_true c.2]; rfl
                · rw [if_neg fun z => c z.2]
                  symm
                  rw [Option.isSome_none, Bool.and_eq_false_iff, decide_eq_false_iff_not, decide_eq_false_iff_not]
                  by_cases c1 : (Rat.divInt a b).num = a
                  · exact .inr fun z => c ⟨c1, z⟩
                  · exact .inl c1
              have e2 : cmpV .eq (fr (Rat.divInt a b)) (.tup [.int a, .int b]) s = .ok (.bl (decide ((Rat.divInt a b).num = a) && decide ((((Rat.divInt a b).den : Nat) : Int) = b))) s := cmp_eq (eqD_two _ _ _ _ _)
              rw [ee]
              simp only [E_var, E_con, E_glo, E_bin, E_neg, E_not, E_and, E_or, E_ite, E_cmp, E_ceq, E_chn, E_tup, E_lst, E_idx, E_slc, E_fld, E_call, E_meth, E_omt, E_bi, E_isi, E_iso, E_lc, L_nil, L_cons, I_val, I_rng1, rngW_int, I_zip, I_enum, T_eq, C_nil, C_asg, C_asgT, C_par, C_exp, C_ret, C_retN, C_pass, C_ifs, C_sfld, C_ssub, C_fors, bd_ok, fx_ok, sq_nx, sq_rt, oF_some, oO_some, finO_rt, finO_nx, truth_bl, cmpV_lt, cmpV_le, cmpV_gt, cmpV_ge, binV_add, binV_sub, idx2_0, idx2_1, idx_fr0, idx_fr1, biV_abs, getO_0, getO_s, set_0, set_s, reduceIte, Bool.not_true, Bool.not_false, Bool.false_eq_true, List.length_cons, List.length_nil, fits0, fits1, fits2, fits3, fits4, fits5, fits6, fits7, fits8, newL_eq, E_fst, J_nil, J_cons, E_fmt, E_ostr, C_rse, C_tryx, fx_exc, bd_exc, sq_exc, finO_exc, trH_nx, trH_rt, trH_exc, oX_some, strO_str, t1, len_tup, cmpV_neI, Nat.reduceAdd, c2, decide_true, sp_whole G hx, sp_whole G hy, wx, wy, hb, fq, e2]
            · have ee : (frQ (.tup [.int a, .int b])).isSome = false := by
                show Option.isSome (if 1 ≤ b ∧ (Rat.divInt a b).num = a ∧ (((Rat.divInt a b).den : Nat) : Int) = b then some (Rat.divInt a b) else none) = _
                rw [if_neg fun z => hb z.1]
                rfl
              rw [ee]
              simp only [E_var, E_con, E_glo, E_bin, E_neg, E_not, E_and, E_or, E_ite, E_cmp, E_ceq, E_chn, E_tup, E_lst, E_idx, E_slc, E_fld, E_call, E_meth, E_omt, E_bi, E_isi, E_iso, E_lc, L_nil, L_cons, I_val, I_rng1, rngW_int, I_zip, I_enum, T_eq, C_nil, C_asg, C_asgT, C_par, C_exp, C_ret, C_retN, C_pass, C_ifs, C_sfld, C_ssub, C_fors, bd_ok, fx_ok, sq_nx, sq_rt, oF_some, oO_some, finO_rt, finO_nx, truth_bl, cmpV_lt, cmpV_le, cmpV_gt, cmpV_ge, binV_add, binV_sub, idx2_0, idx2_1, idx_fr0, idx_fr1, biV_abs, getO_0, getO_s, set_0, set_s, reduceIte, Bool.not_true, Bool.not_false, Bool.false_eq_true, List.length_cons, List.length_nil, fits0, fits1, fits2, fits3, fits4, fits5, fits6, fits7, fits8, newL_eq, E_fst, J_nil, J_cons, E_fmt, E_ostr, C_rse, C_tryx, fx_exc, bd_exc, sq_exc, finO_exc, trH_nx, trH_rt, trH_exc, oX_some, strO_str, t1, len_tup, cmpV_neI, Nat.reduceAdd, c2, decide_true, sp_whole G hx, sp_whole G hy, wx, wy, hb, decide_false]
    · have ee : frQ (.tup l) = none := by
        match l, hl with
        | [], _ => rfl
        | [x], _ => cases x <;> rfl
        | [_, _], hl => exact absurd rfl hl
        | x :: y :: _ :: _, _ => cases x <;> first | rfl | (cases y <;> rfl)
      have h2 : ¬ ((l.length : Int) = 2) := by omega
      rw [ee]
      simp only [E_var, E_con, E_glo, E_bin, E_neg, E_not, E_and, E_or, E_ite, E_cmp, E_ceq, E_chn, E_tup, E_lst, E_idx, E_slc, E_fld, E_call, E_meth, E_omt, E_bi, E_isi, E_iso, E_lc, L_nil, L_cons, I_val, I_rng1, rngW_int, I_zip, I_enum, T_eq, C_nil, C_asg, C_asgT, C_par, C_exp, C_ret, C_retN, C_pass, C_ifs, C_sfld, C_ssub, C_fors, bd_ok, fx_ok, sq_nx, sq_rt, oF_some, oO_some, finO_rt, finO_nx, truth_bl, cmpV_lt, cmpV_le, cmpV_gt, cmpV_ge, binV_add, binV_sub, idx2_0, idx2_1, idx_fr0, idx_fr1, biV_abs, getO_0, getO_s, set_0, set_s, reduceIte, Bool.not_true, Bool.not_false, Bool.false_eq_true, List.length_cons, List.length_nil, fits0, fits1, fits2, fits3, fits4, fits5, fits6, fits7, fits8, newL_eq, E_fst, J_nil, J_cons, E_fmt, E_ostr, C_rse, C_tryx, fx_exc, bd_exc, sq_exc, finO_exc, trH_nx, trH_rt, trH_exc, oX_some, strO_str, t1, len_tup, cmpV_neI, h2, decide_false, Option.isSome_none]
  · have t1 := isi_tupF h.ty fun l e => ht ⟨l, e⟩
    have ee : frQ w = none := by
      cases w with
      | tup l => exact absurd ⟨l, rfl⟩ ht
      | _ => rfl
    rw [ee]
    simp only [E_var, E_con, E_glo, E_bin, E_neg, E_not, E_and, E_or, E_ite, E_cmp, E_ceq, E_chn, E_tup, E_lst, E_idx, E_slc, E_fld, E_call, E_meth, E_omt, E_bi, E_isi, E_iso, E_lc, L_nil, L_cons, I_val, I_rng1, rngW_int, I_zip, I_enum, T_eq, C_nil, C_asg, C_asgT, C_par, C_exp, C_ret, C_retN, C_pass, C_ifs, C_sfld, C_ssub, C_fors, bd_ok, fx_ok, sq_nx, sq_rt, oF_some, oO_some, finO_rt, finO_nx, truth_bl, cmpV_lt, cmpV_le, cmpV_gt, cmpV_ge, binV_add, binV_sub, idx2_0, idx2_1, idx_fr0, idx_fr1, biV_abs, getO_0, getO_s, set_0, set_s, reduceIte, Bool.not_true, Bool.not_false, Bool.false_eq_true, List.length_cons, List.length_nil, fits0, fits1, fits2, fits3, fits4, fits5, fits6, fits7, fits8, newL_eq, E_fst, J_nil, J_cons, E_fmt, E_ostr, C_rse, C_tryx, fx_exc, bd_exc, sq_exc, finO_exc, trH_nx, trH_rt, trH_exc, oX_some, strO_str, t1, Option.isSome_none]
theorem sp_is_wt (G : GoldX T gl fl) (h : Od s w) : run T gl fl (n + 4) Str.empty "is_weight" [w] s = .ok (.bl (wtB w)) s := by
  rw [run_def G.is_weight rfl]
  show finO (denB _ (.cons _ .nil) [some w] s) = _
  unfold wtB
  cases e : frQ w with
  | none => simp only [E_var, E_con, E_glo, E_bin, E_neg, E_not, E_and, E_or, E_ite, E_cmp, E_ceq, E_chn, E_tup, E_lst, E_idx, E_slc, E_fld, E_call, E_meth, E_omt, E_bi, E_isi, E_iso, E_lc, L_nil, L_cons, I_val, I_rng1, rngW_int, I_zip, I_enum, T_eq, C_nil, C_asg, C_asgT, C_par, C_exp, C_ret, C_retN, C_pass, C_ifs, C_sfld, C_ssub, C_fors, bd_ok, fx_ok, sq_nx, sq_rt, oF_some, oO_some, finO_rt, finO_nx, truth_bl, cmpV_lt, cmpV_le, cmpV_gt, cmpV_ge, binV_add, binV_sub, idx2_0, idx2_1, idx_fr0, idx_fr1, biV_abs, getO_0, getO_s, set_0, set_s, reduceIte, Bool.not_true, Bool.not_false, Bool.false_eq_true, List.length_cons, List.length_nil, fits0, fits1, fits2, fits3, fits4, fits5, fits6, fits7, fits8, newL_eq, E_fst, J_nil, J_cons, E_fmt, E_ostr, C_rse, C_tryx, fx_exc, bd_exc, sq_exc, finO_exc, trH_nx, trH_rt, trH_exc, oX_some, strO_str, sp_is_frac G h, e, Option.isSome_none]
  | some q =>
    obtain ⟨rfl, sq⟩ := h.q e
    simp only [E_var, E_con, E_glo, E_bin, E_neg, E_not, E_and, E_or, E_ite, E_cmp, E_ceq, E_chn, E_tup, E_lst, E_idx, E_slc, E_fld, E_call, E_meth, E_omt, E_bi, E_isi, E_iso, E_lc, L_nil, L_cons, I_val, I_rng1, rngW_int, I_zip, I_enum, T_eq, C_nil, C_asg, C_asgT, C_par, C_exp, C_ret, C_retN, C_pass, C_ifs, C_sfld, C_ssub, C_fors, bd_ok, fx_ok, sq_nx, sq_rt, oF_some, oO_some, finO_rt, finO_nx, truth_bl, cmpV_lt, cmpV_le, cmpV_gt, cmpV_ge, binV_add, binV_sub, idx2_0, idx2_1, idx_fr0, idx_fr1, biV_abs, getO_0, getO_s, set_0, set_s, reduceIte, Bool.not_true, Bool.not_false, Bool.false_eq_true, List.length_cons, List.length_nil, fits0, fits1, fits2, fits3, fits4, fits5, fits6, fits7, fits8, newL_eq, E_fst, J_nil, J_cons, E_fmt, E_ostr, C_rse, C_tryx, fx_exc, bd_exc, sq_exc, finO_exc, trH_nx, trH_rt, trH_exc, oX_some, strO_str, sp_is_frac G h, e, Option.isSome_some]
theorem sp_is_fi (G : GoldX T gl fl) (h : Od s w) : run T gl fl (n + 4) Str.empty "is_fineness" [w] s = .ok (.bl (fiB w)) s := by
  rw [run_def G.is_fineness rfl]
  show finO (denB _ (.cons _ .nil) [some w] s) = _
  unfold fiB
  cases e : frQ w with
  | none => simp only [E_var, E_con, E_glo, E_bin, E_neg, E_not, E_and, E_or, E_ite, E_cmp, E_ceq, E_chn, E_tup, E_lst, E_idx, E_slc, E_fld, E_call, E_meth, E_omt, E_bi, E_isi, E_iso, E_lc, L_nil, L_cons, I_val, I_rng1, rngW_int, I_zip, I_enum, T_eq, C_nil, C_asg, C_asgT, C_par, C_exp, C_ret, C_retN, C_pass, C_ifs, C_sfld, C_ssub, C_fors, bd_ok, fx_ok, sq_nx, sq_rt, oF_some, oO_some, finO_rt, finO_nx, truth_bl, cmpV_lt, cmpV_le, cmpV_gt, cmpV_ge, binV_add, binV_sub, idx2_0, idx2_1, idx_fr0, idx_fr1, biV_abs, getO_0, getO_s, set_0, set_s, reduceIte, Bool.not_true, Bool.not_false, Bool.false_eq_true, List.length_cons, List.length_nil, fits0, fits1, fits2, fits3, fits4, fits5, fits6, fits7, fits8, newL_eq, E_fst, J_nil, J_cons, E_fmt, E_ostr, C_rse, C_tryx, fx_exc, bd_exc, sq_exc, finO_exc, trH_nx, trH_rt, trH_exc, oX_some, strO_str, sp_is_frac G h, e, Option.isSome_none]
  | some q =>
    obtain ⟨rfl, sq⟩ := h.q e
    by_cases h0 : 0 ≤ q.num
    · simp only [E_var, E_con, E_glo, E_bin, E_neg, E_not, E_and, E_or, E_ite, E_cmp, E_ceq, E_chn, E_tup, E_lst, E_idx, E_slc, E_fld, E_call, E_meth, E_omt, E_bi, E_isi, E_iso, E_lc, L_nil, L_cons, I_val, I_rng1, rngW_int, I_zip, I_enum, T_eq, C_nil, C_asg, C_asgT, C_par, C_exp, C_ret, C_retN, C_pass, C_ifs, C_sfld, C_ssub, C_fors, bd_ok, fx_ok, sq_nx, sq_rt, oF_some, oO_some, finO_rt, finO_nx, truth_bl, cmpV_lt, cmpV_le, cmpV_gt, cmpV_ge, binV_add, binV_sub, idx2_0, idx2_1, idx_fr0, idx_fr1, biV_abs, getO_0, getO_s, set_0, set_s, reduceIte, Bool.not_true, Bool.not_false, Bool.false_eq_true, List.length_cons, List.length_nil, fits0, fits1, fits2, fits3, fits4, fits5, fits6, fits7, fits8, newL_eq, E_fst, J_nil, J_cons, E_fmt, E_ostr, C_rse, C_tryx, fx_exc, bd_exc, sq_exc, finO_exc, trH_nx, trH_rt, trH_exc, oX_some, strO_str, sp_is_frac G h, e, Option.isSome_some, h0, decide_true, G.one, sp_lessX G.toFracX sm_one sq (show 1 + 1000 < 9000 by omega), Bool.true_and]
    · simp only [E_var, E_con, E_glo, E_bin, E_neg, E_not, E_and, E_or, E_ite, E_cmp, E_ceq, E_chn, E_tup, E_lst, E_idx, E_slc, E_fld, E_call, E_meth, E_omt, E_bi, E_isi, E_iso, E_lc, L_nil, L_cons, I_val, I_rng1, rngW_int, I_zip, I_enum, T_eq, C_nil, C_asg, C_asgT, C_par, C_exp, C_ret, C_retN, C_pass, C_ifs, C_sfld, C_ssub, C_fors, bd_ok, fx_ok, sq_nx, sq_rt, oF_some, oO_some, finO_rt, finO_nx, truth_bl, cmpV_lt, cmpV_le, cmpV_gt, cmpV_ge, binV_add, binV_sub, idx2_0, idx2_1, idx_fr0, idx_fr1, biV_abs, getO_0, getO_s, set_0, set_s, reduceIte, Bool.not_true, Bool.not_false, Bool.false_eq_true, List.length_cons, List.length_nil, fits0, fits1, fits2, fits3, fits4, fits5, fits6, fits7, fits8, newL_eq, E_fst, J_nil, J_cons, E_fmt, E_ostr, C_rse, C_tryx, fx_exc, bd_exc, sq_exc, finO_exc, trH_nx, trH_rt, trH_exc, oX_some, strO_str, sp_is_frac G h, e, Option.isSome_some, h0, decide_false, Bool.false_and]
end
end Vm
set_option Elab.async false
set_option linter.all false
set_option maxRecDepth 100000
set_option maxHeartbeats 2000000
/-! Golds of any told values: what is raised, and what the law awaits. -/
namespace Vm
open PySem
def d__law_due : Fd := ⟨2, 2, [], (.cons (.ifs (.or (.not (.call "_law_is_fraction" (.cons (.var 0) .nil))) (.cmp .lt (.idx (.var 0) (.con (.int 0))) (.con (.int 1)))) (.cons (.ret (.lst (.cons (.con (.str "MadeError")) (.cons (.con (.str "weight")) .nil)))) .nil) .nil) (.cons (.ifs (.or (.not (.call "_law_is_fraction" (.cons (.var 1) .nil))) (.or (.cmp .lt (.idx (.var 1) (.con (.int 0))) (.con (.int 0))) (.cmp .gt (.idx (.var 1) (.con (.int 0))) (.idx (.var 1) (.con (.int 1)))))) (.cons (.ret (.lst (.cons (.con (.str "MadeError")) (.cons (.con (.str "fineness")) .nil)))) .nil) .nil) (.cons (.ret (.con (.non))) .nil)))⟩
def d__law_tried : Fd := ⟨2, 4, [], (.cons (.asg 2 (.con (.non))) (.cons (.tryx (.cons (.exp (.call "Gold" (.cons (.var 0) (.cons (.var 1) .nil)))) .nil) [⟨"NoGold", 3, 2, (.ite .kinds "Made NoGold +" (.lst [(.str "MadeError"), (.fld "word")]) (.at_ .kinds))⟩, ⟨"GoldError", 3, 2, (.at_ .kinds)⟩]) (.cons (.ret (.var 2)) .nil)))⟩
def noGold (z : Str) : Exn := ⟨"NoGold", [("word", .str z)]⟩
section
variable {T : Str → Str → Option Te} {gl : Str → Option W} {fl : Str → List Str} {n : Nat} {s : Vs} {w f : W}
theorem xm_gold (z : Str) : xMake "NoGold" [.str z] = some (noGold z) := by rfl
/-- what Gold(w, f) raises -/
def goldE (w f : W) : Option Str := if wtB w = true then (if fiB f = true then none else some "fineness") else some "weight"
theorem ty_app {w : W} {t : Vs} (h : (tyV w s).isSome = true) : (tyV w (s ++ t)).isSome = true := by
  rw [ty_fr (Fr.app (b := fun _ => False)) (fun _ _ z => z.elim) h]
  exact h
theorem Od.fr {s s' : Vs} {w : W} {x : Nat → Prop} (h : Od s w) (f : Fr x s s') (hx : ∀ i o, x i → s[i]? = some o → ∃ l, o = .lst l ∧ ∃ l', s'[i]? = some (.lst l')) : Od s' w := by
  have key : ∀ w, (tyV w s).isSome = true → (tyV w s').isSome = true := fun w hw => by
    cases w with
    | ref n =>
      show (match s'[n]? with | some (.lst _) => some "list" | some (.dct _) => some "dict" | some (.dtt _) => some "dict" | _ => none).isSome = true
      have hw : (match s[n]? with | some (.lst _) => some "list" | some (.dct _) => some "dict" | some (.dtt _) => some "dict" | _ => none).isSome = true := hw
      cases e : s[n]? with
      | none => rw [e] at hw; cases hw
      | some o =>
        by_cases c : x n
        · obtain ⟨l, _, l', e2⟩ := hx n o c e
          rw [e2]
          rfl
        · rw [f.get e c, ← e]
          exact hw
    | _ => exact hw
  exact ⟨key _ h.ty, fun l e y hy => key _ (h.its l e y hy), h.sm⟩
theorem Od.app {t : Vs} (h : Od s w) : Od (s ++ t) w := h.fr (Fr.app (b := fun _ => False)) fun _ _ z => z.elim
theorem sp_Gold_any (G : GoldX T gl fl) (hw : Od s w) (hf : Od s f) : run T gl fl (n + 6) Str.empty "Gold" [w, f] s = match goldE w f with
    | some z => .exc (noGold z) (s ++ [.ins "Gold" []])
    | none => .ok (.ref s.length) (s ++ [.ins "Gold" [("weight", w), ("fineness", f)]]) := by
  have w1 : Od (s ++ [.ins "Gold" []]) w := hw.app
  have f1 : Od (s ++ [.ins "Gold" []]) f := hf.app
  have init : run T gl fl (n + 5) "Gold" "__init__" [.ref s.length, w, f] (s ++ [.ins "Gold" []]) = match goldE w f with
    | some z => .exc (noGold z) (s ++ [.ins "Gold" []])
    | none => .ok .non (s ++ [.ins "Gold" [("weight", w), ("fineness", f)]]) := by
    rw [run_def G.init rfl]
    show finO (denB _ (.cons _ (.cons _ (.cons _ (.cons _ .nil)))) [some (.ref s.length), some w, some f] _) = _
    have k1 : sfldV fl (.ref s.length) "weight" w (s ++ [.ins "Gold" []]) = some (s ++ [.ins "Gold" [("weight", w)]]) := sfld_last (by decide) (by show (fl "Gold").contains _ = true; rw [G.flds]; rfl)
    have k2 : sfldV fl (.ref s.length) "fineness" f (s ++ [.ins "Gold" [("weight", w)]]) = some (s ++ [.ins "Gold" [("weight", w), ("fineness", f)]]) := sfld_last (by show 1 < 1000; omega) (by show (fl "Gold").contains _ = true; rw [G.flds]; rfl)
    unfold goldE
    cases hb : wtB w with
    | false => simp only [E_var, E_con, E_glo, E_bin, E_neg, E_not, E_and, E_or, E_ite, E_cmp, E_ceq, E_chn, E_tup, E_lst, E_idx, E_slc, E_fld, E_call, E_meth, E_omt, E_bi, E_isi, E_iso, E_lc, L_nil, L_cons, I_val, I_rng1, rngW_int, I_zip, I_enum, T_eq, C_nil, C_asg, C_asgT, C_par, C_exp, C_ret, C_retN, C_pass, C_ifs, C_sfld, C_ssub, C_fors, bd_ok, fx_ok, sq_nx, sq_rt, oF_some, oO_some, finO_rt, finO_nx, truth_bl, cmpV_lt, cmpV_le, cmpV_gt, cmpV_ge, binV_add, binV_sub, idx2_0, idx2_1, idx_fr0, idx_fr1, biV_abs, getO_0, getO_s, set_0, set_s, reduceIte, Bool.not_true, Bool.not_false, Bool.false_eq_true, List.length_cons, List.length_nil, fits0, fits1, fits2, fits3, fits4, fits5, fits6, fits7, fits8, newL_eq, E_fst, J_nil, J_cons, E_fmt, E_ostr, C_rse, C_tryx, fx_exc, bd_exc, sq_exc, finO_exc, trH_nx, trH_rt, trH_exc, oX_some, strO_str, sp_is_wt G w1, hb, xm_gold]
    | true =>
      cases hc : fiB f with
      | false => simp only [E_var, E_con, E_glo, E_bin, E_neg, E_not, E_and, E_or, E_ite, E_cmp, E_ceq, E_chn, E_tup, E_lst, E_idx, E_slc, E_fld, E_call, E_meth, E_omt, E_bi, E_isi, E_iso, E_lc, L_nil, L_cons, I_val, I_rng1, rngW_int, I_zip, I_enum, T_eq, C_nil, C_asg, C_asgT, C_par, C_exp, C_ret, C_retN, C_pass, C_ifs, C_sfld, C_ssub, C_fors, bd_ok, fx_ok, sq_nx, sq_rt, oF_some, oO_some, finO_rt, finO_nx, truth_bl, cmpV_lt, cmpV_le, cmpV_gt, cmpV_ge, binV_add, binV_sub, idx2_0, idx2_1, idx_fr0, idx_fr1, biV_abs, getO_0, getO_s, set_0, set_s, reduceIte, Bool.not_true, Bool.not_false, Bool.false_eq_true, List.length_cons, List.length_nil, fits0, fits1, fits2, fits3, fits4, fits5, fits6, fits7, fits8, newL_eq, E_fst, J_nil, J_cons, E_fmt, E_ostr, C_rse, C_tryx, fx_exc, bd_exc, sq_exc, finO_exc, trH_nx, trH_rt, trH_exc, oX_some, strO_str, sp_is_wt G w1, sp_is_fi G f1, hb, hc, xm_gold]
      | true => simp only [E_var, E_con, E_glo, E_bin, E_neg, E_not, E_and, E_or, E_ite, E_cmp, E_ceq, E_chn, E_tup, E_lst, E_idx, E_slc, E_fld, E_call, E_meth, E_omt, E_bi, E_isi, E_iso, E_lc, L_nil, L_cons, I_val, I_rng1, rngW_int, I_zip, I_enum, T_eq, C_nil, C_asg, C_asgT, C_par, C_exp, C_ret, C_retN, C_pass, C_ifs, C_sfld, C_ssub, C_fors, bd_ok, fx_ok, sq_nx, sq_rt, oF_some, oO_some, finO_rt, finO_nx, truth_bl, cmpV_lt, cmpV_le, cmpV_gt, cmpV_ge, binV_add, binV_sub, idx2_0, idx2_1, idx_fr0, idx_fr1, biV_abs, getO_0, getO_s, set_0, set_s, reduceIte, Bool.not_true, Bool.not_false, Bool.false_eq_true, List.length_cons, List.length_nil, fits0, fits1, fits2, fits3, fits4, fits5, fits6, fits7, fits8, newL_eq, E_fst, J_nil, J_cons, E_fmt, E_ostr, C_rse, C_tryx, fx_exc, bd_exc, sq_exc, finO_exc, trH_nx, trH_rt, trH_exc, oX_some, strO_str, sp_is_wt G w1, sp_is_fi G f1, hb, hc, k1, k2]
  rw [run, G.gold]
  show (match run T gl fl (n + 5) "Gold" "__init__" [.ref s.length, w, f] (s ++ [.ins "Gold" []]) with | .ok .non s' => Out.ok (W.ref s.length) s' | .exc x s' => .exc x s' | _ => .err) = _
  rw [init]
  cases goldE w f <;> rfl
/-! ### the law's own -/
theorem sp_law_is_frac (L : LawX T) (hT : T Str.empty "_law_is_fraction" = some (.fn d__law_is_fraction)) (h : Od s w) : run T gl fl (n + 2) Str.empty "_law_is_fraction" [w] s = .ok (.bl (frQ w).isSome) s := by
  rw [run_def hT rfl]
  show finO (denB _ (.cons _ (.cons _ (.cons _ .nil))) [some w, none] s) = _
  by_cases ht : ∃ l, w = .tup l
  · obtain ⟨l, rfl⟩ := ht
    have t1 : isiV "tuple" (.tup l) s = .ok (.bl true) s := rfl
    by_cases hl : l.length = 2
    · match l, hl with
      | [x, y], hl2 =>
        have hx := h.its _ rfl x (by simp)
        have hy := h.its _ rfl y (by simp)
        have c2 : ((2 : Nat) : Int) = 2 := rfl
        cases wx : wholeB x with
        | false =>
          rw [frQ_two (.inl wx)]
          rcases isi_whole hx wx with e | ⟨e, e2⟩
          · simp only [E_var, E_con, E_glo, E_bin, E_neg, E_not, E_and, E_or, E_ite, E_cmp, E_ceq, E_chn, E_tup, E_lst, E_idx, E_slc, E_fld, E_call, E_meth, E_omt, E_bi, E_isi, E_iso, E_lc, L_nil, L_cons, I_val, I_rng1, rngW_int, I_zip, I_enum, T_eq, C_nil, C_asg, C_asgT, C_par, C_exp, C_ret, C_retN, C_pass, C_ifs, C_sfld, C_ssub, C_fors, bd_ok, fx_ok, sq_nx, sq_rt, oF_some, oO_some, finO_rt, finO_nx, truth_bl, cmpV_lt, cmpV_le, cmpV_gt, cmpV_ge, binV_add, binV_sub, idx2_0, idx2_1, idx_fr0, idx_fr1, biV_abs, getO_0, getO_s, set_0, set_s, reduceIte, Bool.not_true, Bool.not_false, Bool.false_eq_true, List.length_cons, List.length_nil, fits0, fits1, fits2, fits3, fits4, fits5, fits6, fits7, fits8, newL_eq, E_fst, J_nil, J_cons, E_fmt, E_ostr, C_rse, C_tryx, fx_exc, bd_exc, sq_exc, finO_exc, trH_nx, trH_rt, trH_exc, oX_some, strO_str, t1, len_tup, cmpV_neI, Nat.reduceAdd, c2, decide_true, srcTup, forL_cons ok_nil, forF_eq, set_nm, e, fq_rt, Option.isSome_none]
          · simp only [E_var, E_con, E_glo, E_bin, E_neg, E_not, E_and, E_or, E_ite, E_cmp, E_ceq, E_chn, E_tup, E_lst, E_idx, E_slc, E_fld, E_call, E_meth, E_omt, E_bi, E_isi, E_iso, E_lc, L_nil, L_cons, I_val, I_rng1, rngW_int, I_zip, I_enum, T_eq, C_nil, C_asg, C_asgT, C_par, C_exp, C_ret, C_retN, C_pass, C_ifs, C_sfld, C_ssub, C_fors, bd_ok, fx_ok, sq_nx, sq_rt, oF_some, oO_some, finO_rt, finO_nx, truth_bl, cmpV_lt, cmpV_le, cmpV_gt, cmpV_ge, binV_add, binV_sub, idx2_0, idx2_1, idx_fr0, idx_fr1, biV_abs, getO_0, getO_s, set_0, set_s, reduceIte, Bool.not_true, Bool.not_false, Bool.false_eq_true, List.length_cons, List.length_nil, fits0, fits1, fits2, fits3, fits4, fits5, fits6, fits7, fits8, newL_eq, E_fst, J_nil, J_cons, E_fmt, E_ostr, C_rse, C_tryx, fx_exc, bd_exc, sq_exc, finO_exc, trH_nx, trH_rt, trH_exc, oX_some, strO_str, t1, len_tup, cmpV_neI, Nat.reduceAdd, c2, decide_true, srcTup, forL_cons ok_nil, forF_eq, set_nm, e, e2, fq_rt, Option.isSome_none]
        | true =>
          cases x <;> first | cases wx | skip
          rename_i a
          cases wy : wholeB y with
          | false =>
            rw [frQ_two (.inr wy)]
            rcases isi_whole hy wy with e | ⟨e, e2⟩
            · simp only [E_var, E_con, E_glo, E_bin, E_neg, E_not, E_and, E_or, E_ite, E_cmp, E_ceq, E_chn, E_tup, E_lst, E_idx, E_slc, E_fld, E_call, E_meth, E_omt, E_bi, E_isi, E_iso, E_lc, L_nil, L_cons, I_val, I_rng1, rngW_int, I_zip, I_enum, T_eq, C_nil, C_asg, C_asgT, C_par, C_exp, C_ret, C_retN, C_pass, C_ifs, C_sfld, C_ssub, C_fors, bd_ok, fx_ok, sq_nx, sq_rt, oF_some, oO_some, finO_rt, finO_nx, truth_bl, cmpV_lt, cmpV_le, cmpV_gt, cmpV_ge, binV_add, binV_sub, idx2_0, idx2_1, idx_fr0, idx_fr1, biV_abs, getO_0, getO_s, set_0, set_s, reduceIte, Bool.not_true, Bool.not_false, Bool.false_eq_true, List.length_cons, List.length_nil, fits0, fits1, fits2, fits3, fits4, fits5, fits6, fits7, fits8, newL_eq, E_fst, J_nil, J_cons, E_fmt, E_ostr, C_rse, C_tryx, fx_exc, bd_exc, sq_exc, finO_exc, trH_nx, trH_rt, trH_exc, oX_some, strO_str, t1, len_tup, cmpV_neI, Nat.reduceAdd, c2, decide_true, srcTup, forL_cons ok_nil, forF_eq, set_nm, isi_int, isi_bool, fq_nx, e, fq_rt, Option.isSome_none]
            · simp only [E_var, E_con, E_glo, E_bin, E_neg, E_not, E_and, E_or, E_ite, E_cmp, E_ceq, E_chn, E_tup, E_lst, E_idx, E_slc, E_fld, E_call, E_meth, E_omt, E_bi, E_isi, E_iso, E_lc, L_nil, L_cons, I_val, I_rng1, rngW_int, I_zip, I_enum, T_eq, C_nil, C_asg, C_asgT, C_par, C_exp, C_ret, C_retN, C_pass, C_ifs, C_sfld, C_ssub, C_fors, bd_ok, fx_ok, sq_nx, sq_rt, oF_some, oO_some, finO_rt, finO_nx, truth_bl, cmpV_lt, cmpV_le, cmpV_gt, cmpV_ge, binV_add, binV_sub, idx2_0, idx2_1, idx_fr0, idx_fr1, biV_abs, getO_0, getO_s, set_0, set_s, reduceIte, Bool.not_true, Bool.not_false, Bool.false_eq_true, List.length_cons, List.length_nil, fits0, fits1, fits2, fits3, fits4, fits5, fits6, fits7, fits8, newL_eq, E_fst, J_nil, J_cons, E_fmt, E_ostr, C_rse, C_tryx, fx_exc, bd_exc, sq_exc, finO_exc, trH_nx, trH_rt, trH_exc, oX_some, strO_str, t1, len_tup, cmpV_neI, Nat.reduceAdd, c2, decide_true, srcTup, forL_cons ok_nil, forF_eq, set_nm, isi_int, isi_bool, fq_nx, e, e2, fq_rt, Option.isSome_none]
          | true =>
            cases y <;> first | cases wy | skip
            rename_i b
            have sz := (h.sm a b rfl).2
            by_cases hb : 1 ≤ b
            · have hb0 : 0 < b := by omega
              have fq := sp_law_fracX (gl := gl) (fl := fl) (n := n) (s := s) L (a := a) (b := b) (k := 1000) (by omega) sz (by omega)
              have ee : (frQ (.tup [.int a, .int b])).isSome = (decide ((Rat.divInt a b).num = a) && decide ((((Rat.divInt a b).den : Nat) : Int) = b)) := by
                show Option.isSome (if 1 ≤ b ∧ (Rat.divInt a b).num = a ∧ (((Rat.divInt a b).den : Nat) : Int) = b then some (Rat.divInt a b) else none) = _
                by_cases c : (Rat.divInt a b).num = a ∧ (((Rat.divInt a b).den : Nat) : Int) = b
                · rw [if_pos ⟨hb, c⟩, decide_eq_true c.1, decide_eq_true c.2]; rfl
                · rw [if_neg fun z => c z.2]
                  symm
                  rw [Option.isSome_none, Bool.and_eq_false_iff, decide_eq_false_iff_not, decide_eq_false_iff_not]
                  by_cases c1 : (Rat.divInt a b).num = a
                  · exact .inr fun z => c ⟨c1, z⟩
                  · exact .inl c1
              have e2 : cmpV .eq (fr (Rat.divInt a b)) (.tup [.int a, .int b]) s = .ok (.bl (decide ((Rat.divInt a b).num = a) && decide ((((Rat.divInt a b).den : Nat) : Int) = b))) s := cmp_eq (eqD_two _ _ _ _ _)
              rw [ee]
              simp only [E_var, E_con, E_glo, E_bin, E_neg, E_not, E_and, E_or, E_ite, E_cmp, E_ceq, E_chn, E_tup, E_lst, E_idx, E_slc, E_fld, E_call, E_meth, E_omt, E_bi, E_isi, E_iso, E_lc, L_nil, L_cons, I_val, I_rng1, rngW_int, I_zip, I_enum, T_eq, C_nil, C_asg, C_asgT, C_par, C_exp, C_ret, C_retN, C_pass, C_ifs, C_sfld, C_ssub, C_fors, bd_ok, fx_ok, sq_nx, sq_rt, oF_some, oO_some, finO_rt, finO_nx, truth_bl, cmpV_lt, cmpV_le, cmpV_gt, cmpV_ge, binV_add, binV_sub, idx2_0, idx2_1, idx_fr0, idx_fr1, biV_abs, getO_0, getO_s, set_0, set_s, reduceIte, Bool.not_true, Bool.not_false, Bool.false_eq_true, List.length_cons, List.length_nil, fits0, fits1, fits2, fits3, fits4, fits5, fits6, fits7, fits8, newL_eq, E_fst, J_nil, J_cons, E_fmt, E_ostr, C_rse, C_tryx, fx_exc, bd_exc, sq_exc, finO_exc, trH_nx, trH_rt, trH_exc, oX_some, strO_str, t1, len_tup, cmpV_neI, Nat.reduceAdd, c2, decide_true, srcTup, forL_cons ok_nil, forL_nil ok_nil, forF_eq, set_nm, isi_int, isi_bool, fq_nx, hb0, fq, e2]
            · have hb0 : ¬ 0 < b := by omega
              have ee : (frQ (.tup [.int a, .int b])).isSome = false := by
                show Option.isSome (if 1 ≤ b ∧ (Rat.divInt a b).num = a ∧ (((Rat.divInt a b).den : Nat) : Int) = b then some (Rat.divInt a b) else none) = _
                rw [if_neg fun z => hb z.1]
                rfl
              rw [ee]
              simp only [E_var, E_con, E_glo, E_bin, E_neg, E_not, E_and, E_or, E_ite, E_cmp, E_ceq, E_chn, E_tup, E_lst, E_idx, E_slc, E_fld, E_call, E_meth, E_omt, E_bi, E_isi, E_iso, E_lc, L_nil, L_cons, I_val, I_rng1, rngW_int, I_zip, I_enum, T_eq, C_nil, C_asg, C_asgT, C_par, C_exp, C_ret, C_retN, C_pass, C_ifs, C_sfld, C_ssub, C_fors, bd_ok, fx_ok, sq_nx, sq_rt, oF_some, oO_some, finO_rt, finO_nx, truth_bl, cmpV_lt, cmpV_le, cmpV_gt, cmpV_ge, binV_add, binV_sub, idx2_0, idx2_1, idx_fr0, idx_fr1, biV_abs, getO_0, getO_s, set_0, set_s, reduceIte, Bool.not_true, Bool.not_false, Bool.false_eq_true, List.length_cons, List.length_nil, fits0, fits1, fits2, fits3, fits4, fits5, fits6, fits7, fits8, newL_eq, E_fst, J_nil, J_cons, E_fmt, E_ostr, C_rse, C_tryx, fx_exc, bd_exc, sq_exc, finO_exc, trH_nx, trH_rt, trH_exc, oX_some, strO_str, t1, len_tup, cmpV_neI, Nat.reduceAdd, c2, decide_true, srcTup, forL_cons ok_nil, forL_nil ok_nil, forF_eq, set_nm, isi_int, isi_bool, fq_nx, hb0, decide_false]
    · have ee : frQ (.tup l) = none := by
        match l, hl with
        | [], _ => rfl
        | [x], _ => cases x <;> rfl
        | [_, _], hl => exact absurd rfl hl
        | x :: y :: _ :: _, _ => cases x <;> first | rfl | (cases y <;> rfl)
      have h2 : ¬ ((l.length : Int) = 2) := by omega
      rw [ee]
      simp only [E_var, E_con, E_glo, E_bin, E_neg, E_not, E_and, E_or, E_ite, E_cmp, E_ceq, E_chn, E_tup, E_lst, E_idx, E_slc, E_fld, E_call, E_meth, E_omt, E_bi, E_isi, E_iso, E_lc, L_nil, L_cons, I_val, I_rng1, rngW_int, I_zip, I_enum, T_eq, C_nil, C_asg, C_asgT, C_par, C_exp, C_ret, C_retN, C_pass, C_ifs, C_sfld, C_ssub, C_fors, bd_ok, fx_ok, sq_nx, sq_rt, oF_some, oO_some, finO_rt, finO_nx, truth_bl, cmpV_lt, cmpV_le, cmpV_gt, cmpV_ge, binV_add, binV_sub, idx2_0, idx2_1, idx_fr0, idx_fr1, biV_abs, getO_0, getO_s, set_0, set_s, reduceIte, Bool.not_true, Bool.not_false, Bool.false_eq_true, List.length_cons, List.length_nil, fits0, fits1, fits2, fits3, fits4, fits5, fits6, fits7, fits8, newL_eq, E_fst, J_nil, J_cons, E_fmt, E_ostr, C_rse, C_tryx, fx_exc, bd_exc, sq_exc, finO_exc, trH_nx, trH_rt, trH_exc, oX_some, strO_str, t1, len_tup, cmpV_neI, h2, decide_false, Option.isSome_none]
  · have t1 := isi_tupF h.ty fun l e => ht ⟨l, e⟩
    have ee : frQ w = none := by
      cases w with
      | tup l => exact absurd ⟨l, rfl⟩ ht
      | _ => rfl
    rw [ee]
    simp only [E_var, E_con, E_glo, E_bin, E_neg, E_not, E_and, E_or, E_ite, E_cmp, E_ceq, E_chn, E_tup, E_lst, E_idx, E_slc, E_fld, E_call, E_meth, E_omt, E_bi, E_isi, E_iso, E_lc, L_nil, L_cons, I_val, I_rng1, rngW_int, I_zip, I_enum, T_eq, C_nil, C_asg, C_asgT, C_par, C_exp, C_ret, C_retN, C_pass, C_ifs, C_sfld, C_ssub, C_fors, bd_ok, fx_ok, sq_nx, sq_rt, oF_some, oO_some, finO_rt, finO_nx, truth_bl, cmpV_lt, cmpV_le, cmpV_gt, cmpV_ge, binV_add, binV_sub, idx2_0, idx2_1, idx_fr0, idx_fr1, biV_abs, getO_0, getO_s, set_0, set_s, reduceIte, Bool.not_true, Bool.not_false, Bool.false_eq_true, List.length_cons, List.length_nil, fits0, fits1, fits2, fits3, fits4, fits5, fits6, fits7, fits8, newL_eq, E_fst, J_nil, J_cons, E_fmt, E_ostr, C_rse, C_tryx, fx_exc, bd_exc, sq_exc, finO_exc, trH_nx, trH_rt, trH_exc, oX_some, strO_str, t1, Option.isSome_none]
/-- what the law's words tell: nothing, or a list of two words -/
def dueR (w f : W) (s : Vs) : Out W := match goldE w f with
  | some z => newL [.str "MadeError", .str z] s
  | none => .ok .non s
theorem num_lt1 (q : Rat) : decide (q.num < 1) = !decide (0 < q.num) := by
  by_cases h : 0 < q.num
  · rw [decide_eq_true h, decide_eq_false (by omega)]; rfl
  · rw [decide_eq_false h, decide_eq_true (by omega)]; rfl
theorem lt_one (q : Rat) : decide ((q.den : Int) < q.num) = decide (1 < q) := by
  rw [decide_eq_decide, Rat.lt_iff]
  show _ ↔ 1 * (q.den : Int) < q.num * 1
  rw [Int.one_mul, Int.mul_one]
theorem sp_due (L : LawX T) (hT : T Str.empty "_law_is_fraction" = some (.fn d__law_is_fraction)) (hD : T Str.empty "_law_due" = some (.fn d__law_due)) (hw : Od s w) (hf : Od s f) : run T gl fl (n + 3) Str.empty "_law_due" [w, f] s = dueR w f s := by
  rw [run_def hD rfl]
  show finO (denB _ (.cons _ (.cons _ (.cons _ .nil))) [some w, some f] s) = _
  unfold dueR goldE
  cases ew : frQ w with
  | none =>
    have hb : wtB w = false := by unfold wtB; rw [ew]
    simp only [E_var, E_con, E_glo, E_bin, E_neg, E_not, E_and, E_or, E_ite, E_cmp, E_ceq, E_chn, E_tup, E_lst, E_idx, E_slc, E_fld, E_call, E_meth, E_omt, E_bi, E_isi, E_iso, E_lc, L_nil, L_cons, I_val, I_rng1, rngW_int, I_zip, I_enum, T_eq, C_nil, C_asg, C_asgT, C_par, C_exp, C_ret, C_retN, C_pass, C_ifs, C_sfld, C_ssub, C_fors, bd_ok, fx_ok, sq_nx, sq_rt, oF_some, oO_some, finO_rt, finO_nx, truth_bl, cmpV_lt, cmpV_le, cmpV_gt, cmpV_ge, binV_add, binV_sub, idx2_0, idx2_1, idx_fr0, idx_fr1, biV_abs, getO_0, getO_s, set_0, set_s, reduceIte, Bool.not_true, Bool.not_false, Bool.false_eq_true, List.length_cons, List.length_nil, fits0, fits1, fits2, fits3, fits4, fits5, fits6, fits7, fits8, newL_eq, E_fst, J_nil, J_cons, E_fmt, E_ostr, C_rse, C_tryx, fx_exc, bd_exc, sq_exc, finO_exc, trH_nx, trH_rt, trH_exc, oX_some, strO_str, sp_law_is_frac L hT hw, ew, Option.isSome_none, hb]
  | some q =>
    obtain ⟨rfl, sq⟩ := hw.q ew
    have hb : wtB (fr q) = decide (0 < q.num) := by unfold wtB; rw [ew]
    by_cases h0 : 0 < q.num
    · have h1 : ¬ q.num < 1 := by omega
      cases ef : frQ f with
      | none =>
        have hc : fiB f = false := by unfold fiB; rw [ef]
        simp only [E_var, E_con, E_glo, E_bin, E_neg, E_not, E_and, E_or, E_ite, E_cmp, E_ceq, E_chn, E_tup, E_lst, E_idx, E_slc, E_fld, E_call, E_meth, E_omt, E_bi, E_isi, E_iso, E_lc, L_nil, L_cons, I_val, I_rng1, rngW_int, I_zip, I_enum, T_eq, C_nil, C_asg, C_asgT, C_par, C_exp, C_ret, C_retN, C_pass, C_ifs, C_sfld, C_ssub, C_fors, bd_ok, fx_ok, sq_nx, sq_rt, oF_some, oO_some, finO_rt, finO_nx, truth_bl, cmpV_lt, cmpV_le, cmpV_gt, cmpV_ge, binV_add, binV_sub, idx2_0, idx2_1, idx_fr0, idx_fr1, biV_abs, getO_0, getO_s, set_0, set_s, reduceIte, Bool.not_true, Bool.not_false, Bool.false_eq_true, List.length_cons, List.length_nil, fits0, fits1, fits2, fits3, fits4, fits5, fits6, fits7, fits8, newL_eq, E_fst, J_nil, J_cons, E_fmt, E_ostr, C_rse, C_tryx, fx_exc, bd_exc, sq_exc, finO_exc, trH_nx, trH_rt, trH_exc, oX_some, strO_str, sp_law_is_frac L hT hw, sp_law_is_frac L hT hf, ew, ef, Option.isSome_none, Option.isSome_some, hb, h0, h1, decide_true, decide_false, hc]
      | some p =>
        obtain ⟨rfl, sp⟩ := hf.q ef
        have hc : fiB (fr p) = (decide (0 ≤ p.num) && !decide (1 < p)) := by unfold fiB; rw [ef]
        by_cases h2 : 0 ≤ p.num
        · have h3 : ¬ p.num < 0 := by omega
          by_cases h4 : 1 < p
          · simp only [E_var, E_con, E_glo, E_bin, E_neg, E_not, E_and, E_or, E_ite, E_cmp, E_ceq, E_chn, E_tup, E_lst, E_idx, E_slc, E_fld, E_call, E_meth, E_omt, E_bi, E_isi, E_iso, E_lc, L_nil, L_cons, I_val, I_rng1, rngW_int, I_zip, I_enum, T_eq, C_nil, C_asg, C_asgT, C_par, C_exp, C_ret, C_retN, C_pass, C_ifs, C_sfld, C_ssub, C_fors, bd_ok, fx_ok, sq_nx, sq_rt, oF_some, oO_some, finO_rt, finO_nx, truth_bl, cmpV_lt, cmpV_le, cmpV_gt, cmpV_ge, binV_add, binV_sub, idx2_0, idx2_1, idx_fr0, idx_fr1, biV_abs, getO_0, getO_s, set_0, set_s, reduceIte, Bool.not_true, Bool.not_false, Bool.false_eq_true, List.length_cons, List.length_nil, fits0, fits1, fits2, fits3, fits4, fits5, fits6, fits7, fits8, newL_eq, E_fst, J_nil, J_cons, E_fmt, E_ostr, C_rse, C_tryx, fx_exc, bd_exc, sq_exc, finO_exc, trH_nx, trH_rt, trH_exc, oX_some, strO_str, sp_law_is_frac L hT hw, sp_law_is_frac L hT hf, ew, ef, Option.isSome_some, hb, h0, h1, decide_true, decide_false, hc, h2, h3, lt_one, h4, Bool.and_false, Bool.true_and]
          · simp only [E_var, E_con, E_glo, E_bin, E_neg, E_not, E_and, E_or, E_ite, E_cmp, E_ceq, E_chn, E_tup, E_lst, E_idx, E_slc, E_fld, E_call, E_meth, E_omt, E_bi, E_isi, E_iso, E_lc, L_nil, L_cons, I_val, I_rng1, rngW_int, I_zip, I_enum, T_eq, C_nil, C_asg, C_asgT, C_par, C_exp, C_ret, C_retN, C_pass, C_ifs, C_sfld, C_ssub, C_fors, bd_ok, fx_ok, sq_nx, sq_rt, oF_some, oO_some, finO_rt, finO_nx, truth_bl, cmpV_lt, cmpV_le, cmpV_gt, cmpV_ge, binV_add, binV_sub, idx2_0, idx2_1, idx_fr0, idx_fr1, biV_abs, getO_0, getO_s, set_0, set_s, reduceIte, Bool.not_true, Bool.not_false, Bool.false_eq_true, List.length_cons, List.length_nil, fits0, fits1, fits2, fits3, fits4, fits5, fits6, fits7, fits8, newL_eq, E_fst, J_nil, J_cons, E_fmt, E_ostr, C_rse, C_tryx, fx_exc, bd_exc, sq_exc, finO_exc, trH_nx, trH_rt, trH_exc, oX_some, strO_str, sp_law_is_frac L hT hw, sp_law_is_frac L hT hf, ew, ef, Option.isSome_some, hb, h0, h1, decide_true, decide_false, hc, h2, h3, lt_one, h4, Bool.and_true, Bool.true_and]
        · have h3 : p.num < 0 := by omega
          simp only [E_var, E_con, E_glo, E_bin, E_neg, E_not, E_and, E_or, E_ite, E_cmp, E_ceq, E_chn, E_tup, E_lst, E_idx, E_slc, E_fld, E_call, E_meth, E_omt, E_bi, E_isi, E_iso, E_lc, L_nil, L_cons, I_val, I_rng1, rngW_int, I_zip, I_enum, T_eq, C_nil, C_asg, C_asgT, C_par, C_exp, C_ret, C_retN, C_pass, C_ifs, C_sfld, C_ssub, C_fors, bd_ok, fx_ok, sq_nx, sq_rt, oF_some, oO_some, finO_rt, finO_nx, truth_bl, cmpV_lt, cmpV_le, cmpV_gt, cmpV_ge, binV_add, binV_sub, idx2_0, idx2_1, idx_fr0, idx_fr1, biV_abs, getO_0, getO_s, set_0, set_s, reduceIte, Bool.not_true, Bool.not_false, Bool.false_eq_true, List.length_cons, List.length_nil, fits0, fits1, fits2, fits3, fits4, fits5, fits6, fits7, fits8, newL_eq, E_fst, J_nil, J_cons, E_fmt, E_ostr, C_rse, C_tryx, fx_exc, bd_exc, sq_exc, finO_exc, trH_nx, trH_rt, trH_exc, oX_some, strO_str, sp_law_is_frac L hT hw, sp_law_is_frac L hT hf, ew, ef, Option.isSome_some, hb, h0, h1, decide_true, decide_false, hc, h2, h3, Bool.false_and]
    · have h1 : q.num < 1 := by omega
      simp only [E_var, E_con, E_glo, E_bin, E_neg, E_not, E_and, E_or, E_ite, E_cmp, E_ceq, E_chn, E_tup, E_lst, E_idx, E_slc, E_fld, E_call, E_meth, E_omt, E_bi, E_isi, E_iso, E_lc, L_nil, L_cons, I_val, I_rng1, rngW_int, I_zip, I_enum, T_eq, C_nil, C_asg, C_asgT, C_par, C_exp, C_ret, C_retN, C_pass, C_ifs, C_sfld, C_ssub, C_fors, bd_ok, fx_ok, sq_nx, sq_rt, oF_some, oO_some, finO_rt, finO_nx, truth_bl, cmpV_lt, cmpV_le, cmpV_gt, cmpV_ge, binV_add, binV_sub, idx2_0, idx2_1, idx_fr0, idx_fr1, biV_abs, getO_0, getO_s, set_0, set_s, reduceIte, Bool.not_true, Bool.not_false, Bool.false_eq_true, List.length_cons, List.length_nil, fits0, fits1, fits2, fits3, fits4, fits5, fits6, fits7, fits8, newL_eq, E_fst, J_nil, J_cons, E_fmt, E_ostr, C_rse, C_tryx, fx_exc, bd_exc, sq_exc, finO_exc, trH_nx, trH_rt, trH_exc, oX_some, strO_str, sp_law_is_frac L hT hw, ew, Option.isSome_some, hb, h0, h1, decide_true, decide_false]
theorem hand_gold (z : Str) (r : Rho) (hr : r.length = 4) : handF [⟨"NoGold", 3, 2, (.ite .kinds "Made NoGold +" (.lst [(.str "MadeError"), (.fld "word")]) (.at_ .kinds))⟩, ⟨"GoldError", 3, 2, (.at_ .kinds)⟩] (noGold z) r s = .nx ((r.set 2 (some (.ref s.length))).set 3 none) (s ++ [.lst [.str "MadeError", .str z]]) := by
  show (if decide (3 < r.length ∧ 2 ≠ 3) = true then (match newL [.str "MadeError", .str z] s with | .ok w s' => Fin.nx ((r.set 2 (some w)).set 3 none) s' | _ => .err) else .err) = _
  rw [if_pos (by rw [hr]; decide)]
  rfl
/-- the law's try -/
theorem sp_tried (G : GoldX T gl fl) (hD : T Str.empty "_law_tried" = some (.fn d__law_tried)) (hw : Od s w) (hf : Od s f) : run T gl fl (n + 7) Str.empty "_law_tried" [w, f] s = match goldE w f with
    | some z => .ok (.ref (s.length + 1)) (s ++ [.ins "Gold" []] ++ [.lst [.str "MadeError", .str z]])
    | none => .ok .non (s ++ [.ins "Gold" [("weight", w), ("fineness", f)]]) := by
  rw [run_def hD rfl]
  show finO (denB _ (.cons _ (.cons _ (.cons _ .nil))) [some w, some f, none, none] s) = _
  have e := sp_Gold_any (n := n) G hw hf
  cases hg : goldE w f with
  | none =>
    rw [hg] at e
    simp only [E_var, E_con, E_glo, E_bin, E_neg, E_not, E_and, E_or, E_ite, E_cmp, E_ceq, E_chn, E_tup, E_lst, E_idx, E_slc, E_fld, E_call, E_meth, E_omt, E_bi, E_isi, E_iso, E_lc, L_nil, L_cons, I_val, I_rng1, rngW_int, I_zip, I_enum, T_eq, C_nil, C_asg, C_asgT, C_par, C_exp, C_ret, C_retN, C_pass, C_ifs, C_sfld, C_ssub, C_fors, bd_ok, fx_ok, sq_nx, sq_rt, oF_some, oO_some, finO_rt, finO_nx, truth_bl, cmpV_lt, cmpV_le, cmpV_gt, cmpV_ge, binV_add, binV_sub, idx2_0, idx2_1, idx_fr0, idx_fr1, biV_abs, getO_0, getO_s, set_0, set_s, reduceIte, Bool.not_true, Bool.not_false, Bool.false_eq_true, List.length_cons, List.length_nil, fits0, fits1, fits2, fits3, fits4, fits5, fits6, fits7, fits8, newL_eq, E_fst, J_nil, J_cons, E_fmt, E_ostr, C_rse, C_tryx, fx_exc, bd_exc, sq_exc, finO_exc, trH_nx, trH_rt, trH_exc, oX_some, strO_str, e]
  | some z =>
    rw [hg] at e
    have l1 : (s ++ [Ob.ins "Gold" []]).length = s.length + 1 := List.length_append
    simp only [E_var, E_con, E_glo, E_bin, E_neg, E_not, E_and, E_or, E_ite, E_cmp, E_ceq, E_chn, E_tup, E_lst, E_idx, E_slc, E_fld, E_call, E_meth, E_omt, E_bi, E_isi, E_iso, E_lc, L_nil, L_cons, I_val, I_rng1, rngW_int, I_zip, I_enum, T_eq, C_nil, C_asg, C_asgT, C_par, C_exp, C_ret, C_retN, C_pass, C_ifs, C_sfld, C_ssub, C_fors, bd_ok, fx_ok, sq_nx, sq_rt, oF_some, oO_some, finO_rt, finO_nx, truth_bl, cmpV_lt, cmpV_le, cmpV_gt, cmpV_ge, binV_add, binV_sub, idx2_0, idx2_1, idx_fr0, idx_fr1, biV_abs, getO_0, getO_s, set_0, set_s, reduceIte, Bool.not_true, Bool.not_false, Bool.false_eq_true, List.length_cons, List.length_nil, fits0, fits1, fits2, fits3, fits4, fits5, fits6, fits7, fits8, newL_eq, E_fst, J_nil, J_cons, E_fmt, E_ostr, C_rse, C_tryx, fx_exc, bd_exc, sq_exc, finO_exc, trH_nx, trH_rt, trH_exc, oX_some, strO_str, e, hand_gold z [some w, some f, some .non, none] rfl, l1]
theorem eqD_words {a b : Nat} {x y z t : Str} (ha : s[a]? = some (.lst [.str x, .str y])) (hb : s[b]? = some (.lst [.str z, .str t])) (hx : PyData.strOk x = true) (hy : PyData.strOk y = true) (hz : PyData.strOk z = true) (ht : PyData.strOk t = true) :
    eqD s (.ref a) (.ref b) = some (decide (x = z) && decide (y = t)) := by
  have key : ∀ {c : Nat} {x y : Str}, s[c]? = some (.lst [.str x, .str y]) → toD s 100000 (.ref c) = some (.list [.str x, .str y]) := fun {c x y} h => by
    show toD s (99999 + 1) _ = _
    rw [toD_ref h]
    rfl
  have sh : ∀ {x y : Str}, PyData.strOk x = true → PyData.strOk y = true → SeqAt.shaped (.list [.str x, .str y]) = true := fun {x y} h1 h2 => by
    unfold SeqAt.shaped
    simp only [PyData.canLay0, PyData.canLayAll0, h1, h2, Bool.and_true, Bool.true_and]
    rfl
  unfold eqD
  rw [key ha, key hb]
  show (if (SeqAt.shaped (.list [.str x, .str y]) && SeqAt.shaped (.list [.str z, .str t])) = true then some (PyData.eqv (.list [.str x, .str y]) (.list [.str z, .str t])) else none) = _
  rw [sh hx hy, sh hz ht, Bool.true_and, if_pos rfl]
  simp only [PyData.eqv, PyData.eqvAll, Bool.and_true]
  congr
end
end Vm
set_option Elab.async false
set_option linter.all false
set_option maxRecDepth 100000
set_option maxHeartbeats 2000000
/-! Own ==; odd values drawn. -/
namespace Vm
open PySem
def d__law_odd : Fd := ⟨1, 2, [], (.cons (.asg 1 (.lst (.cons (.neg (.con (.int 1))) (.cons (.con (.int 0)) (.cons (.con (.int 1)) (.cons (.con (.bl true)) (.cons (.con (.bl false)) (.cons (.con (.non)) (.cons (.con (.str "")) (.cons (.con (.str "ruby")) (.cons (.con (.str "Ruby")) (.cons (.con (.str "a b")) (.cons (.con (.str "abcdefghi")) (.cons (.tup .nil) (.cons (.tup (.cons (.con (.int 1)) (.cons (.con (.int 1)) .nil))) (.cons (.tup (.cons (.con (.int 0)) (.cons (.con (.int 1)) .nil))) (.cons (.tup (.cons (.con (.int 1)) (.cons (.con (.int 0)) .nil))) (.cons (.tup (.cons (.con (.int 2)) (.cons (.con (.int 4)) .nil))) .nil)))))))))))))))))) (.cons (.asg 1 (.bin .add (.var 1) (.lst (.cons (.tup (.cons (.neg (.con (.int 1))) (.cons (.con (.int 2)) .nil))) (.cons (.tup (.cons (.con (.int 1)) (.cons (.con (.int 2)) .nil))) (.cons (.tup (.cons (.con (.int 3)) (.cons (.con (.int 2)) .nil))) (.cons (.tup (.cons (.con (.bl true)) (.cons (.con (.int 1)) .nil))) (.cons (.tup (.cons (.con (.int 1)) (.cons (.con (.bl true)) .nil))) (.cons (.tup (.cons (.con (.int 1)) (.cons (.con (.int 1)) (.cons (.con (.int 1)) .nil)))) (.cons (.lst (.cons (.con (.int 1)) (.cons (.con (.int 2)) .nil))) (.cons (.con (.str "1/2")) (.cons (.con (.int 585)) (.cons (.con (.int 999)) (.cons (.con (.int 1000)) (.cons (.bin .pow (.con (.int 10)) (.con (.int 30))) .nil))))))))))))))) (.cons (.ret (.idx (.var 1) (.call "_law_take" (.cons (.var 0) (.cons (.con (.int 28)) .nil))))) .nil)))⟩
section
variable {T : Str → Str → Option Te} {gl : Str → Option W} {fl : Str → List Str} {n : Nat} {s : Vs} {w f : W}
theorem toD_ins {a : Nat} {c : Str} {fs : List (Str × W)} (h : s[a]? = some (.ins c fs)) : toD s 100000 (.ref a) = none := by
  show toD s (99999 + 1) _ = _
  rw [toD]
  unfold lstAt
  rw [h]
theorem eqD_insL {a : Nat} {c : Str} {fs : List (Str × W)} (h : s[a]? = some (.ins c fs)) (x : W) : eqD s (.ref a) x = none := by
  unfold eqD
  rw [toD_ins h]
theorem eqD_insR {a : Nat} {c : Str} {fs : List (Str × W)} (h : s[a]? = some (.ins c fs)) (x : W) : eqD s x (.ref a) = none := by
  unfold eqD
  rw [toD_ins h]
  cases toD s 100000 x <;> rfl
theorem insOf_at {a : Nat} {c : Str} {fs : List (Str × W)} (h : s[a]? = some (.ins c fs)) : insOf s (.ref a) = some c := by
  show (match s[a]? with | some (.ins c _) => some c | _ => none) = some c
  rw [h]
theorem insOf_no {x : W} (h : (tyV x s).isSome = true) : insOf s x = none := by
  cases x with
  | ref a =>
    have h : (match s[a]? with | some (.lst _) => some "list" | some (.dct _) => some "dict" | some (.dtt _) => some "dict" | _ => none).isSome = true := h
    show (match s[a]? with | some (.ins c _) => some c | _ => none) = none
    split at h <;> first | (cases h; done) | (rename_i e; rw [e])
  | _ => rfl
theorem iso_at {a : Nat} {c t : Str} {cs : List Str} {fs : List (Str × W)} (h : s[a]? = some (.ins c fs)) (hc : cs.contains c = true) : isoV cs t (.ref a) s = .ok (.bl (decide (c = t))) s := by
  unfold isoV
  rw [insOf_at h]
  show (if cs.contains c = true then _ else _) = _
  rw [if_pos hc]
theorem iso_no {x : W} {t : Str} {cs : List Str} (h : (tyV x s).isSome = true) : isoV cs t x s = .ok (.bl false) s := by
  unfold isoV
  rw [insOf_no h]
  show (if (tyV x s).isSome = true then _ else _) = _
  rw [if_pos h]
variable (hE : T "Gold" "__eq__" = some (.fn d_Gold_eq1))
include hE
theorem sp_gold_eq {a b : Nat} {w f u g : Rat} (ha : s[a]? = some (goldO w f)) (hb : s[b]? = some (goldO u g)) : run T gl fl (n + 1) "Gold" "__eq__" [.ref a, .ref b] s = .ok (.bl (decide (w = u) && decide (f = g))) s := by
  rw [run_def hE rfl]
  show finO (denB _ (.cons _ .nil) [some (.ref a), some (.ref b)] s) = _
  have i1 : isoV ["Gold"] "Gold" (.ref b) s = .ok (.bl true) s := iso_at hb (by rfl)
  by_cases h : w = u
  · simp only [E_var, E_con, E_glo, E_bin, E_neg, E_not, E_and, E_or, E_ite, E_cmp, E_ceq, E_chn, E_tup, E_lst, E_idx, E_slc, E_fld, E_call, E_meth, E_omt, E_bi, E_isi, E_iso, E_lc, L_nil, L_cons, I_val, I_rng1, rngW_int, I_zip, I_enum, T_eq, C_nil, C_asg, C_asgT, C_par, C_exp, C_ret, C_retN, C_pass, C_ifs, C_sfld, C_ssub, C_fors, bd_ok, fx_ok, sq_nx, sq_rt, oF_some, oO_some, finO_rt, finO_nx, truth_bl, cmpV_lt, cmpV_le, cmpV_gt, cmpV_ge, binV_add, binV_sub, idx2_0, idx2_1, idx_fr0, idx_fr1, biV_abs, getO_0, getO_s, set_0, set_s, reduceIte, Bool.not_true, Bool.not_false, Bool.false_eq_true, List.length_cons, List.length_nil, fits0, fits1, fits2, fits3, fits4, fits5, fits6, fits7, fits8, newL_eq, E_fst, J_nil, J_cons, E_fmt, E_ostr, C_rse, C_tryx, fx_exc, bd_exc, sq_exc, finO_exc, trH_nx, trH_rt, trH_exc, oX_some, strO_str, i1, fld_weight ha, fld_weight hb, fld_fineness ha, fld_fineness hb, cmpV_eqF, h, decide_true, Bool.true_and]
  · simp only [E_var, E_con, E_glo, E_bin, E_neg, E_not, E_and, E_or, E_ite, E_cmp, E_ceq, E_chn, E_tup, E_lst, E_idx, E_slc, E_fld, E_call, E_meth, E_omt, E_bi, E_isi, E_iso, E_lc, L_nil, L_cons, I_val, I_rng1, rngW_int, I_zip, I_enum, T_eq, C_nil, C_asg, C_asgT, C_par, C_exp, C_ret, C_retN, C_pass, C_ifs, C_sfld, C_ssub, C_fors, bd_ok, fx_ok, sq_nx, sq_rt, oF_some, oO_some, finO_rt, finO_nx, truth_bl, cmpV_lt, cmpV_le, cmpV_gt, cmpV_ge, binV_add, binV_sub, idx2_0, idx2_1, idx_fr0, idx_fr1, biV_abs, getO_0, getO_s, set_0, set_s, reduceIte, Bool.not_true, Bool.not_false, Bool.false_eq_true, List.length_cons, List.length_nil, fits0, fits1, fits2, fits3, fits4, fits5, fits6, fits7, fits8, newL_eq, E_fst, J_nil, J_cons, E_fmt, E_ostr, C_rse, C_tryx, fx_exc, bd_exc, sq_exc, finO_exc, trH_nx, trH_rt, trH_exc, oX_some, strO_str, i1, fld_weight ha, fld_weight hb, fld_fineness ha, fld_fineness hb, cmpV_eqF, h, decide_false, Bool.false_and]
theorem sp_gold_eqN {a : Nat} {x : W} (hx : (tyV x s).isSome = true) : run T gl fl (n + 1) "Gold" "__eq__" [.ref a, x] s = .ok (.bl false) s := by
  rw [run_def hE rfl]
  show finO (denB _ (.cons _ .nil) [some (.ref a), some x] s) = _
  have i1 : isoV ["Gold"] "Gold" x s = .ok (.bl false) s := iso_no hx
  simp only [E_var, E_con, E_glo, E_bin, E_neg, E_not, E_and, E_or, E_ite, E_cmp, E_ceq, E_chn, E_tup, E_lst, E_idx, E_slc, E_fld, E_call, E_meth, E_omt, E_bi, E_isi, E_iso, E_lc, L_nil, L_cons, I_val, I_rng1, rngW_int, I_zip, I_enum, T_eq, C_nil, C_asg, C_asgT, C_par, C_exp, C_ret, C_retN, C_pass, C_ifs, C_sfld, C_ssub, C_fors, bd_ok, fx_ok, sq_nx, sq_rt, oF_some, oO_some, finO_rt, finO_nx, truth_bl, cmpV_lt, cmpV_le, cmpV_gt, cmpV_ge, binV_add, binV_sub, idx2_0, idx2_1, idx_fr0, idx_fr1, biV_abs, getO_0, getO_s, set_0, set_s, reduceIte, Bool.not_true, Bool.not_false, Bool.false_eq_true, List.length_cons, List.length_nil, fits0, fits1, fits2, fits3, fits4, fits5, fits6, fits7, fits8, newL_eq, E_fst, J_nil, J_cons, E_fmt, E_ostr, C_rse, C_tryx, fx_exc, bd_exc, sq_exc, finO_exc, trH_nx, trH_rt, trH_exc, oX_some, strO_str, i1]
theorem eqo_gold {a b : Nat} {w f u g : Rat} {ng : Bool} (ha : s[a]? = some (goldO w f)) (hb : s[b]? = some (goldO u g)) : eqoV (run T gl fl (n + 1)) ng ["Gold"] (.ref a) (.ref b) s = .ok (.bl ((decide (w = u) && decide (f = g)) != ng)) s := by
  unfold eqoV
  rw [eqD_insL ha]
  have o : ownC ["Gold"] (.ref a) (.ref b) s = some ("Gold" : Str) := by
    unfold ownC
    rw [insOf_at ha, insOf_at hb]
    rfl
  rw [o]
  show (run T gl fl (n + 1) "Gold" "__eq__" [.ref a, .ref b] s).bind _ = _
  rw [sp_gold_eq hE ha hb]
  rfl
theorem eqo_l {a : Nat} {x : W} {w f : Rat} (ha : s[a]? = some (goldO w f)) (hx : (tyV x s).isSome = true) : eqoV (run T gl fl (n + 1)) false ["Gold"] (.ref a) x s = .ok (.bl false) s := by
  unfold eqoV
  rw [eqD_insL ha]
  have o : ownC ["Gold"] (.ref a) x s = some ("Gold" : Str) := by
    unfold ownC
    rw [insOf_at ha, hx]
    show (if (["Gold"] : List Str).contains "Gold" && (decide (insOf s x = some ("Gold" : Str)) || true) then some ("Gold" : Str) else none) = _
    rw [Bool.or_true]
    rfl
  rw [o]
  show (run T gl fl (n + 1) "Gold" "__eq__" [.ref a, x] s).bind _ = _
  rw [sp_gold_eqN hE hx]
  rfl
theorem eqo_r {a : Nat} {x : W} {w f : Rat} {t : String} (ha : s[a]? = some (goldO w f)) (hx : tyV x s = some t) (ht : t = "NoneType" ∨ t = "int" ∨ t = "str" ∨ t = "tuple") : eqoV (run T gl fl (n + 1)) false ["Gold"] x (.ref a) s = .ok (.bl false) s := by
  have hs : (tyV x s).isSome = true := by rw [hx]; rfl
  unfold eqoV
  rw [eqD_insR ha]
  have o : ownC ["Gold"] x (.ref a) s = none := by
    unfold ownC
    rw [insOf_no hs]
  have o2 : ownR ["Gold"] x (.ref a) s = some ("Gold" : Str) := by
    unfold ownR
    rw [insOf_at ha, hx]
    show (if (["Gold"] : List Str).contains "Gold" && (decide (t = "NoneType") || decide (t = "int") || decide (t = "str") || decide (t = "tuple")) then some ("Gold" : Str) else none) = _
    rcases ht with rfl | rfl | rfl | rfl <;> rfl
  rw [o]
  show (match (if false = true then none else ownR ["Gold"] x (.ref a) s) with | some c => _ | none => _) = _
  rw [if_neg (by decide), o2]
  show (run T gl fl (n + 1) "Gold" "__eq__" [.ref a, x] s).bind _ = _
  rw [sp_gold_eqN hE hs]
  rfl
omit hE
/-! ### odd values -/
def plainW : W → Bool
  | .non => true
  | .bl _ => true
  | .int _ => true
  | .str _ => true
  | _ => false
def smallW : W → Bool
  | .int i => decide (i.natAbs < 2 ^ 900)
  | _ => true
def odB : W → Bool
  | .tup l => l.all fun x => plainW x && smallW x
  | x => plainW x
theorem ty_plain {x : W} (h : plainW x = true) : (tyV x s).isSome = true := by cases x <;> first | rfl | cases h
theorem od_of {x : W} (h : odB x = true) : Od s x := by
  cases x with
  | tup l =>
    have h : (l.all fun x => plainW x && smallW x) = true := h
    have k := fun x hx => (Bool.and_eq_true_iff.mp (List.all_eq_true.mp h x hx))
    refine ⟨rfl, fun m e x hx => ?_, fun a b e => ?_⟩
    · cases e
      exact ty_plain (k x hx).1
    · cases e
      have k1 := of_decide_eq_true (k (.int a) (by simp)).2
      have k2 := of_decide_eq_true (k (.int b) (by simp)).2
      have z : 2 ^ 900 ≤ 2 ^ 1000 := Nat.pow_le_pow_right (by decide) (by decide)
      exact ⟨Nat.lt_of_lt_of_le k1 z, Nat.lt_of_lt_of_le k2 z⟩
  | ref a => cases h
  | glo a => cases h
  | ty a => cases h
  | scr a => cases h
  | _ => exact ⟨rfl, fun l e => (by cases e), fun a b e => (by cases e)⟩
theorem od_bag {x : W} {s' : Vs} {b : Nat} (h : Od s x) (f : Fr (· = b) s s') (b0 : BagOk s b) (b1 : BagOk s' b) : Od s' x := h.fr f fun i o e eo => by
  subst e
  obtain ⟨c, d, h0, _⟩ := b0
  obtain ⟨c', d', h1, _⟩ := b1
  rw [h0] at eo
  cases eo
  exact ⟨_, rfl, _, h1⟩
def odd1 : List W := [.int (-1), .int 0, .int 1, .bl true, .bl false, .non, .str "", .str "ruby", .str "Ruby", .str "a b", .str "abcdefghi", .tup [], .tup [.int 1, .int 1], .tup [.int 0, .int 1], .tup [.int 1, .int 0], .tup [.int 2, .int 4]]
def odd2 (a : Nat) : List W := [.tup [.int (-1), .int 2], .tup [.int 1, .int 2], .tup [.int 3, .int 2], .tup [.bl true, .int 1], .tup [.int 1, .bl true], .tup [.int 1, .int 1, .int 1], .ref a, .str "1/2", .int 585, .int 999, .int 1000, .int (10 ^ 30)]
theorem odd_mem {a : Nat} {x : W} (h : x ∈ odd1 ++ odd2 a) : odB x = true ∨ x = .ref a := by
  have k1 : (odd1.all odB) = true := by decide +kernel
  rcases List.mem_append.mp h with h | h
  · exact .inl (List.all_eq_true.mp k1 x h)
  · by_cases e : x = .ref a
    · exact .inr e
    · have k2 : ∀ a, ((odd2 a).take 6 ++ (odd2 a).drop 7).all odB = true := fun a => by rfl
      refine .inl (List.all_eq_true.mp (k2 a) x ?_)
      simp only [odd2, List.mem_cons, List.not_mem_nil, or_false, e, false_or] at h
      simp only [odd2, List.take, List.drop, List.mem_append, List.mem_cons, List.not_mem_nil, or_false]
      rcases h with h | h | h | h | h | h | h | h | h | h | h <;> simp [h]
theorem pow30 (s : Vs) : binV .pow (.int 10) (.int 30) s = .ok (.int (10 ^ 30)) s := binV_pow (by decide) s
theorem draw_in (F : DrawT T) {a b : Nat} {l : List W} (h : BagOk s b) (ha : s[a]? = some (.lst l)) (hab : a ≠ b) (hl : 0 < l.length) (hl2 : l.length < 1000) : ∃ r s', run T gl fl (n + 1) Str.empty "_law_take" [.ref b, .int l.length] s = .ok (.int r) s' ∧ (∃ x, x ∈ l ∧ idxV (.ref a) (.int r) s' = .ok x s') ∧ BagOk s' b ∧ Fr (· = b) s s' := by
  obtain ⟨r, s', e, r0, r1, hb, f, _⟩ := sp_take (gl := gl) (fl := fl) (n := n) F h (show (0 : Int) < l.length by omega) (by omega)
  have hr : r.toNat < l.length := by omega
  exact ⟨r, s', e, ⟨l[r.toNat], List.getElem_mem hr, idx_ref (f.get ha hab) r0 (List.getElem?_eq_getElem hr)⟩, hb, f⟩
theorem addL {a b : Nat} {l m : List W} (ha : s[a]? = some (.lst l)) (hb : s[b]? = some (.lst m)) (hl : l.length + m.length ≤ 2 ^ 20) : binV .add (.ref a) (.ref b) s = newL (l ++ m) s := by
  show (match s[a]?, s[b]? with | some (.lst l), some (.lst m) => if fits (l.length + m.length) = true then newL (l ++ m) s else .err | _, _ => .err) = _
  rw [ha, hb]
  show (if fits (l.length + m.length) = true then newL (l ++ m) s else .err) = _
  rw [if_pos (fitsLe hl)]
theorem sp_odd (F : DrawT T) (hT : T Str.empty "_law_odd" = some (.fn d__law_odd)) {b : Nat} (h : BagOk s b) : ∃ x s', run T gl fl (n + 2) Str.empty "_law_odd" [.ref b] s = .ok x s' ∧ Od s' x ∧ BagOk s' b ∧ Fr (· = b) s s' := by
  obtain ⟨s1, n1, g1, f1, l1⟩ := newL_x odd1 s
  obtain ⟨s2, n2, g2, f2, l2⟩ := newL_x [.int 1, .int 2] s1
  obtain ⟨s3, n3, g3, f3, l3⟩ := newL_x (odd2 s1.length) s2
  have g13 : s3[s.length]? = some (.lst odd1) := f3.get (f2.get g1 id) id
  obtain ⟨s4, n4, g4, f4, l4⟩ := newL_x (odd1 ++ odd2 s1.length) s3
  have f04 := ((f1.trans f2).trans f3).trans f4
  have b4 := h.fr f04 id
  have g24 : s4[s1.length]? = some (.lst [.int 1, .int 2]) := f4.get (f3.get g2 id) id
  have bl := h.lt
  have ne4 : s3.length ≠ b := by omega
  obtain ⟨r, s5, e5, ⟨x, hx, i5⟩, b5, f5⟩ := draw_in (gl := gl) (fl := fl) (n := n) F b4 g4 ne4 (by show 0 < 28; omega) (by show 28 < 1000; omega)
  have e5' : run T gl fl (n + 1) Str.empty "_law_take" [.ref b, .int 28] s4 = .ok (.int r) s5 := e5
  have ad : binV .add (.ref s.length) (.ref s2.length) s3 = .ok (.ref s3.length) s4 := (addL g13 g3 (by show 16 + 12 ≤ 2 ^ 20; decide)).trans n4
  refine ⟨x, s5, ?_, ?_, b5, (f04.mono fun _ z => z.elim).trans f5⟩
  · rw [run_def hT rfl]
    show finO (denB _ (.cons _ (.cons _ (.cons _ .nil))) [some (.ref b), none] s) = _
    have h16 : fits (0 + 1 + 1 + 1 + 1 + 1 + 1 + 1 + 1 + 1 + 1 + 1 + 1 + 1 + 1 + 1 + 1) = true := by decide +kernel
    have h12 : fits (0 + 1 + 1 + 1 + 1 + 1 + 1 + 1 + 1 + 1 + 1 + 1 + 1) = true := by decide +kernel
    have n1' : newL [.int (-1), .int 0, .int 1, .bl true, .bl false, .non, .str "", .str "ruby", .str "Ruby", .str "a b", .str "abcdefghi", .tup [], .tup [.int 1, .int 1], .tup [.int 0, .int 1], .tup [.int 1, .int 0], .tup [.int 2, .int 4]] s = .ok (.ref s.length) s1 := n1
    have n3' : newL [.tup [.int (-1), .int 2], .tup [.int 1, .int 2], .tup [.int 3, .int 2], .tup [.bl true, .int 1], .tup [.int 1, .bl true], .tup [.int 1, .int 1, .int 1], .ref s1.length, .str "1/2", .int 585, .int 999, .int 1000, .int (10 ^ 30)] s2 = .ok (.ref s2.length) s3 := n3
    simp only [E_var, E_con, E_glo, E_bin, E_neg, E_not, E_and, E_or, E_ite, E_cmp, E_ceq, E_chn, E_tup, E_lst, E_idx, E_slc, E_fld, E_call, E_meth, E_omt, E_bi, E_isi, E_iso, E_lc, L_nil, L_cons, I_val, I_rng1, rngW_int, I_zip, I_enum, T_eq, C_nil, C_asg, C_asgT, C_par, C_exp, C_ret, C_retN, C_pass, C_ifs, C_sfld, C_ssub, C_fors, bd_ok, fx_ok, sq_nx, sq_rt, oF_some, oO_some, finO_rt, finO_nx, truth_bl, cmpV_lt, cmpV_le, cmpV_gt, cmpV_ge, binV_add, binV_sub, idx2_0, idx2_1, idx_fr0, idx_fr1, biV_abs, getO_0, getO_s, set_0, set_s, reduceIte, Bool.not_true, Bool.not_false, Bool.false_eq_true, List.length_cons, List.length_nil, fits0, fits1, fits2, fits3, fits4, fits5, fits6, fits7, fits8, E_fst, J_nil, J_cons, E_fmt, E_ostr, C_rse, C_tryx, fx_exc, bd_exc, sq_exc, finO_exc, trH_nx, trH_rt, trH_exc, oX_some, strO_str, h16, h12, n1', n2, n3', pow30, ad, e5', i5]
  · rcases odd_mem hx with z | z
    · exact od_of z
    · subst z
      have g25 : s5[s1.length]? = some (.lst [.int 1, .int 2]) := f5.get g24 (by omega)
      refine ⟨?_, fun l e => (by cases e), fun a b e => (by cases e)⟩
      show (match s5[s1.length]? with | some (.lst _) => some "list" | some (.dct _) => some "dict" | some (.dtt _) => some "dict" | _ => none).isSome = true
      rw [g25]
      rfl
end
end Vm
set_option Elab.async false
set_option linter.all false
set_option maxRecDepth 100000
set_option maxHeartbeats 2000000
/-! Products; pure gold. -/
namespace Vm
open PySem
section
variable {T : Str → Str → Option Te} {gl : Str → Option W} {fl : Str → List Str} {n : Nat} {s : Vs}
theorem iteBl (b c : Bool) : (if b = true then Out.ok (W.bl c) s else Out.ok (W.bl b) s) = .ok (.bl (b && c)) s := by cases b <;> rfl
theorem cmpV_neB (b c : Bool) : cmpV .ne (.bl b) (.bl c) s = .ok (.bl (!(b == c))) s := cmp_ne (eqD_bl _ _)
theorem sp_timesX (F : FracX T) (hT : T Str.empty "times" = some (.fn d_times)) {k l : Nat} {p q : Rat} (hp : Sm k p) (hq : Sm l q) (h : k + l < 9000) : run T gl fl (n + 3) Str.empty "times" [fr p, fr q] s = .ok (fr (p * q)) s := by
  obtain ⟨h1, h2, h3, h4, _⟩ := mf_num hp hq h
  refine run_rt hT rfl (B_ret ?_)
  show den _ _ [some (fr p), some (fr q)] s = _
  simp only [den, denL, test, bind_ok, fin_ok, truth_bl, cmpV_lt, cmpV_le, cmpV_gt, cmpV_ge, binV_add, binV_sub, idx2_0, idx2_1, biV_abs, getO_0, getO_s, set_0, set_s, sif_t, sif_f, if_true, if_false, List.length_cons, List.length_nil, denL, binV_mul h4, binV_mul h3, idx_fr0, idx_fr1]
  rw [mul_divInt, Int.natCast_mul]
  exact sp_fractionX F (dd_ne p q) (dd_lt hp hq) h
theorem sp_law_mulX (L : LawX T) (hT : T Str.empty "_law_mul" = some (.fn d__law_mul)) {k l : Nat} {p q : Rat} (hp : Sm k p) (hq : Sm l q) (h : k + l < 9000) : run T gl fl (n + 2) Str.empty "_law_mul" [fr p, fr q] s = .ok (fr (p * q)) s := by
  obtain ⟨h1, h2, h3, h4, _⟩ := mf_num hp hq h
  refine run_rt hT rfl (B_ret ?_)
  show den _ _ [some (fr p), some (fr q)] s = _
  simp only [den, denL, test, bind_ok, fin_ok, truth_bl, cmpV_lt, cmpV_le, cmpV_gt, cmpV_ge, binV_add, binV_sub, idx2_0, idx2_1, biV_abs, getO_0, getO_s, set_0, set_s, sif_t, sif_f, if_true, if_false, List.length_cons, List.length_nil, denL, binV_mul h4, binV_mul h3, idx_fr0, idx_fr1]
  rw [mul_divInt, Int.natCast_mul]
  exact sp_law_fracX L (dd_pos p q) (dd_lt hp hq) h
theorem sp_pureX (F : FracX T) (hT : T Str.empty "times" = some (.fn d_times)) (hP : T "Gold" "pure" = some (.fn d_Gold_pure)) {k l a : Nat} {w f : Rat} (ha : s[a]? = some (goldO w f)) (hw : Sm k w) (hf : Sm l f) (h : k + l < 9000) : run T gl fl (n + 4) "Gold" "pure" [.ref a] s = .ok (fr (w * f)) s := by
  refine run_rt hP rfl (B_ret ?_)
  show den _ _ [some (.ref a)] s = _
  simp only [den, denL, test, bind_ok, fin_ok, truth_bl, cmpV_lt, cmpV_le, cmpV_gt, cmpV_ge, binV_add, binV_sub, idx2_0, idx2_1, biV_abs, getO_0, getO_s, set_0, set_s, sif_t, sif_f, if_true, if_false, List.length_cons, List.length_nil, denL, fld_weight ha, fld_fineness ha]
  exact sp_timesX F hT hw hf h
end
end Vm
set_option Elab.async false
set_option linter.all false
set_option maxRecDepth 100000
set_option maxHeartbeats 2000000
/-! Sums of fractions; stocks of golds; what melted tells. -/
namespace Vm
open PySem
def d_plus : Fd := ⟨2, 2, [], (.cons (.ret (.call "fraction" (.cons (.bin .add (.bin .mul (.idx (.var 0) (.con (.int 0))) (.idx (.var 1) (.con (.int 1)))) (.bin .mul (.idx (.var 1) (.con (.int 0))) (.idx (.var 0) (.con (.int 1))))) (.cons (.bin .mul (.idx (.var 0) (.con (.int 1))) (.idx (.var 1) (.con (.int 1)))) .nil)))) .nil)⟩
def d_total : Fd := ⟨1, 3, [], (.cons (.asg 1 (.tup (.cons (.con (.int 0)) (.cons (.con (.int 1)) .nil)))) (.cons (.fors (.nm 2) (.val (.var 0)) (.cons (.asg 1 (.call "plus" (.cons (.var 1) (.cons (.var 2) .nil)))) .nil)) (.cons (.ret (.var 1)) .nil)))⟩
def d_melted : Fd := ⟨2, 5, [.non], (.cons (.asg 2 (.call "total" (.cons (.lc (.fld (.var 4) "weight") (.nm 4) (.val (.var 0)) (.con (.bl true))) .nil))) (.cons (.asg 3 (.call "total" (.cons (.lc (.omt "Gold" "pure" (.var 4) .nil) (.nm 4) (.val (.var 0)) (.con (.bl true))) .nil))) (.cons (.ifs (.cmp .is_ (.var 1) (.con (.non))) (.cons (.asg 1 (.var 2)) .nil) .nil) (.cons (.ifs (.call "less" (.cons (.var 2) (.cons (.var 1) .nil))) (.cons (.rse "NoWeight" .nil) .nil) .nil) (.cons (.ret (.call "Gold" (.cons (.var 1) (.cons (.call "over" (.cons (.var 3) (.cons (.var 2) .nil))) .nil)))) .nil)))))⟩
def d__law_div : Fd := ⟨2, 2, [], (.cons (.ret (.call "_law_frac" (.cons (.bin .mul (.idx (.var 0) (.con (.int 0))) (.idx (.var 1) (.con (.int 1)))) (.cons (.bin .mul (.idx (.var 0) (.con (.int 1))) (.idx (.var 1) (.con (.int 0)))) .nil)))) .nil)⟩
def k02tot : IB := (.cons (.asg 1 (.call "plus" (.cons (.var 1) (.cons (.var 2) .nil)))) .nil)
def sumQ (l : List Rat) : Rat := l.foldl (· + ·) 0
theorem sumQ_snoc (l : List Rat) (q : Rat) : sumQ (l ++ [q]) = sumQ l + q := by
  unfold sumQ
  rw [List.foldl_append]
  rfl
theorem foldl_add (l : List Rat) (a : Rat) : l.foldl (· + ·) a = a + l.foldl (· + ·) 0 := by
  induction l generalizing a with
  | nil => show a = a + 0; rw [Rat.add_zero]
  | cons x l ih =>
    show l.foldl (· + ·) (a + x) = a + l.foldl (· + ·) (0 + x)
    rw [ih (a + x), ih (0 + x), Rat.zero_add, Rat.add_assoc]
theorem sumQ_cons (q : Rat) (l : List Rat) : sumQ (q :: l) = q + sumQ l := by
  show l.foldl (· + ·) (0 + q) = _
  rw [foldl_add, Rat.zero_add]
  rfl
theorem sumQ_append (l m : List Rat) : sumQ (l ++ m) = sumQ l + sumQ m := by
  induction l with
  | nil => show sumQ m = 0 + sumQ m; rw [Rat.zero_add]
  | cons x l ih => rw [List.cons_append, sumQ_cons, sumQ_cons, ih, Rat.add_assoc]
theorem sumQ_reverse (l : List Rat) : sumQ l.reverse = sumQ l := by
  induction l with
  | nil => rfl
  | cons x l ih => rw [List.reverse_cons, sumQ_snoc, ih, sumQ_cons, Rat.add_comm]
theorem sumQ_nonneg : ∀ {l : List Rat}, (∀ q ∈ l, 0 ≤ q) → 0 ≤ sumQ l
  | [], _ => Rat.le_refl
  | x :: l, h => by
    rw [sumQ_cons]
    exact Rat.add_nonneg (h x (List.mem_cons_self ..)) (sumQ_nonneg fun q hq => h q (List.mem_cons_of_mem _ hq))
theorem sm_sum {k : Nat} : ∀ {l : List Rat}, (∀ q ∈ l, Sm k q) → Sm (1 + (k + 1) * l.length) (sumQ l)
  | [], _ => sm_zero
  | x :: l, h => by
    rw [sumQ_cons]
    have h1 := sm_sum fun q hq => h q (List.mem_cons_of_mem _ hq)
    have h2 := sm_add (h x (List.mem_cons_self ..)) h1
    refine h2.mono ?_
    rw [List.length_cons, Nat.mul_succ]
    omega
section
variable {T : Str → Str → Option Te} {gl : Str → Option W} {fl : Str → List Str} {n : Nat} {s : Vs}
theorem sp_plusX (F : FracX T) (hT : T Str.empty "plus" = some (.fn d_plus)) {k l : Nat} {p q : Rat} (hp : Sm k p) (hq : Sm l q) (h : k + l < 9000) : run T gl fl (n + 3) Str.empty "plus" [fr p, fr q] s = .ok (fr (p + q)) s := by
  obtain ⟨h1, h2, h3, _, _⟩ := mf_num hp hq h
  refine run_rt hT rfl (B_ret ?_)
  show den _ _ [some (fr p), some (fr q)] s = _
  simp only [den, denL, test, bind_ok, fin_ok, truth_bl, cmpV_lt, cmpV_le, cmpV_gt, cmpV_ge, binV_add, binV_sub, idx2_0, idx2_1, biV_abs, getO_0, getO_s, set_0, set_s, sif_t, sif_f, if_true, if_false, List.length_cons, List.length_nil, denL, binV_mul h1, binV_mul h2, binV_mul h3, idx_fr0, idx_fr1]
  rw [add_divInt, Int.natCast_mul]
  exact sp_fractionX F (dd_ne p q) (dd_lt hp hq) h
theorem sp_overX (F : FracX T) (hT : T Str.empty "over" = some (.fn d_over)) {k l : Nat} {p q : Rat} (hp : Sm k p) (hq : Sm l q) (h : k + l < 9000) (h0 : q ≠ 0) : run T gl fl (n + 3) Str.empty "over" [fr p, fr q] s = .ok (fr (p / q)) s := by
  obtain ⟨h1, h2, h3, h4, h5⟩ := mf_num hp hq h
  have hn : q.num ≠ 0 := fun z => h0 (Rat.num_eq_zero.mp z)
  refine run_rt hT rfl (B_ret ?_)
  show den _ _ [some (fr p), some (fr q)] s = _
  simp only [den, denL, test, bind_ok, fin_ok, truth_bl, cmpV_lt, cmpV_le, cmpV_gt, cmpV_ge, binV_add, binV_sub, idx2_0, idx2_1, biV_abs, getO_0, getO_s, set_0, set_s, sif_t, sif_f, if_true, if_false, List.length_cons, List.length_nil, denL, binV_mul h1, binV_mul h5, idx_fr0, idx_fr1]
  rw [div_divInt]
  exact sp_fractionX F (Int.mul_ne_zero (den_ne p) hn) (by
    rw [Int.natAbs_mul, Int.natAbs_natCast]
    exact pow_add_lt hp.2 hq.1) h
theorem sp_law_addX (L : LawX T) (hT : T Str.empty "_law_add" = some (.fn d__law_add)) {k l : Nat} {p q : Rat} (hp : Sm k p) (hq : Sm l q) (h : k + l < 9000) : run T gl fl (n + 2) Str.empty "_law_add" [fr p, fr q] s = .ok (fr (p + q)) s := by
  obtain ⟨h1, h2, h3, _, _⟩ := mf_num hp hq h
  refine run_rt hT rfl (B_ret ?_)
  show den _ _ [some (fr p), some (fr q)] s = _
  simp only [den, denL, test, bind_ok, fin_ok, truth_bl, cmpV_lt, cmpV_le, cmpV_gt, cmpV_ge, binV_add, binV_sub, idx2_0, idx2_1, biV_abs, getO_0, getO_s, set_0, set_s, sif_t, sif_f, if_true, if_false, List.length_cons, List.length_nil, denL, binV_mul h1, binV_mul h2, binV_mul h3, idx_fr0, idx_fr1]
  rw [add_divInt, Int.natCast_mul]
  exact sp_law_fracX L (dd_pos p q) (dd_lt hp hq) h
theorem sp_law_divX (L : LawX T) (hT : T Str.empty "_law_div" = some (.fn d__law_div)) {k l : Nat} {p q : Rat} (hp : Sm k p) (hq : Sm l q) (h : k + l < 9000) (h0 : 0 < q.num) : run T gl fl (n + 2) Str.empty "_law_div" [fr p, fr q] s = .ok (fr (p / q)) s := by
  obtain ⟨h1, h2, h3, h4, h5⟩ := mf_num hp hq h
  refine run_rt hT rfl (B_ret ?_)
  show den _ _ [some (fr p), some (fr q)] s = _
  simp only [den, denL, test, bind_ok, fin_ok, truth_bl, cmpV_lt, cmpV_le, cmpV_gt, cmpV_ge, binV_add, binV_sub, idx2_0, idx2_1, biV_abs, getO_0, getO_s, set_0, set_s, sif_t, sif_f, if_true, if_false, List.length_cons, List.length_nil, denL, binV_mul h1, binV_mul h5, idx_fr0, idx_fr1]
  rw [div_divInt]
  exact sp_law_fracX L (Int.mul_pos (den_pos' p) h0) (by
    rw [Int.natAbs_mul, Int.natAbs_natCast]
    exact pow_add_lt hp.2 hq.1) h
/-- total -/
theorem sp_total (F : FracX T) (hP : T Str.empty "plus" = some (.fn d_plus)) (hT : T Str.empty "total" = some (.fn d_total)) {a k : Nat} {qs : List Rat} (ha : s[a]? = some (.lst (qs.map fr))) (hq : ∀ q ∈ qs, Sm k q) (hk : k + (1 + (k + 1) * qs.length) < 9000) :
    run T gl fl (n + 4) Str.empty "total" [.ref a] s = .ok (fr (sumQ qs)) s := by
  let D : Wd := ⟨run T gl fl (n + 3), gl, fl⟩
  obtain ⟨r', s', e, es, y2, er⟩ := for_ixn (ok := Src.ok ⟨qs.map fr, [(a, qs.map fr)]⟩) (f := forF D (.nm 2) k02tot) (items := qs.map fr) (s := s) (r := [some (.ref a), some (fr 0), none])
    (fun j r u => u = s ∧ ∃ y2, r = [some (.ref a), some (fr (sumQ (qs.take j))), y2])
    (fun _ _ u ⟨eu, _⟩ => by subst eu; exact ok_at ha)
    (fun j x r u hx ⟨eu, y2, er⟩ => by
      subst eu er
      rw [List.getElem?_map] at hx
      obtain ⟨q, eq, rfl⟩ := Option.map_eq_some_iff.mp hx
      have sq := hq q (List.mem_of_getElem? eq)
      have sp : Sm (1 + (k + 1) * (qs.take j).length) (sumQ (qs.take j)) := sm_sum fun p hp => hq p (List.mem_of_mem_take hp)
      have lt : (1 + (k + 1) * (qs.take j).length) + k < 9000 := by
        have : (qs.take j).length ≤ qs.length := by rw [List.length_take]; omega
        have := Nat.mul_le_mul_left (k + 1) this
        omega
      refine ⟨_, u, ?_, rfl, some (fr q), rfl⟩
      rw [forF_eq, set_nm, oF_some]
      simp only [k02tot, E_var, E_con, E_glo, E_bin, E_neg, E_not, E_and, E_or, E_ite, E_cmp, E_ceq, E_chn, E_tup, E_lst, E_idx, E_slc, E_fld, E_call, E_meth, E_omt, E_bi, E_isi, E_iso, E_lc, L_nil, L_cons, I_val, I_rng1, rngW_int, I_zip, I_enum, T_eq, C_nil, C_asg, C_asgT, C_par, C_exp, C_ret, C_retN, C_pass, C_ifs, C_sfld, C_ssub, C_fors, bd_ok, fx_ok, sq_nx, sq_rt, oF_some, oO_some, finO_rt, finO_nx, truth_bl, cmpV_lt, cmpV_le, cmpV_gt, cmpV_ge, binV_add, binV_sub, idx2_0, idx2_1, idx_fr0, idx_fr1, biV_abs, getO_0, getO_s, set_0, set_s, reduceIte, Bool.not_true, Bool.not_false, Bool.false_eq_true, List.length_cons, List.length_nil, fits0, fits1, fits2, fits3, fits4, fits5, fits6, fits7, fits8, newL_eq, E_fst, J_nil, J_cons, E_fmt, E_ostr, C_rse, C_tryx, fx_exc, bd_exc, sq_exc, finO_exc, trH_nx, trH_rt, trH_exc, oX_some, strO_str, D, sp_plusX (n := n) F hP sp sq lt]
      rw [List.take_add_one, eq, Option.toList_some, sumQ_snoc])
    ⟨rfl, none, rfl⟩
  rw [List.length_map, List.take_length] at er
  rw [run_def hT rfl]
  show finO (denB D (.cons _ (.cons (.fors (.nm 2) _ k02tot) (.cons _ .nil))) [some (.ref a), none, none] s) = _
  have z : W.tup [.int 0, .int 1] = fr 0 := rfl
  simp -implicitDefEqProofs only [E_var, E_con, E_glo, E_bin, E_neg, E_not, E_and, E_or, E_ite, E_cmp, E_ceq, E_chn, E_tup, E_lst, E_idx, E_slc, E_fld, E_call, E_meth, E_omt, E_bi, E_isi, E_iso, E_lc, L_nil, L_cons, I_val, I_rng1, rngW_int, I_zip, I_enum, T_eq, C_nil, C_asg, C_asgT, C_par, C_exp, C_ret, C_retN, C_pass, C_ifs, C_sfld, C_ssub, C_fors, bd_ok, fx_ok, sq_nx, sq_rt, oF_some, oO_some, finO_rt, finO_nx, truth_bl, cmpV_lt, cmpV_le, cmpV_gt, cmpV_ge, binV_add, binV_sub, idx2_0, idx2_1, idx_fr0, idx_fr1, biV_abs, getO_0, getO_s, set_0, set_s, reduceIte, Bool.not_true, Bool.not_false, Bool.false_eq_true, List.length_cons, List.length_nil, fits0, fits1, fits2, fits3, fits4, fits5, fits6, fits7, fits8, E_fst, J_nil, J_cons, E_fmt, E_ostr, C_rse, C_tryx, fx_exc, bd_exc, sq_exc, finO_exc, trH_nx, trH_rt, trH_exc, oX_some, strO_str, z, srcAt ha]
  rw [e, sq_nx, er]
  simp -implicitDefEqProofs only [E_var, E_con, E_glo, E_bin, E_neg, E_not, E_and, E_or, E_ite, E_cmp, E_ceq, E_chn, E_tup, E_lst, E_idx, E_slc, E_fld, E_call, E_meth, E_omt, E_bi, E_isi, E_iso, E_lc, L_nil, L_cons, I_val, I_rng1, rngW_int, I_zip, I_enum, T_eq, C_nil, C_asg, C_asgT, C_par, C_exp, C_ret, C_retN, C_pass, C_ifs, C_sfld, C_ssub, C_fors, bd_ok, fx_ok, sq_nx, sq_rt, oF_some, oO_some, finO_rt, finO_nx, truth_bl, cmpV_lt, cmpV_le, cmpV_gt, cmpV_ge, binV_add, binV_sub, idx2_0, idx2_1, idx_fr0, idx_fr1, biV_abs, getO_0, getO_s, set_0, set_s, reduceIte, Bool.not_true, Bool.not_false, Bool.false_eq_true, List.length_cons, List.length_nil, fits0, fits1, fits2, fits3, fits4, fits5, fits6, fits7, fits8, E_fst, J_nil, J_cons, E_fmt, E_ostr, C_rse, C_tryx, fx_exc, bd_exc, sq_exc, finO_exc, trH_nx, trH_rt, trH_exc, oX_some, strO_str]
  rw [es]
/-! ### stocks of golds -/
def GsAt (s : Vs) (a : Nat) (rs : List Nat) (gs : List (Rat × Rat)) : Prop := s[a]? = some (.lst (rs.map W.ref)) ∧ rs.length = gs.length ∧ ∀ (i : Nat) (w f : Rat), gs[i]? = some (w, f) → ∃ r : Nat, rs[i]? = some r ∧ s[r]? = some (goldO w f)
theorem GsAt.fr0 {s s' : Vs} {a : Nat} {rs : List Nat} {gs : List (Rat × Rat)} (h : GsAt s a rs gs) (f : Fr (fun _ => False) s s') : GsAt s' a rs gs := ⟨f.get h.1 id, h.2.1, fun i w g e => let ⟨r, h1, h2⟩ := h.2.2 i w g e; ⟨r, h1, f.get h2 id⟩⟩
theorem gs_map {D : Wd} {e : IE} {r : Rho} {i a : Nat} {rs : List Nat} {gs : List (Rat × Rat)} (φ : Rat × Rat → Rat) (h : GsAt s a rs gs) (he : ∀ (q : Nat) (w f : Rat), (w, f) ∈ gs → s[q]? = some (goldO w f) → den D e (r.set i (some (.ref q))) s = .ok (fr (φ (w, f))) s) :
    lcL (Src.ok ⟨rs.map W.ref, [(a, rs.map W.ref)]⟩) (lcF D e (.nm i) (.con (.bl true)) r) (rs.map W.ref) s = .ok ((gs.map φ).map fr) s := by
  obtain ⟨ys, s', e1, es, ey⟩ := lc_ix (ok := Src.ok ⟨rs.map W.ref, [(a, rs.map W.ref)]⟩) (f := lcF D e (.nm i) (.con (.bl true)) r) (items := rs.map W.ref) (s := s)
    (fun k acc u => u = s ∧ acc = ((gs.take k).map φ).map fr)
    (fun _ _ u ⟨eu, _⟩ => by subst eu; exact ok_at h.1)
    (fun k x acc u hx ⟨eu, ea⟩ => by
      subst eu ea
      rw [List.getElem?_map] at hx
      obtain ⟨q, eq, rfl⟩ := Option.map_eq_some_iff.mp hx
      have kl : k < gs.length := by rw [← h.2.1]; exact (List.getElem?_eq_some_iff.mp eq).1
      obtain ⟨q', h1, h2⟩ := h.2.2 k gs[k].1 gs[k].2 (List.getElem?_eq_getElem kl)
      rw [eq] at h1
      cases h1
      have hv := he q gs[k].1 gs[k].2 (List.getElem_mem kl) h2
      refine ⟨some (fr (φ gs[k])), u, ?_, rfl, ?_⟩
      · rw [lcF_eq, set_nm, oO_some]
        simp only [E_var, E_con, E_glo, E_bin, E_neg, E_not, E_and, E_or, E_ite, E_cmp, E_ceq, E_chn, E_tup, E_lst, E_idx, E_slc, E_fld, E_call, E_meth, E_omt, E_bi, E_isi, E_iso, E_lc, L_nil, L_cons, I_val, I_rng1, rngW_int, I_zip, I_enum, T_eq, C_nil, C_asg, C_asgT, C_par, C_exp, C_ret, C_retN, C_pass, C_ifs, C_sfld, C_ssub, C_fors, bd_ok, fx_ok, sq_nx, sq_rt, oF_some, oO_some, finO_rt, finO_nx, truth_bl, cmpV_lt, cmpV_le, cmpV_gt, cmpV_ge, binV_add, binV_sub, idx2_0, idx2_1, idx_fr0, idx_fr1, biV_abs, getO_0, getO_s, set_0, set_s, reduceIte, Bool.not_true, Bool.not_false, Bool.false_eq_true, List.length_cons, List.length_nil, fits0, fits1, fits2, fits3, fits4, fits5, fits6, fits7, fits8, newL_eq, E_fst, J_nil, J_cons, E_fmt, E_ostr, C_rse, C_tryx, fx_exc, bd_exc, sq_exc, finO_exc, trH_nx, trH_rt, trH_exc, oX_some, strO_str, hv]
      · rw [List.take_add_one, List.getElem?_eq_getElem kl, Option.toList_some, List.map_append, List.map_append]
        rfl)
    ⟨rfl, rfl⟩
  rw [List.length_map, h.2.1, List.take_length] at ey
  subst ey
  rw [es] at e1
  exact e1
theorem run_args {c f : Str} {d : Fd} {ws vs : List W} (h : T c f = some (.fn d)) (e : argsOf d ws = argsOf d vs) : run T gl fl (n + 1) c f ws s = run T gl fl (n + 1) c f vs s := by
  rw [run, run, h]
  show (match argsOf d ws with | some vs => runB ⟨run T gl fl n, gl, fl⟩ d vs s | none => .err) = (match argsOf d vs with | some vs => runB ⟨run T gl fl n, gl, fl⟩ d vs s | none => .err)
  rw [e]
def allW (gs : List (Rat × Rat)) : Rat := sumQ (gs.map (·.1))
def allP (gs : List (Rat × Rat)) : Rat := sumQ (gs.map fun p => p.1 * p.2)
structure MeltT (T : Str → Str → Option Te) (gl : Str → Option W) (fl : Str → List Str) : Prop extends GoldX T gl fl where
  plus : T Str.empty "plus" = some (.fn d_plus)
  times : T Str.empty "times" = some (.fn d_times)
  over : T Str.empty "over" = some (.fn d_over)
  total : T Str.empty "total" = some (.fn d_total)
  pure : T "Gold" "pure" = some (.fn d_Gold_pure)
  melted : T Str.empty "melted" = some (.fn d_melted)
theorem allW_pos : ∀ {gs : List (Rat × Rat)}, gs ≠ [] → (∀ p ∈ gs, 0 < p.1) → 0 < allW gs
  | [], h, _ => absurd rfl h
  | p :: gs, _, hq => by
    unfold allW
    rw [List.map_cons, sumQ_cons]
    have h1 := hq p (List.mem_cons_self ..)
    have h2 : 0 ≤ sumQ (gs.map (·.1)) := sumQ_nonneg fun q hm => by
      obtain ⟨z, hz, rfl⟩ := List.mem_map.mp hm
      exact Rat.le_of_lt (hq z (List.mem_cons_of_mem _ hz))
    grind
theorem allP_nonneg {gs : List (Rat × Rat)} (hq : ∀ p ∈ gs, 0 < p.1 ∧ 0 ≤ p.2 ∧ p.2 ≤ 1) : 0 ≤ allP gs := sumQ_nonneg fun q hm => by
  obtain ⟨z, hz, rfl⟩ := List.mem_map.mp hm
  exact Rat.mul_nonneg (Rat.le_of_lt (hq z hz).1) (hq z hz).2.1
theorem allP_le : ∀ {gs : List (Rat × Rat)}, (∀ p ∈ gs, 0 < p.1 ∧ 0 ≤ p.2 ∧ p.2 ≤ 1) → allP gs ≤ allW gs
  | [], _ => Rat.le_refl
  | p :: gs, hq => by
    unfold allP allW
    rw [List.map_cons, List.map_cons, sumQ_cons, sumQ_cons]
    have h1 := hq p (List.mem_cons_self ..)
    have h2 := allP_le fun q hm => hq q (List.mem_cons_of_mem _ hm)
    have h3 := Rat.mul_le_mul_of_nonneg_left h1.2.2 (Rat.le_of_lt h1.1)
    rw [Rat.mul_one] at h3
    have h2' : sumQ (gs.map fun p => p.1 * p.2) ≤ sumQ (gs.map (·.1)) := h2
    grind
theorem div_range {p w : Rat} (hw : 0 < w) (h0 : 0 ≤ p) (h1 : p ≤ w) : 0 ≤ p / w ∧ p / w ≤ 1 := by
  have i : 0 < w⁻¹ := Rat.inv_pos.mpr hw
  rw [Rat.div_def]
  refine ⟨Rat.mul_nonneg h0 (Rat.le_of_lt i), ?_⟩
  have := Rat.mul_le_mul_of_nonneg_right h1 (Rat.le_of_lt i)
  rw [Rat.mul_inv_cancel _ (Rat.ne_of_gt hw)] at this
  exact this
def noWeight : Exn := ⟨"NoWeight", []⟩
/-- what melted tells -/
theorem sp_melted (M : MeltT T gl fl) {a k l : Nat} {rs : List Nat} {gs : List (Rat × Rat)} (h : GsAt s a rs gs) (hq : ∀ p ∈ gs, 0 < p.1 ∧ 0 ≤ p.2 ∧ p.2 ≤ 1) (hs : ∀ p ∈ gs, Sm k p.1 ∧ Sm l p.2) (hne : gs ≠ []) (hk : 2 * (1 + (k + l + 1) * gs.length) < 3000) {x : W} {V : Rat} {m : Nat} (hx : x = .non ∧ V = allW gs ∨ x = fr V) (hV : 0 < V) (sV : Sm m V) (hm : m < 3000) :
    ∃ s2, Fr (fun _ => False) s s2 ∧ run T gl fl (n + 7) Str.empty "melted" [.ref a, x] s = if allW gs < V then .exc noWeight s2 else .ok (.ref s2.length) (s2 ++ [goldO V (allP gs / allW gs)]) := by
  let D : Wd := ⟨run T gl fl (n + 6), gl, fl⟩
  have kl : (1 + (k + 1) * gs.length) ≤ (1 + (k + l + 1) * gs.length) := Nat.add_le_add_left (Nat.mul_le_mul_right _ (by omega)) 1
  have kk : k ≤ (k + l + 1) * gs.length := by
    have : 1 ≤ gs.length := by
      cases gs with
      | nil => exact absurd rfl hne
      | cons a b => simp
    have := Nat.mul_le_mul_left (k + l + 1) this
    omega
  have kkl : k + l ≤ (k + l + 1) * gs.length := by
    have : 1 ≤ gs.length := by
      cases gs with
      | nil => exact absurd rfl hne
      | cons a b => simp
    have := Nat.mul_le_mul_left (k + l + 1) this
    omega
  have pw := allW_pos hne fun p hp => (hq p hp).1
  have sW : Sm (1 + (k + 1) * gs.length) (allW gs) := by
    have := sm_sum (l := gs.map (·.1)) (k := k) fun q hm => by
      obtain ⟨z, hz, rfl⟩ := List.mem_map.mp hm
      exact (hs z hz).1
    rw [List.length_map] at this
    exact this
  have sP : Sm (1 + (k + l + 1) * gs.length) (allP gs) := by
    have := sm_sum (l := gs.map fun p => p.1 * p.2) (k := k + l) fun q hm => by
      obtain ⟨z, hz, rfl⟩ := List.mem_map.mp hm
      exact sm_mul (hs z hz).1 (hs z hz).2
    rw [List.length_map] at this
    exact this
  have fb : fits (rs.map W.ref).length = true := by
    rw [List.length_map, h.2.1]
    refine fitsLe ?_
    have := Nat.mul_le_mul_right gs.length (show 1 ≤ k + l + 1 by omega)
    omega
  -- the lists
  have m1 := gs_map (D := D) (e := .fld (.var 4) "weight") (r := [some (.ref a), some x, none, none, none]) (i := 4) (·.1) h (fun q w f _ hg => by simp only [E_var, E_con, E_glo, E_bin, E_neg, E_not, E_and, E_or, E_ite, E_cmp, E_ceq, E_chn, E_tup, E_lst, E_idx, E_slc, E_fld, E_call, E_meth, E_omt, E_bi, E_isi, E_iso, E_lc, L_nil, L_cons, I_val, I_rng1, rngW_int, I_zip, I_enum, T_eq, C_nil, C_asg, C_asgT, C_par, C_exp, C_ret, C_retN, C_pass, C_ifs, C_sfld, C_ssub, C_fors, bd_ok, fx_ok, sq_nx, sq_rt, oF_some, oO_some, finO_rt, finO_nx, truth_bl, cmpV_lt, cmpV_le, cmpV_gt, cmpV_ge, binV_add, binV_sub, idx2_0, idx2_1, idx_fr0, idx_fr1, biV_abs, getO_0, getO_s, set_0, set_s, reduceIte, Bool.not_true, Bool.not_false, Bool.false_eq_true, List.length_cons, List.length_nil, fits0, fits1, fits2, fits3, fits4, fits5, fits6, fits7, fits8, newL_eq, E_fst, J_nil, J_cons, E_fmt, E_ostr, C_rse, C_tryx, fx_exc, bd_exc, sq_exc, finO_exc, trH_nx, trH_rt, trH_exc, oX_some, strO_str, List.set, fld_weight hg])
  obtain ⟨s1, n1, g1, f1, l1⟩ := newL_x ((gs.map (·.1)).map fr) s
  have t1 := sp_total (gl := gl) (fl := fl) (n := n + 2) M.toFracX M.plus M.total g1 (k := k) (fun q hm => by
    obtain ⟨z, hz, rfl⟩ := List.mem_map.mp hm
    exact (hs z hz).1) (by rw [List.length_map]; omega)
  have h1 := h.fr0 f1
  have m2 := gs_map (D := D) (e := .omt "Gold" "pure" (.var 4) .nil) (r := [some (.ref a), some x, some (fr (allW gs)), none, none]) (i := 4) (fun p => p.1 * p.2) h1 (fun q w f hm hg => by
    have e := sp_pureX (gl := gl) (fl := fl) (n := n + 2) M.toFracX M.times M.pure hg (hs _ hm).1 (hs _ hm).2 (by show k + l < 9000; omega)
    simp only [E_var, E_con, E_glo, E_bin, E_neg, E_not, E_and, E_or, E_ite, E_cmp, E_ceq, E_chn, E_tup, E_lst, E_idx, E_slc, E_fld, E_call, E_meth, E_omt, E_bi, E_isi, E_iso, E_lc, L_nil, L_cons, I_val, I_rng1, rngW_int, I_zip, I_enum, T_eq, C_nil, C_asg, C_asgT, C_par, C_exp, C_ret, C_retN, C_pass, C_ifs, C_sfld, C_ssub, C_fors, bd_ok, fx_ok, sq_nx, sq_rt, oF_some, oO_some, finO_rt, finO_nx, truth_bl, cmpV_lt, cmpV_le, cmpV_gt, cmpV_ge, binV_add, binV_sub, idx2_0, idx2_1, idx_fr0, idx_fr1, biV_abs, getO_0, getO_s, set_0, set_s, reduceIte, Bool.not_true, Bool.not_false, Bool.false_eq_true, List.length_cons, List.length_nil, fits0, fits1, fits2, fits3, fits4, fits5, fits6, fits7, fits8, newL_eq, E_fst, J_nil, J_cons, E_fmt, E_ostr, C_rse, C_tryx, fx_exc, bd_exc, sq_exc, finO_exc, trH_nx, trH_rt, trH_exc, oX_some, strO_str, D, List.set, own_pure hg, e])
  obtain ⟨s2, n2, g2, f2, l2⟩ := newL_x ((gs.map fun p => p.1 * p.2).map fr) s1
  have t2 := sp_total (gl := gl) (fl := fl) (n := n + 2) M.toFracX M.plus M.total g2 (k := k + l) (fun q hm => by
    obtain ⟨z, hz, rfl⟩ := List.mem_map.mp hm
    exact sm_mul (hs z hz).1 (hs z hz).2) (by rw [List.length_map]; omega)
  have el : ∀ {s : Vs}, run T gl fl (n + 6) Str.empty "less" [fr (allW gs), fr V] s = .ok (.bl (decide (allW gs < V))) s := fun {s} => sp_lessX (n := n + 5) M.toFracX sW sV (by omega)
  have eo := sp_overX (gl := gl) (fl := fl) (n := n + 3) (s := s2) M.toFracX M.over sP sW (by omega) (Rat.ne_of_gt pw)
  have rg := div_range pw (allP_nonneg hq) (allP_le hq)
  have eg := sp_GoldX (n := n) (s := s2) M.toGoldX sV (sm_div sP sW (Rat.ne_of_gt pw)) (by omega) (by omega) hV rg.1 rg.2
  have xm : xMake "NoWeight" [] = some noWeight := rfl
  refine ⟨s2, f1.trans f2, ?_⟩
  rw [run_def M.melted rfl]
  show finO (denB D (.cons _ (.cons _ (.cons _ (.cons _ (.cons _ .nil))))) [some (.ref a), some x, none, none, none] s) = _
  have c1 : cmpV .is_ x .non s2 = .ok (.bl (isNon x)) s2 := by
    rcases hx with ⟨rfl, _⟩ | rfl <;> rfl
  have t1' : run T gl fl (n + 6) Str.empty "total" [.ref s.length] s1 = .ok (fr (allW gs)) s1 := t1
  have t2' : run T gl fl (n + 6) Str.empty "total" [.ref s1.length] s2 = .ok (fr (allP gs)) s2 := t2
  simp -implicitDefEqProofs only [E_var, E_con, E_glo, E_bin, E_neg, E_not, E_and, E_or, E_ite, E_cmp, E_ceq, E_chn, E_tup, E_lst, E_idx, E_slc, E_fld, E_call, E_meth, E_omt, E_bi, E_isi, E_iso, E_lc, L_nil, L_cons, I_val, I_rng1, rngW_int, I_zip, I_enum, T_eq, C_nil, C_asg, C_asgT, C_par, C_exp, C_ret, C_retN, C_pass, C_ifs, C_sfld, C_ssub, C_fors, bd_ok, fx_ok, sq_nx, sq_rt, oF_some, oO_some, finO_rt, finO_nx, truth_bl, cmpV_lt, cmpV_le, cmpV_gt, cmpV_ge, binV_add, binV_sub, idx2_0, idx2_1, idx_fr0, idx_fr1, biV_abs, getO_0, getO_s, set_0, set_s, reduceIte, Bool.not_true, Bool.not_false, Bool.false_eq_true, List.length_cons, List.length_nil, fits0, fits1, fits2, fits3, fits4, fits5, fits6, fits7, fits8, E_fst, J_nil, J_cons, E_fmt, E_ostr, C_rse, C_tryx, fx_exc, bd_exc, sq_exc, finO_exc, trH_nx, trH_rt, trH_exc, oX_some, strO_str, srcAt h.1, fb]
  have m1' : lcL _ (lcF D _ _ _ _) _ _ = _ := m1
  rw [m1']
  simp -implicitDefEqProofs only [E_var, E_con, E_glo, E_bin, E_neg, E_not, E_and, E_or, E_ite, E_cmp, E_ceq, E_chn, E_tup, E_lst, E_idx, E_slc, E_fld, E_call, E_meth, E_omt, E_bi, E_isi, E_iso, E_lc, L_nil, L_cons, I_val, I_rng1, rngW_int, I_zip, I_enum, T_eq, C_nil, C_asg, C_asgT, C_par, C_exp, C_ret, C_retN, C_pass, C_ifs, C_sfld, C_ssub, C_fors, bd_ok, fx_ok, sq_nx, sq_rt, oF_some, oO_some, finO_rt, finO_nx, truth_bl, cmpV_lt, cmpV_le, cmpV_gt, cmpV_ge, binV_add, binV_sub, idx2_0, idx2_1, idx_fr0, idx_fr1, biV_abs, getO_0, getO_s, set_0, set_s, reduceIte, Bool.not_true, Bool.not_false, Bool.false_eq_true, List.length_cons, List.length_nil, fits0, fits1, fits2, fits3, fits4, fits5, fits6, fits7, fits8, E_fst, J_nil, J_cons, E_fmt, E_ostr, C_rse, C_tryx, fx_exc, bd_exc, sq_exc, finO_exc, trH_nx, trH_rt, trH_exc, oX_some, strO_str, n1, D, t1', srcAt h1.1, fb]
  have m2' : lcL _ (lcF ⟨run T gl fl (n + 6), gl, fl⟩ _ _ _ _) _ _ = _ := m2
  rw [m2']
  simp -implicitDefEqProofs only [E_var, E_con, E_glo, E_bin, E_neg, E_not, E_and, E_or, E_ite, E_cmp, E_ceq, E_chn, E_tup, E_lst, E_idx, E_slc, E_fld, E_call, E_meth, E_omt, E_bi, E_isi, E_iso, E_lc, L_nil, L_cons, I_val, I_rng1, rngW_int, I_zip, I_enum, T_eq, C_nil, C_asg, C_asgT, C_par, C_exp, C_ret, C_retN, C_pass, C_ifs, C_sfld, C_ssub, C_fors, bd_ok, fx_ok, sq_nx, sq_rt, oF_some, oO_some, finO_rt, finO_nx, truth_bl, cmpV_lt, cmpV_le, cmpV_gt, cmpV_ge, binV_add, binV_sub, idx2_0, idx2_1, idx_fr0, idx_fr1, biV_abs, getO_0, getO_s, set_0, set_s, reduceIte, Bool.not_true, Bool.not_false, Bool.false_eq_true, List.length_cons, List.length_nil, fits0, fits1, fits2, fits3, fits4, fits5, fits6, fits7, fits8, E_fst, J_nil, J_cons, E_fmt, E_ostr, C_rse, C_tryx, fx_exc, bd_exc, sq_exc, finO_exc, trH_nx, trH_rt, trH_exc, oX_some, strO_str, n2, t2', c1]
  have cont : ∀ {x1 : Option W}, finO (denB ⟨run T gl fl (n + 6), gl, fl⟩ (.cons (.ifs (.call "less" (.cons (.var 2) (.cons (.var 1) .nil))) (.cons (.rse "NoWeight" .nil) .nil) .nil) (.cons (.ret (.call "Gold" (.cons (.var 1) (.cons (.call "over" (.cons (.var 3) (.cons (.var 2) .nil))) .nil)))) .nil)) [some (.ref a), some (fr V), some (fr (allW gs)), some (fr (allP gs)), none] s2) = if allW gs < V then .exc noWeight s2 else .ok (.ref s2.length) (s2 ++ [goldO V (allP gs / allW gs)]) := fun {_} => by
    by_cases hv : allW gs < V
    · rw [if_pos hv]
      simp -implicitDefEqProofs only [E_var, E_con, E_glo, E_bin, E_neg, E_not, E_and, E_or, E_ite, E_cmp, E_ceq, E_chn, E_tup, E_lst, E_idx, E_slc, E_fld, E_call, E_meth, E_omt, E_bi, E_isi, E_iso, E_lc, L_nil, L_cons, I_val, I_rng1, rngW_int, I_zip, I_enum, T_eq, C_nil, C_asg, C_asgT, C_par, C_exp, C_ret, C_retN, C_pass, C_ifs, C_sfld, C_ssub, C_fors, bd_ok, fx_ok, sq_nx, sq_rt, oF_some, oO_some, finO_rt, finO_nx, truth_bl, cmpV_lt, cmpV_le, cmpV_gt, cmpV_ge, binV_add, binV_sub, idx2_0, idx2_1, idx_fr0, idx_fr1, biV_abs, getO_0, getO_s, set_0, set_s, reduceIte, Bool.not_true, Bool.not_false, Bool.false_eq_true, List.length_cons, List.length_nil, fits0, fits1, fits2, fits3, fits4, fits5, fits6, fits7, fits8, E_fst, J_nil, J_cons, E_fmt, E_ostr, C_rse, C_tryx, fx_exc, bd_exc, sq_exc, finO_exc, trH_nx, trH_rt, trH_exc, oX_some, strO_str, el, hv, decide_true, xm]
    · rw [if_neg hv]
      simp -implicitDefEqProofs only [E_var, E_con, E_glo, E_bin, E_neg, E_not, E_and, E_or, E_ite, E_cmp, E_ceq, E_chn, E_tup, E_lst, E_idx, E_slc, E_fld, E_call, E_meth, E_omt, E_bi, E_isi, E_iso, E_lc, L_nil, L_cons, I_val, I_rng1, rngW_int, I_zip, I_enum, T_eq, C_nil, C_asg, C_asgT, C_par, C_exp, C_ret, C_retN, C_pass, C_ifs, C_sfld, C_ssub, C_fors, bd_ok, fx_ok, sq_nx, sq_rt, oF_some, oO_some, finO_rt, finO_nx, truth_bl, cmpV_lt, cmpV_le, cmpV_gt, cmpV_ge, binV_add, binV_sub, idx2_0, idx2_1, idx_fr0, idx_fr1, biV_abs, getO_0, getO_s, set_0, set_s, reduceIte, Bool.not_true, Bool.not_false, Bool.false_eq_true, List.length_cons, List.length_nil, fits0, fits1, fits2, fits3, fits4, fits5, fits6, fits7, fits8, E_fst, J_nil, J_cons, E_fmt, E_ostr, C_rse, C_tryx, fx_exc, bd_exc, sq_exc, finO_exc, trH_nx, trH_rt, trH_exc, oX_some, strO_str, el, hv, decide_false, eo, eg]
  rcases hx with ⟨rfl, rfl⟩ | rfl
  · simp -implicitDefEqProofs only [isNon, reduceIte, sq_nx, C_asg, E_var, getO_0, getO_s, set_0, set_s, fx_ok, C_nil]
    exact cont (x1 := none)
  · have z : isNon (fr V) = false := rfl
    simp -implicitDefEqProofs only [z, reduceIte, sq_nx, C_nil, Bool.false_eq_true]
    exact cont (x1 := none)
end
end Vm
set_option Elab.async false
set_option linter.all false
set_option maxRecDepth 100000
/-! The interpreter's texts of this law, printed by gen.py. -/
namespace Vt
open PySem Vm
/-- common: one other -/
def x_common : Fd := ⟨2, 2, [], (.cons (.par 0 1 (.bi .abs (.cons (.var 0) .nil)) (.bi .abs (.cons (.var 1) .nil))) (.cons (.whl (.cmp .gt (.var 1) (.con (.int 0))) (.cons (.par 0 1 (.var 1) (.bin .mod (.var 0) (.var 1))) .nil)) (.cons (.ret (.var 0)) .nil)))⟩
/-- fraction: top bottom by -/
def x_fraction : Fd := ⟨2, 3, [], (.cons (.asg 2 (.call "common" (.cons (.var 0) (.cons (.var 1) .nil)))) (.cons (.ifs (.cmp .lt (.var 1) (.con (.int 0))) (.cons (.asg 2 (.bin .sub (.con (.int 0)) (.var 2))) .nil) .nil) (.cons (.ret (.tup (.cons (.bin .fdiv (.var 0) (.var 2)) (.cons (.bin .fdiv (.var 1) (.var 2)) .nil)))) .nil)))⟩
/-- plus: one other -/
def x_plus : Fd := ⟨2, 2, [], (.cons (.ret (.call "fraction" (.cons (.bin .add (.bin .mul (.idx (.var 0) (.con (.int 0))) (.idx (.var 1) (.con (.int 1)))) (.bin .mul (.idx (.var 1) (.con (.int 0))) (.idx (.var 0) (.con (.int 1))))) (.cons (.bin .mul (.idx (.var 0) (.con (.int 1))) (.idx (.var 1) (.con (.int 1)))) .nil)))) .nil)⟩
/-- times: one other -/
def x_times : Fd := ⟨2, 2, [], (.cons (.ret (.call "fraction" (.cons (.bin .mul (.idx (.var 0) (.con (.int 0))) (.idx (.var 1) (.con (.int 0)))) (.cons (.bin .mul (.idx (.var 0) (.con (.int 1))) (.idx (.var 1) (.con (.int 1)))) .nil)))) .nil)⟩
/-- over: one other -/
def x_over : Fd := ⟨2, 2, [], (.cons (.ret (.call "fraction" (.cons (.bin .mul (.idx (.var 0) (.con (.int 0))) (.idx (.var 1) (.con (.int 1)))) (.cons (.bin .mul (.idx (.var 0) (.con (.int 1))) (.idx (.var 1) (.con (.int 0)))) .nil)))) .nil)⟩
/-- less: one other -/
def x_less : Fd := ⟨2, 2, [], (.cons (.ret (.cmp .lt (.bin .mul (.idx (.var 0) (.con (.int 0))) (.idx (.var 1) (.con (.int 1)))) (.bin .mul (.idx (.var 1) (.con (.int 0))) (.idx (.var 0) (.con (.int 1)))))) .nil)⟩
/-- is_whole: thing -/
def x_is_whole : Fd := ⟨1, 1, [], (.cons (.ret (.and (.isi (.var 0) "int") (.not (.isi (.var 0) "bool")))) .nil)⟩
/-- is_fraction: thing -/
def x_is_fraction : Fd := ⟨1, 1, [], (.cons (.ifs (.or (.not (.isi (.var 0) "tuple")) (.or (.cmp .ne (.bi .len (.cons (.var 0) .nil)) (.con (.int 2))) (.or (.not (.call "is_whole" (.cons (.idx (.var 0) (.con (.int 0))) .nil))) (.not (.call "is_whole" (.cons (.idx (.var 0) (.con (.int 1))) .nil)))))) (.cons (.ret (.con (.bl false))) .nil) .nil) (.cons (.ret (.and (.cmp .ge (.idx (.var 0) (.con (.int 1))) (.con (.int 1))) (.cmp .eq (.call "fraction" (.cons (.idx (.var 0) (.con (.int 0))) (.cons (.idx (.var 0) (.con (.int 1))) .nil))) (.var 0)))) .nil))⟩
/-- total: some found one -/
def x_total : Fd := ⟨1, 3, [], (.cons (.asg 1 (.tup (.cons (.con (.int 0)) (.cons (.con (.int 1)) .nil)))) (.cons (.fors (.nm 2) (.val (.var 0)) (.cons (.asg 1 (.call "plus" (.cons (.var 1) (.cons (.var 2) .nil)))) .nil)) (.cons (.ret (.var 1)) .nil)))⟩
/-- is_weight: thing -/
def x_is_weight : Fd := ⟨1, 1, [], (.cons (.ret (.and (.call "is_fraction" (.cons (.var 0) .nil)) (.cmp .gt (.idx (.var 0) (.con (.int 0))) (.con (.int 0))))) .nil)⟩
/-- is_fineness: thing -/
def x_is_fineness : Fd := ⟨1, 1, [], (.cons (.ret (.and (.call "is_fraction" (.cons (.var 0) .nil)) (.and (.cmp .ge (.idx (.var 0) (.con (.int 0))) (.con (.int 0))) (.not (.call "less" (.cons (.glo "ONE") (.cons (.var 0) .nil))))))) .nil)⟩
/-- Gold.__init__: self weight fineness -/
def x_Gold_init : Fd := ⟨3, 3, [], (.cons (.ifs (.not (.call "is_weight" (.cons (.var 1) .nil))) (.cons (.rse "NoGold" (.cons (.con (.str "weight")) .nil)) .nil) .nil) (.cons (.ifs (.not (.call "is_fineness" (.cons (.var 2) .nil))) (.cons (.rse "NoGold" (.cons (.con (.str "fineness")) .nil)) .nil) .nil) (.cons (.sfld (.var 0) "weight" (.var 1)) (.cons (.sfld (.var 0) "fineness" (.var 2)) .nil))))⟩
/-- Gold.__eq__: self other -/
def x_Gold_eq : Fd := ⟨2, 2, [], (.cons (.ret (.and (.iso (.var 1) "Gold" ["Gold"]) (.and (.cmp .eq (.fld (.var 0) "weight") (.fld (.var 1) "weight")) (.cmp .eq (.fld (.var 0) "fineness") (.fld (.var 1) "fineness"))))) .nil)⟩
/-- Gold.pure: self -/
def x_Gold_pure : Fd := ⟨1, 1, [], (.cons (.ret (.call "times" (.cons (.fld (.var 0) "weight") (.cons (.fld (.var 0) "fineness") .nil)))) .nil)⟩
/-- melted: golds weight whole pure gold -/
def x_melted : Fd := ⟨2, 5, [.non], (.cons (.asg 2 (.call "total" (.cons (.lc (.fld (.var 4) "weight") (.nm 4) (.val (.var 0)) (.con (.bl true))) .nil))) (.cons (.asg 3 (.call "total" (.cons (.lc (.omt "Gold" "pure" (.var 4) .nil) (.nm 4) (.val (.var 0)) (.con (.bl true))) .nil))) (.cons (.ifs (.cmp .is_ (.var 1) (.con (.non))) (.cons (.asg 1 (.var 2)) .nil) .nil) (.cons (.ifs (.call "less" (.cons (.var 2) (.cons (.var 1) .nil))) (.cons (.rse "NoWeight" .nil) .nil) .nil) (.cons (.ret (.call "Gold" (.cons (.var 1) (.cons (.call "over" (.cons (.var 3) (.cons (.var 2) .nil))) .nil)))) .nil)))))⟩
/-- _law_bag: _law_script _law_k _law_cell _law_seed -/
def x__law_bag : Fd := ⟨2, 4, [], (.cons (.asg 2 (.con (.int 0))) (.cons (.ifs (.cmp .lt (.var 1) (.bi .len (.cons (.var 0) .nil))) (.cons (.asg 2 (.bin .mod (.idx (.var 0) (.var 1)) (.bin .pow (.con (.int 10)) (.con (.int 60))))) .nil) .nil) (.cons (.asg 3 (.bin .add (.con (.int 1)) (.bin .mod (.bin .add (.bin .add (.bin .add (.bin .mul (.bin .mod (.var 2) (.con (.int 2147483629))) (.con (.int 16807))) (.bin .mul (.bin .mul (.con (.int 40009)) (.var 1)) (.var 1))) (.bin .mul (.con (.int 7919)) (.var 1))) (.con (.int 1009))) (.con (.int 2147483645))))) (.cons (.ifs (.cmp .lt (.var 2) (.bin .pow (.con (.int 10)) (.con (.int 18)))) (.cons (.ret (.lst (.cons (.con (.int 0)) (.cons (.var 3) .nil)))) .nil) .nil) (.cons (.ret (.lst (.cons (.var 2) (.cons (.var 3) .nil)))) .nil)))))⟩
/-- _law_take: _law_bag_here _law_many _law_found -/
def x__law_take : Fd := ⟨2, 3, [], (.cons (.ifs (.cmp .gt (.idx (.var 0) (.con (.int 0))) (.con (.int 0))) (.cons (.asg 2 (.bin .mod (.idx (.var 0) (.con (.int 0))) (.var 1))) (.cons (.ssub (.var 0) (.con (.int 0)) (.bin .fdiv (.idx (.var 0) (.con (.int 0))) (.var 1))) (.cons (.ret (.var 2)) .nil))) .nil) (.cons (.ssub (.var 0) (.con (.int 1)) (.bin .mod (.bin .mul (.idx (.var 0) (.con (.int 1))) (.con (.int 48271))) (.con (.int 2147483647)))) (.cons (.ret (.bin .mod (.bin .fdiv (.bin .mod (.bin .mul (.bin .fdiv (.idx (.var 0) (.con (.int 1))) (.con (.int 13))) (.bin .add (.bin .mod (.idx (.var 0) (.con (.int 1))) (.con (.int 32749))) (.con (.int 17)))) (.con (.int 2147483629))) (.con (.int 32))) (.var 1))) .nil)))⟩
/-- _law_frac: _law_top _law_bottom _law_by _law_one _law_other -/
def x__law_frac : Fd := ⟨2, 5, [], (.cons (.par 3 4 (.var 0) (.var 1)) (.cons (.whl (.cmp .ne (.var 4) (.con (.int 0))) (.cons (.par 3 4 (.var 4) (.bin .mod (.var 3) (.var 4))) .nil)) (.cons (.asg 2 (.bin .mul (.bi .abs (.cons (.var 3) .nil)) (.bin .sub (.con (.int 1)) (.bin .mul (.con (.int 2)) (.bi .int (.cons (.cmp .lt (.var 1) (.con (.int 0))) .nil)))))) (.cons (.ret (.tup (.cons (.bin .fdiv (.var 0) (.var 2)) (.cons (.bin .fdiv (.var 1) (.var 2)) .nil)))) .nil))))⟩
/-- _law_weight: _law_bag_here _law_far -/
def x__law_weight : Fd := ⟨1, 2, [], (.cons (.asg 1 (.idx (.lst (.cons (.con (.int 12)) (.cons (.con (.int 99)) (.cons (.bin .pow (.con (.int 10)) (.con (.int 6))) .nil)))) (.call "_law_take" (.cons (.var 0) (.cons (.con (.int 3)) .nil))))) (.cons (.ret (.call "_law_frac" (.cons (.bin .add (.con (.int 1)) (.call "_law_take" (.cons (.var 0) (.cons (.var 1) .nil)))) (.cons (.bin .add (.con (.int 1)) (.call "_law_take" (.cons (.var 0) (.cons (.idx (.lst (.cons (.con (.int 1)) (.cons (.con (.int 4)) (.cons (.var 1) .nil)))) (.call "_law_take" (.cons (.var 0) (.cons (.con (.int 3)) .nil)))) .nil)))) .nil)))) .nil))⟩
/-- _law_fine: _law_bag_here _law_bottom -/
def x__law_fine : Fd := ⟨1, 2, [], (.cons (.asg 1 (.idx (.lst (.cons (.con (.int 1)) (.cons (.con (.int 4)) (.cons (.con (.int 24)) (.cons (.con (.int 1000)) .nil))))) (.call "_law_take" (.cons (.var 0) (.cons (.con (.int 4)) .nil))))) (.cons (.ret (.call "_law_frac" (.cons (.call "_law_take" (.cons (.var 0) (.cons (.bin .add (.var 1) (.con (.int 1))) .nil))) (.cons (.var 1) .nil)))) .nil))⟩
/-- _law_add: _law_one _law_other -/
def x__law_add : Fd := ⟨2, 2, [], (.cons (.ret (.call "_law_frac" (.cons (.bin .add (.bin .mul (.idx (.var 0) (.con (.int 0))) (.idx (.var 1) (.con (.int 1)))) (.bin .mul (.idx (.var 1) (.con (.int 0))) (.idx (.var 0) (.con (.int 1))))) (.cons (.bin .mul (.idx (.var 0) (.con (.int 1))) (.idx (.var 1) (.con (.int 1)))) .nil)))) .nil)⟩
/-- _law_mul: _law_one _law_other -/
def x__law_mul : Fd := ⟨2, 2, [], (.cons (.ret (.call "_law_frac" (.cons (.bin .mul (.idx (.var 0) (.con (.int 0))) (.idx (.var 1) (.con (.int 0)))) (.cons (.bin .mul (.idx (.var 0) (.con (.int 1))) (.idx (.var 1) (.con (.int 1)))) .nil)))) .nil)⟩
/-- _law_div: _law_one _law_other -/
def x__law_div : Fd := ⟨2, 2, [], (.cons (.ret (.call "_law_frac" (.cons (.bin .mul (.idx (.var 0) (.con (.int 0))) (.idx (.var 1) (.con (.int 1)))) (.cons (.bin .mul (.idx (.var 0) (.con (.int 1))) (.idx (.var 1) (.con (.int 0)))) .nil)))) .nil)⟩
/-- _law_refused: _law_golds _law_weight_here _law_kind _law_e -/
def x__law_refused : Fd := ⟨2, 4, [], (.cons (.asg 2 (.con (.str ""))) (.cons (.tryx (.cons (.exp (.call "melted" (.cons (.var 0) (.cons (.var 1) .nil)))) .nil) [⟨"GoldError", 3, 2, (.at_ .kinds)⟩]) (.cons (.ret (.cmp .eq (.var 2) (.con (.str "Made NoWeight +")))) .nil)))⟩
/-- law: _law_script _law_k _law_bag_here _law_rows _law_golds _law_whole _law_pure _law_fine_here _law_handed _law_part _law_weight_here _law_turn -/
def x_law : Fd := ⟨1, 12, [], (.cons (.fors (.nm 1) (.rng1 (.bin .add (.bi .min (.cons (.bi .len (.cons (.var 0) .nil)) (.cons (.con (.int 30)) .nil))) (.con (.int 2)))) (.cons (.asg 2 (.call "_law_bag" (.cons (.var 0) (.cons (.var 1) .nil)))) (.cons (.asg 3 (.lc (.tup (.cons (.call "_law_weight" (.cons (.var 2) .nil)) (.cons (.call "_law_fine" (.cons (.var 2) .nil)) .nil))) (.nm 11) (.rng1 (.bin .add (.con (.int 1)) (.call "_law_take" (.cons (.var 2) (.cons (.con (.int 8)) .nil))))) (.con (.bl true)))) (.cons (.asg 4 (.lc (.call "Gold" (.cons (.var 10) (.cons (.var 7) .nil))) (.tp [10, 7]) (.val (.var 3)) (.con (.bl true)))) (.cons (.asg 5 (.tup (.cons (.con (.int 0)) (.cons (.con (.int 1)) .nil)))) (.cons (.asg 6 (.tup (.cons (.con (.int 0)) (.cons (.con (.int 1)) .nil)))) (.cons (.fors (.tp [10, 7]) (.val (.var 3)) (.cons (.asg 5 (.call "_law_add" (.cons (.var 5) (.cons (.var 10) .nil)))) (.cons (.asg 6 (.call "_law_add" (.cons (.var 6) (.cons (.call "_law_mul" (.cons (.var 10) (.cons (.var 7) .nil))) .nil)))) .nil))) (.cons (.asg 7 (.call "_law_div" (.cons (.var 6) (.cons (.var 5) .nil)))) (.cons (.asg 8 (.bi .list (.cons (.var 4) .nil))) (.cons (.ifs (.or (.ceq true ["Gold"] (.call "melted" (.cons (.var 8) .nil)) (.call "Gold" (.cons (.var 5) (.cons (.var 7) .nil)))) (.or (.ceq true ["Gold"] (.call "melted" (.cons (.rev (.var 8)) (.cons (.var 5) .nil))) (.call "Gold" (.cons (.var 5) (.cons (.var 7) .nil)))) (.ceq true ["Gold"] (.var 8) (.var 4)))) (.cons (.ret (.con (.bl false))) .nil) .nil) (.cons (.asg 9 (.call "_law_mul" (.cons (.var 5) (.cons (.call "_law_frac" (.cons (.bin .add (.con (.int 1)) (.call "_law_take" (.cons (.var 2) (.cons (.con (.int 9)) .nil)))) (.cons (.con (.int 10)) .nil))) .nil)))) (.cons (.ifs (.or (.ceq true ["Gold"] (.call "melted" (.cons (.var 4) (.cons (.var 9) .nil))) (.call "Gold" (.cons (.var 9) (.cons (.var 7) .nil)))) (.cmp .ne (.omt "Gold" "pure" (.call "melted" (.cons (.var 4) (.cons (.var 9) .nil))) .nil) (.call "_law_mul" (.cons (.var 9) (.cons (.var 7) .nil))))) (.cons (.ret (.con (.bl false))) .nil) .nil) (.cons (.ifs (.not (.call "_law_refused" (.cons (.var 4) (.cons (.call "_law_add" (.cons (.var 5) (.cons (.call "_law_weight" (.cons (.var 2) .nil)) .nil))) .nil)))) (.cons (.ret (.con (.bl false))) .nil) .nil) .nil))))))))))))) (.cons (.ret (.con (.bl true))) .nil))⟩
def fnd : List (Str × Fd) := [("common", x_common), ("fraction", x_fraction), ("plus", x_plus), ("times", x_times), ("over", x_over), ("less", x_less), ("is_whole", x_is_whole), ("is_fraction", x_is_fraction), ("total", x_total), ("is_weight", x_is_weight), ("is_fineness", x_is_fineness), ("melted", x_melted), ("_law_bag", x__law_bag), ("_law_take", x__law_take), ("_law_frac", x__law_frac), ("_law_weight", x__law_weight), ("_law_fine", x__law_fine), ("_law_add", x__law_add), ("_law_mul", x__law_mul), ("_law_div", x__law_div), ("_law_refused", x__law_refused)]
def cld : List (Str × Fd) := [("Gold", x_Gold_init)]
def mtd : List ((Str × Str) × Fd) := [(("Gold", "__eq__"), x_Gold_eq), (("Gold", "pure"), x_Gold_pure)]
def gls : List (Str × W) := [("ONE", .tup [.int 1, .int 1])]
def bin : List Str := ["abs", "bool", "int", "isinstance", "len", "list", "min", "range", "tuple"]
def fll : List (Str × List Str) := [("Gold", ["weight", "fineness"])]
def eqs : List Str := ["Gold"]
def isc : List Str := ["Gold"]
def tb : Tb := tbOf fnd cld mtd gls bin eqs isc true ["GoldError"] true
noncomputable abbrev rn (n : Nat) := run (tabOf tb) tb.gl (flOf fll) n
theorem t_common : tabOf tb Str.empty "common" = some (.fn x_common) := by rfl
theorem t_fraction : tabOf tb Str.empty "fraction" = some (.fn x_fraction) := by rfl
theorem t_plus : tabOf tb Str.empty "plus" = some (.fn x_plus) := by rfl
theorem t_times : tabOf tb Str.empty "times" = some (.fn x_times) := by rfl
theorem t_over : tabOf tb Str.empty "over" = some (.fn x_over) := by rfl
theorem t_less : tabOf tb Str.empty "less" = some (.fn x_less) := by rfl
theorem t_is_whole : tabOf tb Str.empty "is_whole" = some (.fn x_is_whole) := by rfl
theorem t_is_fraction : tabOf tb Str.empty "is_fraction" = some (.fn x_is_fraction) := by rfl
theorem t_total : tabOf tb Str.empty "total" = some (.fn x_total) := by rfl
theorem t_is_weight : tabOf tb Str.empty "is_weight" = some (.fn x_is_weight) := by rfl
theorem t_is_fineness : tabOf tb Str.empty "is_fineness" = some (.fn x_is_fineness) := by rfl
theorem t_melted : tabOf tb Str.empty "melted" = some (.fn x_melted) := by rfl
theorem t__law_bag : tabOf tb Str.empty "_law_bag" = some (.fn x__law_bag) := by rfl
theorem t__law_take : tabOf tb Str.empty "_law_take" = some (.fn x__law_take) := by rfl
theorem t__law_frac : tabOf tb Str.empty "_law_frac" = some (.fn x__law_frac) := by rfl
theorem t__law_weight : tabOf tb Str.empty "_law_weight" = some (.fn x__law_weight) := by rfl
theorem t__law_fine : tabOf tb Str.empty "_law_fine" = some (.fn x__law_fine) := by rfl
theorem t__law_add : tabOf tb Str.empty "_law_add" = some (.fn x__law_add) := by rfl
theorem t__law_mul : tabOf tb Str.empty "_law_mul" = some (.fn x__law_mul) := by rfl
theorem t__law_div : tabOf tb Str.empty "_law_div" = some (.fn x__law_div) := by rfl
theorem t__law_refused : tabOf tb Str.empty "_law_refused" = some (.fn x__law_refused) := by rfl
theorem t_Gold : tabOf tb Str.empty "Gold" = some .cls := by rfl
theorem t_Gold_init : tabOf tb "Gold" "__init__" = some (.fn x_Gold_init) := by rfl
theorem t_Gold_eq : tabOf tb "Gold" "__eq__" = some (.fn x_Gold_eq) := by rfl
theorem t_Gold_pure : tabOf tb "Gold" "pure" = some (.fn x_Gold_pure) := by rfl
theorem g_ONE : tb.gl "ONE" = some (.tup [.int 1, .int 1]) := by rfl
end Vt
set_option Elab.async false
set_option linter.all false
set_option maxRecDepth 100000
set_option maxHeartbeats 4000000
/-! The law of melted gold: its own text. -/
namespace Vm
open PySem
def d__law_refused : Fd := ⟨2, 4, [], (.cons (.asg 2 (.con (.str ""))) (.cons (.tryx (.cons (.exp (.call "melted" (.cons (.var 0) (.cons (.var 1) .nil)))) .nil) [⟨"GoldError", 3, 2, (.at_ .kinds)⟩]) (.cons (.ret (.cmp .eq (.var 2) (.con (.str "Made NoWeight +")))) .nil)))⟩
def k02body : IB := (.cons (.asg 2 (.call "_law_bag" (.cons (.var 0) (.cons (.var 1) .nil)))) (.cons (.asg 3 (.lc (.tup (.cons (.call "_law_weight" (.cons (.var 2) .nil)) (.cons (.call "_law_fine" (.cons (.var 2) .nil)) .nil))) (.nm 11) (.rng1 (.bin .add (.con (.int 1)) (.call "_law_take" (.cons (.var 2) (.cons (.con (.int 8)) .nil))))) (.con (.bl true)))) (.cons (.asg 4 (.lc (.call "Gold" (.cons (.var 10) (.cons (.var 7) .nil))) (.tp [10, 7]) (.val (.var 3)) (.con (.bl true)))) (.cons (.asg 5 (.tup (.cons (.con (.int 0)) (.cons (.con (.int 1)) .nil)))) (.cons (.asg 6 (.tup (.cons (.con (.int 0)) (.cons (.con (.int 1)) .nil)))) (.cons (.fors (.tp [10, 7]) (.val (.var 3)) (.cons (.asg 5 (.call "_law_add" (.cons (.var 5) (.cons (.var 10) .nil)))) (.cons (.asg 6 (.call "_law_add" (.cons (.var 6) (.cons (.call "_law_mul" (.cons (.var 10) (.cons (.var 7) .nil))) .nil)))) .nil))) (.cons (.asg 7 (.call "_law_div" (.cons (.var 6) (.cons (.var 5) .nil)))) (.cons (.asg 8 (.bi .list (.cons (.var 4) .nil))) (.cons (.ifs (.or (.ceq true ["Gold"] (.call "melted" (.cons (.var 8) .nil)) (.call "Gold" (.cons (.var 5) (.cons (.var 7) .nil)))) (.or (.ceq true ["Gold"] (.call "melted" (.cons (.rev (.var 8)) (.cons (.var 5) .nil))) (.call "Gold" (.cons (.var 5) (.cons (.var 7) .nil)))) (.ceq true ["Gold"] (.var 8) (.var 4)))) (.cons (.ret (.con (.bl false))) .nil) .nil) (.cons (.asg 9 (.call "_law_mul" (.cons (.var 5) (.cons (.call "_law_frac" (.cons (.bin .add (.con (.int 1)) (.call "_law_take" (.cons (.var 2) (.cons (.con (.int 9)) .nil)))) (.cons (.con (.int 10)) .nil))) .nil)))) (.cons (.ifs (.or (.ceq true ["Gold"] (.call "melted" (.cons (.var 4) (.cons (.var 9) .nil))) (.call "Gold" (.cons (.var 9) (.cons (.var 7) .nil)))) (.cmp .ne (.omt "Gold" "pure" (.call "melted" (.cons (.var 4) (.cons (.var 9) .nil))) .nil) (.call "_law_mul" (.cons (.var 9) (.cons (.var 7) .nil))))) (.cons (.ret (.con (.bl false))) .nil) .nil) (.cons (.ifs (.not (.call "_law_refused" (.cons (.var 4) (.cons (.call "_law_add" (.cons (.var 5) (.cons (.call "_law_weight" (.cons (.var 2) .nil)) .nil))) .nil)))) (.cons (.ret (.con (.bl false))) .nil) .nil) .nil))))))))))))
def k02sum : IB := (.cons (.asg 5 (.call "_law_add" (.cons (.var 5) (.cons (.var 10) .nil)))) (.cons (.asg 6 (.call "_law_add" (.cons (.var 6) (.cons (.call "_law_mul" (.cons (.var 10) (.cons (.var 7) .nil))) .nil)))) .nil))
structure K02T (T : Str → Str → Option Te) (gl : Str → Option W) (fl : Str → List Str) : Prop extends MeltT T gl fl, DrawX T where
  eq : T "Gold" "__eq__" = some (.fn d_Gold_eq1)
  lmul : T Str.empty "_law_mul" = some (.fn d__law_mul)
  ladd : T Str.empty "_law_add" = some (.fn d__law_add)
  ldiv : T Str.empty "_law_div" = some (.fn d__law_div)
  refused : T Str.empty "_law_refused" = some (.fn d__law_refused)
def rowsX (gs : List (Rat × Rat)) : List W := gs.map fun p => .tup [fr p.1, fr p.2]
def GoldR2 (p : Rat × Rat) : Prop := (0 < p.1 ∧ 0 ≤ p.2 ∧ p.2 ≤ 1) ∧ Sm 20 p.1 ∧ Sm 10 p.2
section
variable {T : Str → Str → Option Te} {gl : Str → Option W} {fl : Str → List Str} {n : Nat} {s : Vs}
theorem E_rev {D : Wd} {r : Rho} (a : IE) : den D (.rev a) r s = bd (fun x s1 => revV x s1) ⟨den D a r s⟩ := by rw [den] <;> rfl
theorem rev_at {a : Nat} {l : List W} (h : s[a]? = some (.lst l)) : revV (.ref a) s = newL l.reverse s := by
  show (match lstAt s a with | some l => newL l.reverse s | none => .err) = _
  rw [lst_at h]
theorem list_at {a : Nat} {l : List W} (h : s[a]? = some (.lst l)) : biV .list [.ref a] s = newL l s := by
  show (match lstAt s a with | some l => newL l s | none => .err) = _
  rw [lst_at h]
theorem GsAt.rev {a b : Nat} {rs : List Nat} {gs : List (Rat × Rat)} (h : GsAt s a rs gs) (hb : s[b]? = some (.lst (rs.map W.ref).reverse)) : GsAt s b rs.reverse gs.reverse := by
  refine ⟨by rw [List.map_reverse]; exact hb, by rw [List.length_reverse, List.length_reverse, h.2.1], fun i w f e => ?_⟩
  have hi : i < gs.length := by have := (List.getElem?_eq_some_iff.mp e).1; rw [List.length_reverse] at this; exact this
  rw [List.getElem?_reverse hi] at e
  obtain ⟨r, h1, h2⟩ := h.2.2 _ w f e
  exact ⟨r, by rw [List.getElem?_reverse (by rw [h.2.1]; exact hi), h.2.1]; exact h1, h2⟩
/-- two lists of the same instances -/
theorem ne_same {fe : Str → Str → List W → Vs → Out W} {cs : List Str} {a b : Nat} {rs : List Nat} {gs : List (Rat × Rat)} (h : GsAt s a rs gs) (hb : s[b]? = some (.lst (rs.map W.ref))) (hne : gs ≠ []) : eqoV fe true cs (.ref b) (.ref a) s = .ok (.bl false) s := by
  have h0 : eqD s (.ref b) (.ref a) = none := by
    unfold eqD
    have e : toD s 100000 (.ref b) = none := by
      show toD s (99999 + 1) _ = _
      rw [toD_ref hb]
      match rs, gs, h, hne with
      | [], [], h, hne => exact absurd rfl hne
      | [], _ :: _, h, _ => have := h.2.1; cases this
      | r :: rs, [], h, _ => have := h.2.1; cases this
      | r :: rs, (w, f) :: gs, h, _ =>
        obtain ⟨q, h1, h2⟩ := h.2.2 0 w f rfl
        cases h1
        show Option.map _ (toDs s (99998 + 1) (.ref r :: rs.map W.ref)) = none
        rw [toDs]
        have e2 : toD s 99998 (.ref r) = none := by
          show toD s (99997 + 1) _ = _
          rw [toD]
          unfold lstAt
          rw [show s[r]? = some (goldO w f) from h2]
          rfl
        rw [e2]
        rfl
    rw [e]
  have li : insOf s (.ref b) = none := by
    show (match s[b]? with | some (.ins c _) => some c | _ => none) = none
    rw [hb]
  have oc : ownC cs (.ref b) (.ref a) s = none := by
    unfold ownC
    rw [li]
  unfold eqoV
  rw [h0, oc]
  have z : alikeT s (alikeW fe cs s 3) (.ref b) (.ref a) := by
    refine .inr ⟨b, a, _, _, rfl, rfl, lst_at hb, lst_at h.1, rfl, fun i x y hx hy => ?_⟩
    rw [hx] at hy
    cases hy
    rw [List.getElem?_map] at hx
    obtain ⟨q, _, rfl⟩ := Option.map_eq_some_iff.mp hx
    have z : alikeW fe cs s 0 (.ref q) (.ref q) := .inr (.inl ⟨rfl, q, rfl⟩)
    exact .inl (.inl (.inl z))
  exact if_pos z
theorem hand_weight (r : Rho) (hr : r.length = 4) : handF [⟨"GoldError", 3, 2, (.at_ .kinds)⟩] noWeight r s = .nx ((r.set 2 (some (.str "Made NoWeight +"))).set 3 none) s := by
  show (if decide (3 < r.length ∧ 2 ≠ 3) = true then (match Out.ok (W.str "Made NoWeight +") s with | .ok w s' => Fin.nx ((r.set 2 (some w)).set 3 none) s' | _ => .err) else .err) = _
  rw [if_pos (by rw [hr]; decide)]
theorem sp_refused (K : K02T T gl fl) {a : Nat} {rs : List Nat} {gs : List (Rat × Rat)} (h : GsAt s a rs gs) (hq : ∀ p ∈ gs, GoldR2 p) (hne : gs ≠ []) (hl : gs.length ≤ 8) {V : Rat} (hV : allW gs < V) (sV : Sm 200 V) :
    ∃ s2, run T gl fl (n + 8) Str.empty "_law_refused" [.ref a, fr V] s = .ok (.bl true) s2 ∧ Fr (fun _ => False) s s2 := by
  have pw := allW_pos hne fun p hp => (hq p hp).1.1
  have v0 : 0 < V := by grind
  obtain ⟨s2, f2, e2⟩ := sp_melted (n := n) K.toMeltT h (fun p hp => (hq p hp).1) (fun p hp => (hq p hp).2) hne (by omega) (x := fr V) (.inr rfl) v0 sV (by omega)
  rw [if_pos hV] at e2
  refine ⟨s2, ?_, f2⟩
  rw [run_def K.refused rfl]
  show finO (denB _ (.cons _ (.cons _ (.cons _ .nil))) [some (.ref a), some (fr V), none, none] s) = _
  have c : cmpV .eq (.str "Made NoWeight +") (.str "Made NoWeight +") s2 = .ok (.bl true) s2 := by
    rw [cmp_eq (eqD_str (by decide +kernel) (by decide +kernel)), decide_eq_true rfl]
  simp only [E_var, E_con, E_glo, E_bin, E_neg, E_not, E_and, E_or, E_ite, E_cmp, E_ceq, E_chn, E_tup, E_lst, E_idx, E_slc, E_fld, E_call, E_meth, E_omt, E_bi, E_isi, E_iso, E_lc, L_nil, L_cons, I_val, I_rng1, rngW_int, I_zip, I_enum, T_eq, C_nil, C_asg, C_asgT, C_par, C_exp, C_ret, C_retN, C_pass, C_ifs, C_sfld, C_ssub, C_fors, bd_ok, fx_ok, sq_nx, sq_rt, oF_some, oO_some, finO_rt, finO_nx, truth_bl, cmpV_lt, cmpV_le, cmpV_gt, cmpV_ge, binV_add, binV_sub, idx2_0, idx2_1, idx_fr0, idx_fr1, biV_abs, getO_0, getO_s, set_0, set_s, reduceIte, Bool.not_true, Bool.not_false, Bool.false_eq_true, List.length_cons, List.length_nil, fits0, fits1, fits2, fits3, fits4, fits5, fits6, fits7, fits8, newL_eq, E_fst, J_nil, J_cons, E_fmt, E_ostr, C_rse, C_tryx, fx_exc, bd_exc, sq_exc, finO_exc, trH_nx, trH_rt, trH_exc, oX_some, strO_str, e2, hand_weight [some (.ref a), some (fr V), some (.str ""), none] rfl, c]
/-- rows drawn -/
theorem rows_x (F : DrawX T) {b m : Nat} {i : Nat} {r : Rho} (hi : i ≠ 2) (hr : r[2]? = some (some (.ref b))) (hb : BagOk s b) : ∃ (gs : List (Rat × Rat)) (s' : Vs), lcL (Src.ok ⟨(List.range m).map fun i => W.int (i : Nat), []⟩) (lcF ⟨run T gl fl (n + 7), gl, fl⟩ (.tup (.cons (.call "_law_weight" (.cons (.var 2) .nil)) (.cons (.call "_law_fine" (.cons (.var 2) .nil)) .nil))) (.nm i) (.con (.bl true)) r) ((List.range m).map fun i => W.int (i : Nat)) s = .ok (rowsX gs) s' ∧
    gs.length = m ∧ (∀ p ∈ gs, GoldR2 p) ∧ BagOk s' b ∧ Fr (· = b) s s' := by
  obtain ⟨ys, s', e, hb', f, gs, ey, gl', hq⟩ := lc_ix (ok := Src.ok ⟨(List.range m).map fun i => W.int (i : Nat), []⟩) (f := lcF ⟨run T gl fl (n + 7), gl, fl⟩ (.tup (.cons (.call "_law_weight" (.cons (.var 2) .nil)) (.cons (.call "_law_fine" (.cons (.var 2) .nil)) .nil))) (.nm i) (.con (.bl true)) r) (items := (List.range m).map fun i => W.int (i : Nat)) (s := s)
    (fun k acc u => BagOk u b ∧ Fr (· = b) s u ∧ ∃ gs, acc = rowsX gs ∧ gs.length = k ∧ ∀ p ∈ gs, GoldR2 p)
    (fun _ _ _ _ p hp => by cases hp)
    (fun k acc x u hx ⟨bu, fu, gs, ea, el, hq⟩ => by
      subst ea
      obtain ⟨w, s1, e1, w0, sw, b1, f1⟩ := sp_law_weightX (gl := gl) (fl := fl) (n := n + 5) F bu
      obtain ⟨g, s2, e2, g0, g1, sg, b2, f2⟩ := sp_law_fineX (gl := gl) (fl := fl) (n := n + 5) F b1
      refine ⟨some (.tup [fr w, fr g]), s2, ?_, b2, (fu.trans f1).trans f2, gs ++ [(w, g)], ?_, ?_, ?_⟩
      · have hr2 : (r.set i (some acc))[2]? = some (some (.ref b)) := by rw [List.getElem?_set_ne hi]; exact hr
        rw [lcF_eq, set_nm, oO_some]
        simp only [E_var, E_con, E_glo, E_bin, E_neg, E_not, E_and, E_or, E_ite, E_cmp, E_ceq, E_chn, E_tup, E_lst, E_idx, E_slc, E_fld, E_call, E_meth, E_omt, E_bi, E_isi, E_iso, E_lc, L_nil, L_cons, I_val, I_rng1, rngW_int, I_zip, I_enum, T_eq, C_nil, C_asg, C_asgT, C_par, C_exp, C_ret, C_retN, C_pass, C_ifs, C_sfld, C_ssub, C_fors, bd_ok, fx_ok, sq_nx, sq_rt, oF_some, oO_some, finO_rt, finO_nx, truth_bl, cmpV_lt, cmpV_le, cmpV_gt, cmpV_ge, binV_add, binV_sub, idx2_0, idx2_1, idx_fr0, idx_fr1, biV_abs, getO_0, getO_s, set_0, set_s, reduceIte, Bool.not_true, Bool.not_false, Bool.false_eq_true, List.length_cons, List.length_nil, fits0, fits1, fits2, fits3, fits4, fits5, fits6, fits7, fits8, newL_eq, E_fst, J_nil, J_cons, E_fmt, E_ostr, C_rse, C_tryx, fx_exc, bd_exc, sq_exc, finO_exc, trH_nx, trH_rt, trH_exc, oX_some, strO_str, hr2, e1, e2]
      · show rowsX gs ++ [_] = List.map _ (gs ++ _)
        rw [List.map_append]
        rfl
      · rw [List.length_append, el]; rfl
      · intro p hp
        rcases List.mem_append.mp hp with hp | hp
        · exact hq p hp
        · rw [List.mem_singleton.mp hp]
          exact ⟨⟨w0, g0, g1⟩, sw, sg⟩)
    ⟨hb, Fr.refl, [], rfl, rfl, fun p hp => by cases hp⟩
  subst ey
  rw [List.length_map, List.length_range] at gl'
  exact ⟨gs, s', e, gl', hq, hb', f⟩
/-- golds made of rows -/
theorem golds_x (G : GoldX T gl fl) {a u v : Nat} {r : Rho} (hu : u < r.length) (hv : v < r.length) (huv : v ≠ u) {gs : List (Rat × Rat)} (ha : s[a]? = some (.lst (rowsX gs))) (hq : ∀ p ∈ gs, GoldR2 p) :
    ∃ (rs : List Nat) (s' : Vs), lcL (Src.ok ⟨rowsX gs, [(a, rowsX gs)]⟩) (lcF ⟨run T gl fl (n + 7), gl, fl⟩ (.call "Gold" (.cons (.var u) (.cons (.var v) .nil))) (.tp [u, v]) (.con (.bl true)) r) (rowsX gs) s = .ok (rs.map W.ref) s' ∧ Fr (fun _ => False) s s' ∧ rs.length = gs.length ∧ ∀ (i : Nat) (w f : Rat), gs[i]? = some (w, f) → ∃ r : Nat, rs[i]? = some r ∧ s'[r]? = some (goldO w f) := by
  obtain ⟨ys, s', e, f, rs, e3, e4, e6⟩ := lc_ix (ok := Src.ok ⟨rowsX gs, [(a, rowsX gs)]⟩) (f := lcF ⟨run T gl fl (n + 7), gl, fl⟩ (.call "Gold" (.cons (.var u) (.cons (.var v) .nil))) (.tp [u, v]) (.con (.bl true)) r) (items := rowsX gs) (s := s)
    (fun k acc s' => Fr (fun _ => False) s s' ∧ ∃ rs : List Nat, acc = rs.map W.ref ∧ rs.length = k ∧ ∀ (i : Nat) (w f : Rat), i < k → gs[i]? = some (w, f) → ∃ r : Nat, rs[i]? = some r ∧ s'[r]? = some (goldO w f))
    (fun k acc s' ⟨f, _⟩ => ok_at (f.get ha id))
    (fun k x acc s' hx ⟨f, rs, ea, er, hg⟩ => by
      unfold rowsX at hx
      rw [List.getElem?_map] at hx
      obtain ⟨⟨w, g⟩, eg, rfl⟩ := Option.map_eq_some_iff.mp hx
      have qg := hq (w, g) (List.mem_of_getElem? eg)
      have mk := sp_GoldX (n := n + 1) (s := s') G qg.2.1 qg.2.2 (by omega) (by omega) qg.1.1 qg.1.2.1 qg.1.2.2
      refine ⟨some (.ref s'.length), s' ++ [goldO w g], ?_, f.trans Fr.app, rs ++ [s'.length], ?_, ?_, ?_⟩
      · have iu : ((r.set u (some (fr w))).set v (some (fr g)))[u]? = some (some (fr w)) := by rw [List.getElem?_set_ne huv, List.getElem?_set_self hu]
        have iv : ((r.set u (some (fr w))).set v (some (fr g)))[v]? = some (some (fr g)) := List.getElem?_set_self (by rw [List.length_set]; exact hv)
        rw [lcF_eq, set_tp2, oO_some]
        simp only [E_var, E_con, E_glo, E_bin, E_neg, E_not, E_and, E_or, E_ite, E_cmp, E_ceq, E_chn, E_tup, E_lst, E_idx, E_slc, E_fld, E_call, E_meth, E_omt, E_bi, E_isi, E_iso, E_lc, L_nil, L_cons, I_val, I_rng1, rngW_int, I_zip, I_enum, T_eq, C_nil, C_asg, C_asgT, C_par, C_exp, C_ret, C_retN, C_pass, C_ifs, C_sfld, C_ssub, C_fors, bd_ok, fx_ok, sq_nx, sq_rt, oF_some, oO_some, finO_rt, finO_nx, truth_bl, cmpV_lt, cmpV_le, cmpV_gt, cmpV_ge, binV_add, binV_sub, idx2_0, idx2_1, idx_fr0, idx_fr1, biV_abs, getO_0, getO_s, set_0, set_s, reduceIte, Bool.not_true, Bool.not_false, Bool.false_eq_true, List.length_cons, List.length_nil, fits0, fits1, fits2, fits3, fits4, fits5, fits6, fits7, fits8, newL_eq, E_fst, J_nil, J_cons, E_fmt, E_ostr, C_rse, C_tryx, fx_exc, bd_exc, sq_exc, finO_exc, trH_nx, trH_rt, trH_exc, oX_some, strO_str, iu, iv, mk]
      · rw [ea]; show _ = List.map _ _; rw [List.map_append]; rfl
      · rw [List.length_append, er]; rfl
      · intro i w2 f2 hi ei
        rcases Nat.lt_or_ge i k with z | z
        · obtain ⟨rr, r1, r2⟩ := hg i w2 f2 z ei
          exact ⟨rr, by rw [List.getElem?_append_left (by omega)]; exact r1, (Fr.app (b := fun _ => False)).get r2 id⟩
        · have : i = k := by omega
          subst this
          rw [eg] at ei
          cases ei
          exact ⟨s'.length, by rw [← er]; exact get_last, get_last⟩)
    ⟨Fr.refl, [], rfl, rfl, fun i w f hi => by omega⟩
  have rl : (rowsX gs).length = gs.length := by unfold rowsX; rw [List.length_map]
  rw [rl] at e4 e6
  subst e3
  exact ⟨rs, s', e, f, e4, fun i w f ei => e6 i w f (List.getElem?_eq_some_iff.mp ei).1 ei⟩
end
end Vm
set_option Elab.async false
set_option linter.all false
set_option maxRecDepth 100000
set_option maxHeartbeats 4000000
/-! The law of melted gold: a turn; the whole. -/
namespace Vm
open PySem
section
variable {T : Str → Str → Option Te} {gl : Str → Option W} {fl : Str → List Str} {n : Nat} {s : Vs}
theorem GsAt.bag {s s' : Vs} {a b : Nat} {rs : List Nat} {gs : List (Rat × Rat)} (h : GsAt s a rs gs) (hb : BagOk s b) (f : Fr (· = b) s s') (ne : a ≠ b) : GsAt s' a rs gs := by
  refine ⟨f.get h.1 ne, h.2.1, fun i w g e => ?_⟩
  obtain ⟨r, h1, h2⟩ := h.2.2 i w g e
  refine ⟨r, h1, f.get h2 ?_⟩
  rintro rfl
  obtain ⟨c, d, hc, _⟩ := hb
  rw [hc] at h2
  cases h2
theorem allW_rev (gs : List (Rat × Rat)) : allW gs.reverse = allW gs := by
  unfold allW
  rw [List.map_reverse, sumQ_reverse]
theorem allP_rev (gs : List (Rat × Rat)) : allP gs.reverse = allP gs := by
  unfold allP
  rw [List.map_reverse, sumQ_reverse]
theorem k02_turn (K : K02T T gl fl) (ns : List Int) (k : Nat) (hk : k < 1000) (x1 x2 x3 x4 x5 x6 x7 x8 x9 x10 x11 : Option W) : ∃ s' y2 y3 y4 y5 y6 y7 y8 y9 y10 y11, forF ⟨run T gl fl (n + 8), gl, fl⟩ (.nm 1) k02body (.int (k : Nat)) [some (.scr ns), x1, x2, x3, x4, x5, x6, x7, x8, x9, x10, x11] s = .nx [some (.scr ns), some (.int (k : Nat)), y2, y3, y4, y5, y6, y7, y8, y9, y10, y11] s' := by
  let D : Wd := ⟨run T gl fl (n + 8), gl, fl⟩
  obtain ⟨s1, e1, b1, f1⟩ := sp_bag (gl := gl) (fl := fl) (n := n + 7) (s := s) K.toDrawT ns k hk
  obtain ⟨t1, s2, e2, t10, t11, b2, f2, _⟩ := sp_take (gl := gl) (fl := fl) (n := n + 7) K.toDrawT b1 (m := 8) (by omega) (by omega)
  obtain ⟨m, hm⟩ : ∃ m : Nat, 1 + t1 = (m : Int) := ⟨(1 + t1).toNat, by omega⟩
  obtain ⟨gs, s3, e3, gl3, hq, b3, f3⟩ := rows_x (gl := gl) (fl := fl) (n := n + 1) (m := m) (i := 11) (r := [some (.scr ns), some (.int (k : Nat)), some (.ref s.length), x3, x4, x5, x6, x7, x8, x9, x10, x11]) K.toDrawX (by decide) rfl b2
  have hne : gs ≠ [] := by rintro rfl; simp at gl3; omega
  have hl : gs.length ≤ 8 := by omega
  have hq1 : ∀ p ∈ gs, 0 < p.1 ∧ 0 ≤ p.2 ∧ p.2 ≤ 1 := fun p hp => (hq p hp).1
  have hq2 : ∀ p ∈ gs, Sm 20 p.1 ∧ Sm 10 p.2 := fun p hp => (hq p hp).2
  obtain ⟨s4, n4, g4, f4, l4⟩ := newL_x (rowsX gs) s3
  have b4 := b3.fr f4 id
  obtain ⟨rs, s5, e5, f5, rl, gd5⟩ := golds_x (n := n + 1) (s := s4) K.toGoldX (a := s3.length) (u := 10) (v := 7) (r := [some (.scr ns), some (.int (k : Nat)), some (.ref s.length), some (.ref s3.length), x4, x5, x6, x7, x8, x9, x10, x11]) (by show 10 < 12; omega) (by show 7 < 12; omega) (by omega) g4 hq
  obtain ⟨s6, n6, g6, f6, l6⟩ := newL_x (rs.map W.ref) s5
  have G6 : GsAt s6 s5.length rs gs := ⟨g6, rl, fun i w f e => let ⟨r, h1, h2⟩ := gd5 i w f e; ⟨r, h1, f6.get h2 id⟩⟩
  have b6 := (b4.fr f5 id).fr f6 id
  have g46 : s6[s3.length]? = some (.lst (rowsX gs)) := f6.get (f5.get g4 id) id
  have bs := b1.lt
  have ne5 : s5.length ≠ s.length := by have := (b4.fr f5 id).lt; omega
  -- sums
  have pw := allW_pos hne fun p hp => (hq1 p hp).1
  have sW : Sm 169 (allW gs) := by
    have := sm_sum (l := gs.map (·.1)) (k := 20) fun q hm => by
      obtain ⟨z, hz, rfl⟩ := List.mem_map.mp hm
      exact (hq2 z hz).1
    rw [List.length_map] at this
    exact this.mono (by omega)
  have sP : Sm 249 (allP gs) := by
    have := sm_sum (l := gs.map fun p => p.1 * p.2) (k := 30) fun q hm => by
      obtain ⟨z, hz, rfl⟩ := List.mem_map.mp hm
      exact sm_mul (hq2 z hz).1 (hq2 z hz).2
    rw [List.length_map] at this
    exact this.mono (by omega)
  have smW : ∀ j, Sm 169 (allW (gs.take j)) := fun j => by
    have := sm_sum (l := (gs.take j).map (·.1)) (k := 20) fun q hm => by
      obtain ⟨z, hz, rfl⟩ := List.mem_map.mp hm
      exact (hq2 z (List.mem_of_mem_take hz)).1
    rw [List.length_map] at this
    exact this.mono (by have : (gs.take j).length ≤ gs.length := by rw [List.length_take]; omega
                        omega)
  have smP : ∀ j, Sm 249 (allP (gs.take j)) := fun j => by
    have := sm_sum (l := (gs.take j).map fun p => p.1 * p.2) (k := 30) fun q hm => by
      obtain ⟨z, hz, rfl⟩ := List.mem_map.mp hm
      exact sm_mul (hq2 z (List.mem_of_mem_take hz)).1 (hq2 z (List.mem_of_mem_take hz)).2
    rw [List.length_map] at this
    exact this.mono (by have : (gs.take j).length ≤ gs.length := by rw [List.length_take]; omega
                        omega)
  obtain ⟨r7, s7', e7, es7, y7, y10, er7⟩ := for_ixn (ok := Src.ok ⟨rowsX gs, [(s3.length, rowsX gs)]⟩) (f := forF D (.tp [10, 7]) k02sum) (items := rowsX gs) (s := s6)
    (r := [some (.scr ns), some (.int (k : Nat)), some (.ref s.length), some (.ref s3.length), some (.ref s5.length), some (fr 0), some (fr 0), x7, x8, x9, x10, x11])
    (fun j r u => u = s6 ∧ ∃ y7 y10, r = [some (.scr ns), some (.int (k : Nat)), some (.ref s.length), some (.ref s3.length), some (.ref s5.length), some (fr (allW (gs.take j))), some (fr (allP (gs.take j))), y7, x8, x9, y10, x11])
    (fun _ _ u ⟨eu, _⟩ => by subst eu; exact ok_at g46)
    (fun j x r u hx ⟨eu, y7, y10, er⟩ => by
      have eu2 := eu.symm
      subst eu2 er
      unfold rowsX at hx
      rw [List.getElem?_map] at hx
      obtain ⟨⟨w, f⟩, eg, rfl⟩ := Option.map_eq_some_iff.mp hx
      have qz := hq2 (w, f) (List.mem_of_getElem? eg)
      have a1 := sp_law_addX (gl := gl) (fl := fl) (n := n + 6) (s := s6) K.toLawX K.ladd (smW j) qz.1 (by omega)
      have a2 := sp_law_mulX (gl := gl) (fl := fl) (n := n + 6) (s := s6) K.toLawX K.lmul qz.1 qz.2 (by omega)
      have a3 := sp_law_addX (gl := gl) (fl := fl) (n := n + 6) (s := s6) K.toLawX K.ladd (smP j) (sm_mul qz.1 qz.2) (by omega)
      have w1 : allW (gs.take (j + 1)) = allW (gs.take j) + w := by
        unfold allW
        rw [List.take_add_one, eg, Option.toList_some, List.map_append]
        exact sumQ_snoc _ _
      have w2 : allP (gs.take (j + 1)) = allP (gs.take j) + w * f := by
        unfold allP
        rw [List.take_add_one, eg, Option.toList_some, List.map_append]
        exact sumQ_snoc _ _
      refine ⟨_, s6, ?_, rfl, some (fr f), some (fr w), rfl⟩
      rw [forF_eq, set_tp2, oF_some]
      simp only [k02sum, E_var, E_con, E_glo, E_bin, E_neg, E_not, E_and, E_or, E_ite, E_cmp, E_ceq, E_chn, E_tup, E_lst, E_idx, E_slc, E_fld, E_call, E_meth, E_omt, E_bi, E_isi, E_iso, E_lc, L_nil, L_cons, I_val, I_rng1, rngW_int, I_zip, I_enum, T_eq, C_nil, C_asg, C_asgT, C_par, C_exp, C_ret, C_retN, C_pass, C_ifs, C_sfld, C_ssub, C_fors, bd_ok, fx_ok, sq_nx, sq_rt, oF_some, oO_some, finO_rt, finO_nx, truth_bl, cmpV_lt, cmpV_le, cmpV_gt, cmpV_ge, binV_add, binV_sub, idx2_0, idx2_1, idx_fr0, idx_fr1, biV_abs, getO_0, getO_s, set_0, set_s, reduceIte, Bool.not_true, Bool.not_false, Bool.false_eq_true, List.length_cons, List.length_nil, fits0, fits1, fits2, fits3, fits4, fits5, fits6, fits7, fits8, newL_eq, E_fst, J_nil, J_cons, E_fmt, E_ostr, C_rse, C_tryx, fx_exc, bd_exc, sq_exc, finO_exc, trH_nx, trH_rt, trH_exc, oX_some, strO_str, D, a1, a2, a3, w1, w2])
    ⟨rfl, x7, x10, rfl⟩
  have es7b := es7.symm
  subst es7b
  have rlen : (rowsX gs).length = gs.length := by unfold rowsX; rw [List.length_map]
  rw [rlen, List.take_length] at er7
  have wn : 0 < (allW gs).num := by
    have := Rat.num_nonneg.mpr (Rat.le_of_lt pw)
    have : (allW gs).num ≠ 0 := fun z => Rat.ne_of_gt pw (Rat.num_eq_zero.mp z)
    omega
  have ed := sp_law_divX (gl := gl) (fl := fl) (n := n + 6) (s := s6) K.toLawX K.ldiv sP sW (by omega) wn
  have sF : Sm 418 (allP gs / allW gs) := (sm_div sP sW (Rat.ne_of_gt pw)).mono (by omega)
  have rg := div_range pw (allP_nonneg hq1) (allP_le hq1)
  -- handed
  obtain ⟨s7, n7, g7, f7, l7⟩ := newL_x (rs.map W.ref) s6
  have G7 : GsAt s7 s5.length rs gs := G6.fr0 f7
  have H7 : GsAt s7 s6.length rs gs := ⟨g7, rl, G7.2.2⟩
  obtain ⟨s8, f8, e8⟩ := sp_melted (n := n + 1) K.toMeltT H7 hq1 hq2 hne (by omega) (x := .non) (.inl ⟨rfl, rfl⟩) pw sW (by omega)
  rw [if_neg Rat.lt_irrefl] at e8
  have e8' : run T gl fl (n + 8) Str.empty "melted" [.ref s6.length] s7 = .ok (.ref s8.length) (s8 ++ [goldO (allW gs) (allP gs / allW gs)]) := (run_args (n := n + 7) (ws := [.ref s6.length]) (vs := [.ref s6.length, .non]) K.melted (by rfl)).trans e8
  generalize h9 : s8 ++ [goldO (allW gs) (allP gs / allW gs)] = s9 at e8'
  have g9 : s9[s8.length]? = some (goldO (allW gs) (allP gs / allW gs)) := by rw [← h9]; exact get_last
  have f9 : Fr (fun _ => False) s8 s9 := by rw [← h9]; exact Fr.app
  have e10 := sp_GoldX (n := n + 2) (s := s9) K.toGoldX sW sF (by omega) (by omega) pw rg.1 rg.2
  generalize h10 : s9 ++ [goldO (allW gs) (allP gs / allW gs)] = s10 at e10
  have g10 : s10[s9.length]? = some (goldO (allW gs) (allP gs / allW gs)) := by rw [← h10]; exact get_last
  have f10 : Fr (fun _ => False) s9 s10 := by rw [← h10]; exact Fr.app
  have q10 : eqoV (run T gl fl (n + 8)) true ["Gold"] (.ref s8.length) (.ref s9.length) s10 = .ok (.bl false) s10 := by
    rw [eqo_gold (n := n + 7) K.eq (f10.get g9 id) g10, decide_eq_true rfl, decide_eq_true rfl]
    rfl
  have F710 := (f8.trans f9).trans f10
  have H10 := H7.fr0 F710
  obtain ⟨s11, n11, g11, f11, l11⟩ := newL_x (rs.map W.ref).reverse s10
  have R11 := (H10.fr0 f11).rev g11
  have hr1 : ∀ p ∈ gs.reverse, 0 < p.1 ∧ 0 ≤ p.2 ∧ p.2 ≤ 1 := fun p hp => hq1 p (List.mem_reverse.mp hp)
  have hr2 : ∀ p ∈ gs.reverse, Sm 20 p.1 ∧ Sm 10 p.2 := fun p hp => hq2 p (List.mem_reverse.mp hp)
  obtain ⟨s12, f12, e12⟩ := sp_melted (n := n + 1) K.toMeltT R11 hr1 hr2 (fun z => hne (List.reverse_eq_nil_iff.mp z)) (by rw [List.length_reverse]; omega) (x := fr (allW gs)) (V := allW gs) (.inr rfl) pw sW (by omega)
  rw [allW_rev, allP_rev, if_neg Rat.lt_irrefl] at e12
  generalize h13 : s12 ++ [goldO (allW gs) (allP gs / allW gs)] = s13 at e12
  have g13 : s13[s12.length]? = some (goldO (allW gs) (allP gs / allW gs)) := by rw [← h13]; exact get_last
  have f13 : Fr (fun _ => False) s12 s13 := by rw [← h13]; exact Fr.app
  have e14 := sp_GoldX (n := n + 2) (s := s13) K.toGoldX sW sF (by omega) (by omega) pw rg.1 rg.2
  generalize h14 : s13 ++ [goldO (allW gs) (allP gs / allW gs)] = s14 at e14
  have g14 : s14[s13.length]? = some (goldO (allW gs) (allP gs / allW gs)) := by rw [← h14]; exact get_last
  have f14 : Fr (fun _ => False) s13 s14 := by rw [← h14]; exact Fr.app
  have q14 : eqoV (run T gl fl (n + 8)) true ["Gold"] (.ref s12.length) (.ref s13.length) s14 = .ok (.bl false) s14 := by
    rw [eqo_gold (n := n + 7) K.eq (f14.get g13 id) g14, decide_eq_true rfl, decide_eq_true rfl]
    rfl
  have F1014 := ((f11.trans f12).trans f13).trans f14
  have G14 := (G7.fr0 F710).fr0 F1014
  have q14b : eqoV (run T gl fl (n + 8)) true ["Gold"] (.ref s6.length) (.ref s5.length) s14 = .ok (.bl false) s14 := ne_same G14 (F1014.get H10.1 id) hne
  have b14 := ((b6.fr f7 id).fr F710 id).fr F1014 id
  -- a part
  obtain ⟨t2, s15, e15, t20, t21, b15, f15, _⟩ := sp_take (gl := gl) (fl := fl) (n := n + 7) K.toDrawT b14 (m := 9) (by omega) (by omega)
  have ef := sp_law_fracX (gl := gl) (fl := fl) (n := n + 7) (s := s15) K.toLawX (a := 1 + t2) (b := 10) (k := 4) (by omega) (by decide) (by omega)
  have sT : Sm 4 (Rat.divInt (1 + t2) 10) := sm_divInt (by omega) (by omega) (by decide)
  have pT : 0 < Rat.divInt (1 + t2) 10 := by
    rw [Rat.divInt_eq_div]
    have a2 : (0 : Rat) < ((1 + t2 : Int) : Rat) := by exact_mod_cast (show (0 : Int) < 1 + t2 by omega)
    rw [Rat.div_def]
    exact Rat.mul_pos a2 (Rat.inv_pos.mpr (by decide))
  have lT : Rat.divInt (1 + t2) 10 ≤ 1 := by
    rw [Rat.divInt_eq_div]
    have a2 : ((1 + t2 : Int) : Rat) ≤ 10 := by exact_mod_cast (show 1 + t2 ≤ 10 by omega)
    exact (div_range (p := ((1 + t2 : Int) : Rat)) (w := 10) (by decide) (by exact_mod_cast (show (0 : Int) ≤ 1 + t2 by omega)) a2).2
  have em := sp_law_mulX (gl := gl) (fl := fl) (n := n + 6) (s := s15) K.toLawX K.lmul sW sT (by omega)
  generalize hP : allW gs * Rat.divInt (1 + t2) 10 = P at em
  have pP : 0 < P := by rw [← hP]; exact Rat.mul_pos pw pT
  have lP : P ≤ allW gs := by
    have := Rat.mul_le_mul_of_nonneg_left lT (Rat.le_of_lt pw)
    rw [Rat.mul_one, hP] at this
    exact this
  have nP : ¬ allW gs < P := Rat.not_lt.mpr lP
  have sPt : Sm 173 P := by rw [← hP]; exact (sm_mul sW sT).mono (by omega)
  have G15 := G14.bag b14 f15 ne5
  obtain ⟨s16, f16, e16⟩ := sp_melted (n := n + 1) K.toMeltT G15 hq1 hq2 hne (by omega) (x := fr P) (V := P) (.inr rfl) pP sPt (by omega)
  rw [if_neg nP] at e16
  generalize h17 : s16 ++ [goldO P (allP gs / allW gs)] = s17 at e16
  have g17 : s17[s16.length]? = some (goldO P (allP gs / allW gs)) := by rw [← h17]; exact get_last
  have f17 : Fr (fun _ => False) s16 s17 := by rw [← h17]; exact Fr.app
  have e18 := sp_GoldX (n := n + 2) (s := s17) K.toGoldX sPt sF (by omega) (by omega) pP rg.1 rg.2
  generalize h18 : s17 ++ [goldO P (allP gs / allW gs)] = s18 at e18
  have g18 : s18[s17.length]? = some (goldO P (allP gs / allW gs)) := by rw [← h18]; exact get_last
  have f18 : Fr (fun _ => False) s17 s18 := by rw [← h18]; exact Fr.app
  have q18 : eqoV (run T gl fl (n + 8)) true ["Gold"] (.ref s16.length) (.ref s17.length) s18 = .ok (.bl false) s18 := by
    rw [eqo_gold (n := n + 7) K.eq (f18.get g17 id) g18, decide_eq_true rfl, decide_eq_true rfl]
    rfl
  have F1518 := (f16.trans f17).trans f18
  obtain ⟨s19, f19, e19⟩ := sp_melted (n := n + 1) K.toMeltT (G15.fr0 F1518) hq1 hq2 hne (by omega) (x := fr P) (V := P) (.inr rfl) pP sPt (by omega)
  rw [if_neg nP] at e19
  generalize h20 : s19 ++ [goldO P (allP gs / allW gs)] = s20 at e19
  have g20 : s20[s19.length]? = some (goldO P (allP gs / allW gs)) := by rw [← h20]; exact get_last
  have f20 : Fr (fun _ => False) s19 s20 := by rw [← h20]; exact Fr.app
  have ep := sp_pureX (gl := gl) (fl := fl) (n := n + 4) K.toFracX K.times K.pure g20 sPt sF (by omega)
  have em2 := sp_law_mulX (gl := gl) (fl := fl) (n := n + 6) (s := s20) K.toLawX K.lmul sPt sF (by omega)
  have b20 := (((b15.fr F1518 id).fr f19 id).fr f20 id)
  have G20 := ((G15.fr0 F1518).fr0 f19).fr0 f20
  obtain ⟨W1, s21, e21, w10, sw1, b21, f21⟩ := sp_law_weightX (gl := gl) (fl := fl) (n := n + 6) K.toDrawX b20
  have ea := sp_law_addX (gl := gl) (fl := fl) (n := n + 6) (s := s21) K.toLawX K.ladd sW sw1 (by omega)
  have lt21 : allW gs < allW gs + W1 := by grind
  obtain ⟨s22, e22, f22⟩ := sp_refused (n := n) K (G20.bag b20 f21 ne5) hq hne hl lt21 ((sm_add sW sw1).mono (by omega))
  refine ⟨s22, some (.ref s.length), some (.ref s3.length), some (.ref s5.length), some (fr (allW gs)), some (fr (allP gs)), some (fr (allP gs / allW gs)), some (.ref s6.length), some (fr P), y10, x11, ?_⟩
  rw [forF_eq, set_nm, oF_some]
  unfold k02body
  have z : W.tup [.int 0, .int 1] = fr 0 := rfl
  have fq : fits (rowsX gs).length = true := by rw [rlen]; exact fitsLe (by omega)
  have w4 : fits ((List.range m).map fun i => W.int (i : Nat)).length = true := by rw [List.length_map, List.length_range]; exact fitsLe (by omega)
  simp -implicitDefEqProofs only [E_var, E_con, E_glo, E_bin, E_neg, E_not, E_and, E_or, E_ite, E_cmp, E_ceq, E_chn, E_tup, E_lst, E_idx, E_slc, E_fld, E_call, E_meth, E_omt, E_bi, E_isi, E_iso, E_lc, L_nil, L_cons, I_val, I_rng1, rngW_int, I_zip, I_enum, T_eq, C_nil, C_asg, C_asgT, C_par, C_exp, C_ret, C_retN, C_pass, C_ifs, C_sfld, C_ssub, C_fors, bd_ok, fx_ok, sq_nx, sq_rt, oF_some, oO_some, finO_rt, finO_nx, truth_bl, cmpV_lt, cmpV_le, cmpV_gt, cmpV_ge, binV_add, binV_sub, idx2_0, idx2_1, idx_fr0, idx_fr1, biV_abs, getO_0, getO_s, set_0, set_s, reduceIte, Bool.not_true, Bool.not_false, Bool.false_eq_true, List.length_cons, List.length_nil, fits0, fits1, fits2, fits3, fits4, fits5, fits6, fits7, fits8, E_fst, J_nil, J_cons, E_fmt, E_ostr, C_rse, C_tryx, fx_exc, bd_exc, sq_exc, finO_exc, trH_nx, trH_rt, trH_exc, oX_some, strO_str, e1, e2, hm, rngAt (show m < 1000 by omega), w4]
  have e3' : lcL _ (lcF ⟨run T gl fl (n + 8), gl, fl⟩ _ _ _ _) _ _ = _ := e3
  rw [e3']
  simp -implicitDefEqProofs only [E_var, E_con, E_glo, E_bin, E_neg, E_not, E_and, E_or, E_ite, E_cmp, E_ceq, E_chn, E_tup, E_lst, E_idx, E_slc, E_fld, E_call, E_meth, E_omt, E_bi, E_isi, E_iso, E_lc, L_nil, L_cons, I_val, I_rng1, rngW_int, I_zip, I_enum, T_eq, C_nil, C_asg, C_asgT, C_par, C_exp, C_ret, C_retN, C_pass, C_ifs, C_sfld, C_ssub, C_fors, bd_ok, fx_ok, sq_nx, sq_rt, oF_some, oO_some, finO_rt, finO_nx, truth_bl, cmpV_lt, cmpV_le, cmpV_gt, cmpV_ge, binV_add, binV_sub, idx2_0, idx2_1, idx_fr0, idx_fr1, biV_abs, getO_0, getO_s, set_0, set_s, reduceIte, Bool.not_true, Bool.not_false, Bool.false_eq_true, List.length_cons, List.length_nil, fits0, fits1, fits2, fits3, fits4, fits5, fits6, fits7, fits8, E_fst, J_nil, J_cons, E_fmt, E_ostr, C_rse, C_tryx, fx_exc, bd_exc, sq_exc, finO_exc, trH_nx, trH_rt, trH_exc, oX_some, strO_str, n4, srcAt g4, fq]
  have e5' : lcL _ (lcF ⟨run T gl fl (n + 8), gl, fl⟩ _ _ _ _) _ _ = _ := e5
  rw [e5']
  simp -implicitDefEqProofs only [E_var, E_con, E_glo, E_bin, E_neg, E_not, E_and, E_or, E_ite, E_cmp, E_ceq, E_chn, E_tup, E_lst, E_idx, E_slc, E_fld, E_call, E_meth, E_omt, E_bi, E_isi, E_iso, E_lc, L_nil, L_cons, I_val, I_rng1, rngW_int, I_zip, I_enum, T_eq, C_nil, C_asg, C_asgT, C_par, C_exp, C_ret, C_retN, C_pass, C_ifs, C_sfld, C_ssub, C_fors, bd_ok, fx_ok, sq_nx, sq_rt, oF_some, oO_some, finO_rt, finO_nx, truth_bl, cmpV_lt, cmpV_le, cmpV_gt, cmpV_ge, binV_add, binV_sub, idx2_0, idx2_1, idx_fr0, idx_fr1, biV_abs, getO_0, getO_s, set_0, set_s, reduceIte, Bool.not_true, Bool.not_false, Bool.false_eq_true, List.length_cons, List.length_nil, fits0, fits1, fits2, fits3, fits4, fits5, fits6, fits7, fits8, E_fst, J_nil, J_cons, E_fmt, E_ostr, C_rse, C_tryx, fx_exc, bd_exc, sq_exc, finO_exc, trH_nx, trH_rt, trH_exc, oX_some, strO_str, n6, z, srcAt g46]
  have e7' : forL _ (forF _ _ (.cons _ (.cons _ .nil))) _ _ _ = _ := e7
  rw [e7', sq_nx, er7]
  simp -implicitDefEqProofs only [E_var, E_con, E_glo, E_bin, E_neg, E_not, E_and, E_or, E_ite, E_cmp, E_ceq, E_chn, E_tup, E_lst, E_idx, E_slc, E_fld, E_call, E_meth, E_omt, E_bi, E_isi, E_iso, E_lc, L_nil, L_cons, I_val, I_rng1, rngW_int, I_zip, I_enum, T_eq, C_nil, C_asg, C_asgT, C_par, C_exp, C_ret, C_retN, C_pass, C_ifs, C_sfld, C_ssub, C_fors, bd_ok, fx_ok, sq_nx, sq_rt, oF_some, oO_some, finO_rt, finO_nx, truth_bl, cmpV_lt, cmpV_le, cmpV_gt, cmpV_ge, binV_add, binV_sub, idx2_0, idx2_1, idx_fr0, idx_fr1, biV_abs, getO_0, getO_s, set_0, set_s, reduceIte, Bool.not_true, Bool.not_false, Bool.false_eq_true, List.length_cons, List.length_nil, fits0, fits1, fits2, fits3, fits4, fits5, fits6, fits7, fits8, E_fst, J_nil, J_cons, E_fmt, E_ostr, C_rse, C_tryx, fx_exc, bd_exc, sq_exc, finO_exc, trH_nx, trH_rt, trH_exc, oX_some, strO_str, E_rev, ed, list_at G6.1, n7, e8', e10, q10, rev_at H10.1, n11, e12, e14, q14, q14b, e15, ef, em, e16, e18, q18, e19, own_pure g20, ep, em2, cmpV_neF, decide_true, eq_self, e21, ea, e22]
theorem k02_law (K : K02T T gl fl) (ns : List Int) (hn : ns.length ≤ 63) : ∃ s', runB ⟨run T gl fl (n + 8), gl, fl⟩ Vt.x_law [.scr ns] s = .ok (.bl true) s' := by
  let D : Wd := ⟨run T gl fl (n + 8), gl, fl⟩
  generalize hm : (if ns.length < 30 then ns.length else 30) + 2 = m
  have m0 : m < 1000 := by split at hm <;> omega
  obtain ⟨r', s', e, x1, x2, x3, x4, x5, x6, x7, x8, x9, x10, x11, er⟩ := for_ixn (ok := Src.ok ⟨(List.range m).map fun i => W.int (i : Nat), []⟩) (f := forF D (.nm 1) k02body) (items := (List.range m).map fun i => W.int (i : Nat)) (s := s) (r := [some (.scr ns), none, none, none, none, none, none, none, none, none, none, none])
    (fun _ r _ => ∃ x1 x2 x3 x4 x5 x6 x7 x8 x9 x10 x11, r = [some (.scr ns), x1, x2, x3, x4, x5, x6, x7, x8, x9, x10, x11]) (fun _ _ _ _ p hp => by cases hp)
    (fun k x r s1 hx ⟨x1, x2, x3, x4, x5, x6, x7, x8, x9, x10, x11, er⟩ => by
      subst er
      rw [List.getElem?_map] at hx
      obtain ⟨j, ej, rfl⟩ := Option.map_eq_some_iff.mp hx
      have jm := List.mem_range.mp (List.mem_of_getElem? ej)
      obtain ⟨s2, y2, y3, y4, y5, y6, y7, y8, y9, y10, y11, e⟩ := k02_turn (n := n) (s := s1) K ns j (by omega) x1 x2 x3 x4 x5 x6 x7 x8 x9 x10 x11
      exact ⟨_, s2, e, _, _, _, _, _, _, _, _, _, _, _, rfl⟩)
    ⟨_, _, _, _, _, _, _, _, _, _, _, rfl⟩
  refine ⟨s', runB_rt ?_⟩
  have em : (if (30 : Int) < (ns.length : Int) then (30 : Int) else (ns.length : Int)) + 2 = ((m : Nat) : Int) := by
    rw [← hm]
    split <;> split <;> omega
  have mi : biV .min [.int ns.length, .int 30] s = .ok (.int (if (30 : Int) < (ns.length : Int) then 30 else (ns.length : Int))) s := rfl
  show denB D (.cons (.fors (.nm 1) _ k02body) (.cons _ .nil)) [some (.scr ns), none, none, none, none, none, none, none, none, none, none, none] s = _
  simp -implicitDefEqProofs only [E_var, E_con, E_glo, E_bin, E_neg, E_not, E_and, E_or, E_ite, E_cmp, E_ceq, E_chn, E_tup, E_lst, E_idx, E_slc, E_fld, E_call, E_meth, E_omt, E_bi, E_isi, E_iso, E_lc, L_nil, L_cons, I_val, I_rng1, rngW_int, I_zip, I_enum, T_eq, C_nil, C_asg, C_asgT, C_par, C_exp, C_ret, C_retN, C_pass, C_ifs, C_sfld, C_ssub, C_fors, bd_ok, fx_ok, sq_nx, sq_rt, oF_some, oO_some, finO_rt, finO_nx, truth_bl, cmpV_lt, cmpV_le, cmpV_gt, cmpV_ge, binV_add, binV_sub, idx2_0, idx2_1, idx_fr0, idx_fr1, biV_abs, getO_0, getO_s, set_0, set_s, reduceIte, Bool.not_true, Bool.not_false, Bool.false_eq_true, List.length_cons, List.length_nil, fits0, fits1, fits2, fits3, fits4, fits5, fits6, fits7, fits8, E_fst, J_nil, J_cons, E_fmt, E_ostr, C_rse, C_tryx, fx_exc, bd_exc, sq_exc, finO_exc, trH_nx, trH_rt, trH_exc, oX_some, strO_str, len_scr, mi, em, rngAt m0]
  rw [e, sq_nx]
  simp -implicitDefEqProofs only [E_var, E_con, E_glo, E_bin, E_neg, E_not, E_and, E_or, E_ite, E_cmp, E_ceq, E_chn, E_tup, E_lst, E_idx, E_slc, E_fld, E_call, E_meth, E_omt, E_bi, E_isi, E_iso, E_lc, L_nil, L_cons, I_val, I_rng1, rngW_int, I_zip, I_enum, T_eq, C_nil, C_asg, C_asgT, C_par, C_exp, C_ret, C_retN, C_pass, C_ifs, C_sfld, C_ssub, C_fors, bd_ok, fx_ok, sq_nx, sq_rt, oF_some, oO_some, finO_rt, finO_nx, truth_bl, cmpV_lt, cmpV_le, cmpV_gt, cmpV_ge, binV_add, binV_sub, idx2_0, idx2_1, idx_fr0, idx_fr1, biV_abs, getO_0, getO_s, set_0, set_s, reduceIte, Bool.not_true, Bool.not_false, Bool.false_eq_true, List.length_cons, List.length_nil, fits0, fits1, fits2, fits3, fits4, fits5, fits6, fits7, fits8, E_fst, J_nil, J_cons, E_fmt, E_ostr, C_rse, C_tryx, fx_exc, bd_exc, sq_exc, finO_exc, trH_nx, trH_rt, trH_exc, oX_some, strO_str]
end
end Vm
set_option Elab.async false
set_option linter.all false
set_option maxRecDepth 100000
set_option maxHeartbeats 0
/-! The head of this law, printed by gen.py. -/
namespace Vh
open PySem PySem.Spec PyProof.Rows L2 Vm Vt
def top (i : Nat) : Stmt := PySem.Challenge.pw_goldslips_k02_whole_gold_melted.main.body.getD i (.Pass ⟨0, 0, 0, 0⟩)
def h_common : He.DefD := ⟨("common", none), "common", "common", defArgs (top 15), defBody (top 15), defScope (top 15), [], []⟩
def h_fraction : He.DefD := ⟨("fraction", none), "fraction", "fraction", defArgs (top 16), defBody (top 16), defScope (top 16), [], []⟩
def h_plus : He.DefD := ⟨("plus", none), "plus", "plus", defArgs (top 17), defBody (top 17), defScope (top 17), [], []⟩
def h_times : He.DefD := ⟨("times", none), "times", "times", defArgs (top 18), defBody (top 18), defScope (top 18), [], []⟩
def h_over : He.DefD := ⟨("over", none), "over", "over", defArgs (top 19), defBody (top 19), defScope (top 19), [], []⟩
def h_less : He.DefD := ⟨("less", none), "less", "less", defArgs (top 20), defBody (top 20), defScope (top 20), [], []⟩
def h_is_whole : He.DefD := ⟨("is_whole", none), "is_whole", "is_whole", defArgs (top 21), defBody (top 21), defScope (top 21), [], []⟩
def h_is_fraction : He.DefD := ⟨("is_fraction", none), "is_fraction", "is_fraction", defArgs (top 22), defBody (top 22), defScope (top 22), [], []⟩
def h_total : He.DefD := ⟨("total", none), "total", "total", defArgs (top 23), defBody (top 23), defScope (top 23), [], []⟩
def h_is_weight : He.DefD := ⟨("is_weight", none), "is_weight", "is_weight", defArgs (top 27), defBody (top 27), defScope (top 27), [], []⟩
def h_is_fineness : He.DefD := ⟨("is_fineness", none), "is_fineness", "is_fineness", defArgs (top 28), defBody (top 28), defScope (top 28), [], []⟩
def h_Gold_init : He.DefD := ⟨("Gold", some "__init__"), "__init__", "Gold.__init__", defArgs (inClass (top 29) 0), defBody (inClass (top 29) 0), defScope (inClass (top 29) 0), [], []⟩
def h_Gold_eq : He.DefD := ⟨("Gold", some "__eq__"), "__eq__", "Gold.__eq__", defArgs (inClass (top 29) 1), defBody (inClass (top 29) 1), defScope (inClass (top 29) 1), [], []⟩
def h_Gold_pure : He.DefD := ⟨("Gold", some "pure"), "pure", "Gold.pure", defArgs (inClass (top 29) 3), defBody (inClass (top 29) 3), defScope (inClass (top 29) 3), [], []⟩
def h_melted : He.DefD := ⟨("melted", none), "melted", "melted", defArgs (top 30), defBody (top 30), defScope (top 30), [.non], []⟩
def h__law_bag : He.DefD := ⟨("_law_bag", none), "_law_bag", "_law_bag", defArgs (top 32), defBody (top 32), defScope (top 32), [], []⟩
def h__law_take : He.DefD := ⟨("_law_take", none), "_law_take", "_law_take", defArgs (top 33), defBody (top 33), defScope (top 33), [], []⟩
def h__law_frac : He.DefD := ⟨("_law_frac", none), "_law_frac", "_law_frac", defArgs (top 34), defBody (top 34), defScope (top 34), [], []⟩
def h__law_weight : He.DefD := ⟨("_law_weight", none), "_law_weight", "_law_weight", defArgs (top 35), defBody (top 35), defScope (top 35), [], []⟩
def h__law_fine : He.DefD := ⟨("_law_fine", none), "_law_fine", "_law_fine", defArgs (top 36), defBody (top 36), defScope (top 36), [], []⟩
def h__law_add : He.DefD := ⟨("_law_add", none), "_law_add", "_law_add", defArgs (top 37), defBody (top 37), defScope (top 37), [], []⟩
def h__law_mul : He.DefD := ⟨("_law_mul", none), "_law_mul", "_law_mul", defArgs (top 39), defBody (top 39), defScope (top 39), [], []⟩
def h__law_div : He.DefD := ⟨("_law_div", none), "_law_div", "_law_div", defArgs (top 40), defBody (top 40), defScope (top 40), [], []⟩
def h__law_refused : He.DefD := ⟨("_law_refused", none), "_law_refused", "_law_refused", defArgs (top 43), defBody (top 43), defScope (top 43), [], []⟩
def h_law : He.DefD := ⟨("law", none), "law", "law", defArgs (top 44), defBody (top 44), defScope (top 44), [], []⟩
def h__law_kinds : He.DefD := ⟨("_law_kinds", none), "_law_kinds", "_law_kinds", defArgs (top 42), defBody (top 42), defScope (top 42), [], []⟩
def h_NoGold_init : He.DefD := ⟨("NoGold", some "__init__"), "__init__", "NoGold.__init__", defArgs (inClass (top 4) 0), defBody (inClass (top 4) 0), defScope (inClass (top 4) 0), [], []⟩
def h_NoRing_init : He.DefD := ⟨("NoRing", some "__init__"), "__init__", "NoRing.__init__", defArgs (inClass (top 6) 0), defBody (inClass (top 6) 0), defScope (inClass (top 6) 0), [], []⟩
def h_Twice_init : He.DefD := ⟨("Twice", some "__init__"), "__init__", "Twice.__init__", defArgs (inClass (top 8) 0), defBody (inClass (top 8) 0), defScope (inClass (top 8) 0), [], []⟩
def h_NoText_init : He.DefD := ⟨("NoText", some "__init__"), "__init__", "NoText.__init__", defArgs (inClass (top 12) 0), defBody (inClass (top 12) 0), defScope (inClass (top 12) 0), [.non], []⟩
def hfn : List He.DefD := [h_common, h_fraction, h_plus, h_times, h_over, h_less, h_is_whole, h_is_fraction, h_total, h_is_weight, h_is_fineness, h_Gold_init, h_Gold_eq, h_Gold_pure, h_melted, h__law_bag, h__law_take, h__law_frac, h__law_weight, h__law_fine, h__law_add, h__law_mul, h__law_div, h__law_refused, h_law, h__law_kinds, h_NoGold_init, h_NoRing_init, h_Twice_init, h_NoText_init]
abbrev xF : List Str := (["common", "fraction", "plus", "times", "over", "less", "is_whole", "is_fraction", "total", "is_weight", "is_fineness", "melted", "_law_bag", "_law_take", "_law_frac", "_law_weight", "_law_fine", "_law_add", "_law_mul", "_law_div", "_law_refused", "law", "_law_kinds"] : List PySem.Str)
abbrev xC : List Str := ["Gold"]
abbrev xA : List (Str × Str) := [("Gold", "weight"), ("Gold", "fineness")]
abbrev xM : List (Str × Str) := [("Gold", "__eq__"), ("Gold", "pure")]
abbrev xI : List (Str × Int) := []
abbrev xS : List (Str × Str) := []
abbrev xT : TpF := ⟨[("ONE", [.int 1, .int 1])], [.ne "Gold", .isi "Gold", .pr "Gold" "Gold"] ++ xExs ["GoldError"]⟩
def fa : List He.Fa := faOf xF bin xC xA xM xI xS
abbrev R : PySem.W.OpenRow := PySem.W.OpenLaw.row PySem.Challenge.rw_goldslips_k02_whole_gold_melted
abbrev hk : PySem.W.Hook := hookV 6 fa xT hfn
def ob (s : PySem.W.SharedT) : He.AlD := obsVG 6 fa xT hfn (HandSHeadRun.getT s)
theorem ob_eq (s : PySem.W.SharedT) : ob s = hk.obs s.abs := obsVG_eq (HandSHeadRun.getT_eq s)
def names : List PySem.Str := (["GoldError", "MadeError", "BookError", "NoGold", "NoWeight", "NoRing", "NoSlip", "Twice", "TooMany", "NotThere", "Nothing", "NoText", "NoRow", "common", "fraction", "plus", "times", "over", "less", "is_whole", "is_fraction", "total", "ONE", "fraction_text", "is_weight", "is_fineness", "Gold", "melted", "_law_bag", "_law_take"] : List PySem.Str) ++ (["_law_frac", "_law_weight", "_law_fine", "_law_add", "_law_sub", "_law_mul", "_law_div", "_law_less", "_law_kinds", "_law_refused"] : List PySem.Str)
theorem run (w : World) : HandSHeadRun.RunEq R (PySem.W.view R.prog [44]) hk ob 1000000 names w := by
  intro os
  kernel_rfl
section
variable {K : Fg} {mg : Mg} {h : Heap}
theorem e_common (c : SaysV fa xT hfn K) : ∃ fd, (∀ (s : Shared) (us : List Value), us.length = ["one", "other"].length → BindsTo s fd ⟨us, []⟩ ((["one", "other"] : List Str).zip us)) ∧ PySem.W.keepIn K (.ref (He.fAd K ("common", none))) = true ∧ DefE K tb (He.fAd K ("common", none)) fd ["one", "other"] x_common := defE_none (T := tb) (ps := ["one", "other"]) (d := x_common) (N := ["one", "other"]) (fuel := 60) (dd := h_common) c (i := 0) rfl rfl ⟨rfl, rfl, rfl, by decide +kernel, rfl, by decide +kernel, by decide +kernel⟩ rfl rfl rfl (by decide +kernel) (fun _ _ _ _ _ _ us hl => match us, hl with | [_, _], _ => rfl)
theorem e_fraction (c : SaysV fa xT hfn K) : ∃ fd, (∀ (s : Shared) (us : List Value), us.length = ["top", "bottom"].length → BindsTo s fd ⟨us, []⟩ ((["top", "bottom"] : List Str).zip us)) ∧ PySem.W.keepIn K (.ref (He.fAd K ("fraction", none))) = true ∧ DefE K tb (He.fAd K ("fraction", none)) fd ["top", "bottom"] x_fraction := defE_none (T := tb) (ps := ["top", "bottom"]) (d := x_fraction) (N := ["top", "bottom", "by"]) (fuel := 60) (dd := h_fraction) c (i := 1) rfl rfl ⟨rfl, rfl, rfl, by decide +kernel, rfl, by decide +kernel, by decide +kernel⟩ rfl rfl rfl (by decide +kernel) (fun _ _ _ _ _ _ us hl => match us, hl with | [_, _], _ => rfl)
theorem e_plus (c : SaysV fa xT hfn K) : ∃ fd, (∀ (s : Shared) (us : List Value), us.length = ["one", "other"].length → BindsTo s fd ⟨us, []⟩ ((["one", "other"] : List Str).zip us)) ∧ PySem.W.keepIn K (.ref (He.fAd K ("plus", none))) = true ∧ DefE K tb (He.fAd K ("plus", none)) fd ["one", "other"] x_plus := defE_none (T := tb) (ps := ["one", "other"]) (d := x_plus) (N := ["one", "other"]) (fuel := 60) (dd := h_plus) c (i := 2) rfl rfl ⟨rfl, rfl, rfl, by decide +kernel, rfl, by decide +kernel, by decide +kernel⟩ rfl rfl rfl (by decide +kernel) (fun _ _ _ _ _ _ us hl => match us, hl with | [_, _], _ => rfl)
theorem e_times (c : SaysV fa xT hfn K) : ∃ fd, (∀ (s : Shared) (us : List Value), us.length = ["one", "other"].length → BindsTo s fd ⟨us, []⟩ ((["one", "other"] : List Str).zip us)) ∧ PySem.W.keepIn K (.ref (He.fAd K ("times", none))) = true ∧ DefE K tb (He.fAd K ("times", none)) fd ["one", "other"] x_times := defE_none (T := tb) (ps := ["one", "other"]) (d := x_times) (N := ["one", "other"]) (fuel := 60) (dd := h_times) c (i := 3) rfl rfl ⟨rfl, rfl, rfl, by decide +kernel, rfl, by decide +kernel, by decide +kernel⟩ rfl rfl rfl (by decide +kernel) (fun _ _ _ _ _ _ us hl => match us, hl with | [_, _], _ => rfl)
theorem e_over (c : SaysV fa xT hfn K) : ∃ fd, (∀ (s : Shared) (us : List Value), us.length = ["one", "other"].length → BindsTo s fd ⟨us, []⟩ ((["one", "other"] : List Str).zip us)) ∧ PySem.W.keepIn K (.ref (He.fAd K ("over", none))) = true ∧ DefE K tb (He.fAd K ("over", none)) fd ["one", "other"] x_over := defE_none (T := tb) (ps := ["one", "other"]) (d := x_over) (N := ["one", "other"]) (fuel := 60) (dd := h_over) c (i := 4) rfl rfl ⟨rfl, rfl, rfl, by decide +kernel, rfl, by decide +kernel, by decide +kernel⟩ rfl rfl rfl (by decide +kernel) (fun _ _ _ _ _ _ us hl => match us, hl with | [_, _], _ => rfl)
theorem e_less (c : SaysV fa xT hfn K) : ∃ fd, (∀ (s : Shared) (us : List Value), us.length = ["one", "other"].length → BindsTo s fd ⟨us, []⟩ ((["one", "other"] : List Str).zip us)) ∧ PySem.W.keepIn K (.ref (He.fAd K ("less", none))) = true ∧ DefE K tb (He.fAd K ("less", none)) fd ["one", "other"] x_less := defE_none (T := tb) (ps := ["one", "other"]) (d := x_less) (N := ["one", "other"]) (fuel := 60) (dd := h_less) c (i := 5) rfl rfl ⟨rfl, rfl, rfl, by decide +kernel, rfl, by decide +kernel, by decide +kernel⟩ rfl rfl rfl (by decide +kernel) (fun _ _ _ _ _ _ us hl => match us, hl with | [_, _], _ => rfl)
theorem e_is_whole (c : SaysV fa xT hfn K) : ∃ fd, (∀ (s : Shared) (us : List Value), us.length = ["thing"].length → BindsTo s fd ⟨us, []⟩ ((["thing"] : List Str).zip us)) ∧ PySem.W.keepIn K (.ref (He.fAd K ("is_whole", none))) = true ∧ DefE K tb (He.fAd K ("is_whole", none)) fd ["thing"] x_is_whole := defE_none (T := tb) (ps := ["thing"]) (d := x_is_whole) (N := ["thing"]) (fuel := 60) (dd := h_is_whole) c (i := 6) rfl rfl ⟨rfl, rfl, rfl, by decide +kernel, rfl, by decide +kernel, by decide +kernel⟩ rfl rfl rfl (by decide +kernel) (fun _ _ _ _ _ _ us hl => match us, hl with | [_], _ => rfl)
theorem e_is_fraction (c : SaysV fa xT hfn K) : ∃ fd, (∀ (s : Shared) (us : List Value), us.length = ["thing"].length → BindsTo s fd ⟨us, []⟩ ((["thing"] : List Str).zip us)) ∧ PySem.W.keepIn K (.ref (He.fAd K ("is_fraction", none))) = true ∧ DefE K tb (He.fAd K ("is_fraction", none)) fd ["thing"] x_is_fraction := defE_none (T := tb) (ps := ["thing"]) (d := x_is_fraction) (N := ["thing"]) (fuel := 60) (dd := h_is_fraction) c (i := 7) rfl rfl ⟨rfl, rfl, rfl, by decide +kernel, rfl, by decide +kernel, by decide +kernel⟩ rfl rfl rfl (by decide +kernel) (fun _ _ _ _ _ _ us hl => match us, hl with | [_], _ => rfl)
theorem e_total (c : SaysV fa xT hfn K) : ∃ fd, (∀ (s : Shared) (us : List Value), us.length = ["some"].length → BindsTo s fd ⟨us, []⟩ ((["some"] : List Str).zip us)) ∧ PySem.W.keepIn K (.ref (He.fAd K ("total", none))) = true ∧ DefE K tb (He.fAd K ("total", none)) fd ["some"] x_total := defE_none (T := tb) (ps := ["some"]) (d := x_total) (N := ["some", "found", "one"]) (fuel := 60) (dd := h_total) c (i := 8) rfl rfl ⟨rfl, rfl, rfl, by decide +kernel, rfl, by decide +kernel, by decide +kernel⟩ rfl rfl rfl (by decide +kernel) (fun _ _ _ _ _ _ us hl => match us, hl with | [_], _ => rfl)
theorem e_is_weight (c : SaysV fa xT hfn K) : ∃ fd, (∀ (s : Shared) (us : List Value), us.length = ["thing"].length → BindsTo s fd ⟨us, []⟩ ((["thing"] : List Str).zip us)) ∧ PySem.W.keepIn K (.ref (He.fAd K ("is_weight", none))) = true ∧ DefE K tb (He.fAd K ("is_weight", none)) fd ["thing"] x_is_weight := defE_none (T := tb) (ps := ["thing"]) (d := x_is_weight) (N := ["thing"]) (fuel := 60) (dd := h_is_weight) c (i := 9) rfl rfl ⟨rfl, rfl, rfl, by decide +kernel, rfl, by decide +kernel, by decide +kernel⟩ rfl rfl rfl (by decide +kernel) (fun _ _ _ _ _ _ us hl => match us, hl with | [_], _ => rfl)
theorem e_is_fineness (c : SaysV fa xT hfn K) : ∃ fd, (∀ (s : Shared) (us : List Value), us.length = ["thing"].length → BindsTo s fd ⟨us, []⟩ ((["thing"] : List Str).zip us)) ∧ PySem.W.keepIn K (.ref (He.fAd K ("is_fineness", none))) = true ∧ DefE K tb (He.fAd K ("is_fineness", none)) fd ["thing"] x_is_fineness := defE_none (T := tb) (ps := ["thing"]) (d := x_is_fineness) (N := ["thing"]) (fuel := 60) (dd := h_is_fineness) c (i := 10) rfl rfl ⟨rfl, rfl, rfl, by decide +kernel, rfl, by decide +kernel, by decide +kernel⟩ rfl rfl rfl (by decide +kernel) (fun _ _ _ _ _ _ us hl => match us, hl with | [_], _ => rfl)
theorem e_Gold_init (c : SaysV fa xT hfn K) : ∃ fd, (∀ (s : Shared) (us : List Value), us.length = ["self", "weight", "fineness"].length → BindsTo s fd ⟨us, []⟩ ((["self", "weight", "fineness"] : List Str).zip us)) ∧ PySem.W.keepIn K (.ref (He.fAd K ("Gold", some "__init__"))) = true ∧ DefE K tb (He.fAd K ("Gold", some "__init__")) fd ["self", "weight", "fineness"] x_Gold_init := defE_none (T := tb) (ps := ["self", "weight", "fineness"]) (d := x_Gold_init) (N := ["self", "weight", "fineness"]) (fuel := 60) (dd := h_Gold_init) c (i := 11) rfl rfl ⟨rfl, rfl, rfl, by decide +kernel, rfl, by decide +kernel, by decide +kernel⟩ rfl rfl rfl (by decide +kernel) (fun _ _ _ _ _ _ us hl => match us, hl with | [_, _, _], _ => rfl)
theorem e_Gold_eq (c : SaysV fa xT hfn K) : ∃ fd, (∀ (s : Shared) (us : List Value), us.length = ["self", "other"].length → BindsTo s fd ⟨us, []⟩ ((["self", "other"] : List Str).zip us)) ∧ PySem.W.keepIn K (.ref (He.fAd K ("Gold", some "__eq__"))) = true ∧ DefE K tb (He.fAd K ("Gold", some "__eq__")) fd ["self", "other"] x_Gold_eq := defE_none (T := tb) (ps := ["self", "other"]) (d := x_Gold_eq) (N := ["self", "other"]) (fuel := 60) (dd := h_Gold_eq) c (i := 12) rfl rfl ⟨rfl, rfl, rfl, by decide +kernel, rfl, by decide +kernel, by decide +kernel⟩ rfl rfl rfl (by decide +kernel) (fun _ _ _ _ _ _ us hl => match us, hl with | [_, _], _ => rfl)
theorem e_Gold_pure (c : SaysV fa xT hfn K) : ∃ fd, (∀ (s : Shared) (us : List Value), us.length = ["self"].length → BindsTo s fd ⟨us, []⟩ ((["self"] : List Str).zip us)) ∧ PySem.W.keepIn K (.ref (He.fAd K ("Gold", some "pure"))) = true ∧ DefE K tb (He.fAd K ("Gold", some "pure")) fd ["self"] x_Gold_pure := defE_none (T := tb) (ps := ["self"]) (d := x_Gold_pure) (N := ["self"]) (fuel := 60) (dd := h_Gold_pure) c (i := 13) rfl rfl ⟨rfl, rfl, rfl, by decide +kernel, rfl, by decide +kernel, by decide +kernel⟩ rfl rfl rfl (by decide +kernel) (fun _ _ _ _ _ _ us hl => match us, hl with | [_], _ => rfl)
theorem e_melted (c : SaysV fa xT hfn K) : ∃ fd, True ∧ PySem.W.keepIn K (.ref (He.fAd K ("melted", none))) = true ∧ DefE K tb (He.fAd K ("melted", none)) fd ["golds", "weight"] x_melted := by
  refine defE_some (T := tb) (ps := ["golds", "weight"]) (d := x_melted) (N := ["golds", "weight", "whole", "pure", "gold"]) (fuel := 60) (dd := h_melted) c (i := 14) rfl (dv := [.non]) (fun _ => rfl) (by simp) rfl ⟨rfl, rfl, rfl, by decide +kernel, rfl, by decide +kernel, by decide +kernel⟩ rfl rfl (by decide) (by decide +kernel) ?_
  · intro k hk T kV doc pm an cdv ct us its hu hi
    have hk2 : k = 0 ∨ k = 1 := by have : k ≤ 1 := hk; omega
    rcases hk2 with rfl | rfl
    · have hu : us.length = 1 := hu
      have hi : its.length = 1 := hi
      match us, its, hu, hi with
      | [_], [_], _, _ => exact ⟨_, rfl, rfl⟩
    · have hu : us.length = 2 := hu
      have hi : its.length = 1 := hi
      match us, its, hu, hi with
      | [_, _], [_], _, _ => exact ⟨_, rfl, rfl⟩
theorem e__law_bag (c : SaysV fa xT hfn K) : ∃ fd, (∀ (s : Shared) (us : List Value), us.length = ["_law_script", "_law_k"].length → BindsTo s fd ⟨us, []⟩ ((["_law_script", "_law_k"] : List Str).zip us)) ∧ PySem.W.keepIn K (.ref (He.fAd K ("_law_bag", none))) = true ∧ DefE K tb (He.fAd K ("_law_bag", none)) fd ["_law_script", "_law_k"] x__law_bag := defE_none (T := tb) (ps := ["_law_script", "_law_k"]) (d := x__law_bag) (N := ["_law_script", "_law_k", "_law_cell", "_law_seed"]) (fuel := 60) (dd := h__law_bag) c (i := 15) rfl rfl ⟨rfl, rfl, rfl, by decide +kernel, rfl, by decide +kernel, by decide +kernel⟩ rfl rfl rfl (by decide +kernel) (fun _ _ _ _ _ _ us hl => match us, hl with | [_, _], _ => rfl)
theorem e__law_take (c : SaysV fa xT hfn K) : ∃ fd, (∀ (s : Shared) (us : List Value), us.length = ["_law_bag_here", "_law_many"].length → BindsTo s fd ⟨us, []⟩ ((["_law_bag_here", "_law_many"] : List Str).zip us)) ∧ PySem.W.keepIn K (.ref (He.fAd K ("_law_take", none))) = true ∧ DefE K tb (He.fAd K ("_law_take", none)) fd ["_law_bag_here", "_law_many"] x__law_take := defE_none (T := tb) (ps := ["_law_bag_here", "_law_many"]) (d := x__law_take) (N := ["_law_bag_here", "_law_many", "_law_found"]) (fuel := 60) (dd := h__law_take) c (i := 16) rfl rfl ⟨rfl, rfl, rfl, by decide +kernel, rfl, by decide +kernel, by decide +kernel⟩ rfl rfl rfl (by decide +kernel) (fun _ _ _ _ _ _ us hl => match us, hl with | [_, _], _ => rfl)
theorem e__law_frac (c : SaysV fa xT hfn K) : ∃ fd, (∀ (s : Shared) (us : List Value), us.length = ["_law_top", "_law_bottom"].length → BindsTo s fd ⟨us, []⟩ ((["_law_top", "_law_bottom"] : List Str).zip us)) ∧ PySem.W.keepIn K (.ref (He.fAd K ("_law_frac", none))) = true ∧ DefE K tb (He.fAd K ("_law_frac", none)) fd ["_law_top", "_law_bottom"] x__law_frac := defE_none (T := tb) (ps := ["_law_top", "_law_bottom"]) (d := x__law_frac) (N := ["_law_top", "_law_bottom", "_law_by", "_law_one", "_law_other"]) (fuel := 60) (dd := h__law_frac) c (i := 17) rfl rfl ⟨rfl, rfl, rfl, by decide +kernel, rfl, by decide +kernel, by decide +kernel⟩ rfl rfl rfl (by decide +kernel) (fun _ _ _ _ _ _ us hl => match us, hl with | [_, _], _ => rfl)
theorem e__law_weight (c : SaysV fa xT hfn K) : ∃ fd, (∀ (s : Shared) (us : List Value), us.length = ["_law_bag_here"].length → BindsTo s fd ⟨us, []⟩ ((["_law_bag_here"] : List Str).zip us)) ∧ PySem.W.keepIn K (.ref (He.fAd K ("_law_weight", none))) = true ∧ DefE K tb (He.fAd K ("_law_weight", none)) fd ["_law_bag_here"] x__law_weight := defE_none (T := tb) (ps := ["_law_bag_here"]) (d := x__law_weight) (N := ["_law_bag_here", "_law_far"]) (fuel := 60) (dd := h__law_weight) c (i := 18) rfl rfl ⟨rfl, rfl, rfl, by decide +kernel, rfl, by decide +kernel, by decide +kernel⟩ rfl rfl rfl (by decide +kernel) (fun _ _ _ _ _ _ us hl => match us, hl with | [_], _ => rfl)
theorem e__law_fine (c : SaysV fa xT hfn K) : ∃ fd, (∀ (s : Shared) (us : List Value), us.length = ["_law_bag_here"].length → BindsTo s fd ⟨us, []⟩ ((["_law_bag_here"] : List Str).zip us)) ∧ PySem.W.keepIn K (.ref (He.fAd K ("_law_fine", none))) = true ∧ DefE K tb (He.fAd K ("_law_fine", none)) fd ["_law_bag_here"] x__law_fine := defE_none (T := tb) (ps := ["_law_bag_here"]) (d := x__law_fine) (N := ["_law_bag_here", "_law_bottom"]) (fuel := 60) (dd := h__law_fine) c (i := 19) rfl rfl ⟨rfl, rfl, rfl, by decide +kernel, rfl, by decide +kernel, by decide +kernel⟩ rfl rfl rfl (by decide +kernel) (fun _ _ _ _ _ _ us hl => match us, hl with | [_], _ => rfl)
theorem e__law_add (c : SaysV fa xT hfn K) : ∃ fd, (∀ (s : Shared) (us : List Value), us.length = ["_law_one", "_law_other"].length → BindsTo s fd ⟨us, []⟩ ((["_law_one", "_law_other"] : List Str).zip us)) ∧ PySem.W.keepIn K (.ref (He.fAd K ("_law_add", none))) = true ∧ DefE K tb (He.fAd K ("_law_add", none)) fd ["_law_one", "_law_other"] x__law_add := defE_none (T := tb) (ps := ["_law_one", "_law_other"]) (d := x__law_add) (N := ["_law_one", "_law_other"]) (fuel := 60) (dd := h__law_add) c (i := 20) rfl rfl ⟨rfl, rfl, rfl, by decide +kernel, rfl, by decide +kernel, by decide +kernel⟩ rfl rfl rfl (by decide +kernel) (fun _ _ _ _ _ _ us hl => match us, hl with | [_, _], _ => rfl)
theorem e__law_mul (c : SaysV fa xT hfn K) : ∃ fd, (∀ (s : Shared) (us : List Value), us.length = ["_law_one", "_law_other"].length → BindsTo s fd ⟨us, []⟩ ((["_law_one", "_law_other"] : List Str).zip us)) ∧ PySem.W.keepIn K (.ref (He.fAd K ("_law_mul", none))) = true ∧ DefE K tb (He.fAd K ("_law_mul", none)) fd ["_law_one", "_law_other"] x__law_mul := defE_none (T := tb) (ps := ["_law_one", "_law_other"]) (d := x__law_mul) (N := ["_law_one", "_law_other"]) (fuel := 60) (dd := h__law_mul) c (i := 21) rfl rfl ⟨rfl, rfl, rfl, by decide +kernel, rfl, by decide +kernel, by decide +kernel⟩ rfl rfl rfl (by decide +kernel) (fun _ _ _ _ _ _ us hl => match us, hl with | [_, _], _ => rfl)
theorem e__law_div (c : SaysV fa xT hfn K) : ∃ fd, (∀ (s : Shared) (us : List Value), us.length = ["_law_one", "_law_other"].length → BindsTo s fd ⟨us, []⟩ ((["_law_one", "_law_other"] : List Str).zip us)) ∧ PySem.W.keepIn K (.ref (He.fAd K ("_law_div", none))) = true ∧ DefE K tb (He.fAd K ("_law_div", none)) fd ["_law_one", "_law_other"] x__law_div := defE_none (T := tb) (ps := ["_law_one", "_law_other"]) (d := x__law_div) (N := ["_law_one", "_law_other"]) (fuel := 60) (dd := h__law_div) c (i := 22) rfl rfl ⟨rfl, rfl, rfl, by decide +kernel, rfl, by decide +kernel, by decide +kernel⟩ rfl rfl rfl (by decide +kernel) (fun _ _ _ _ _ _ us hl => match us, hl with | [_, _], _ => rfl)
theorem e__law_refused (c : SaysV fa xT hfn K) : ∃ fd, (∀ (s : Shared) (us : List Value), us.length = ["_law_golds", "_law_weight_here"].length → BindsTo s fd ⟨us, []⟩ ((["_law_golds", "_law_weight_here"] : List Str).zip us)) ∧ PySem.W.keepIn K (.ref (He.fAd K ("_law_refused", none))) = true ∧ DefE K tb (He.fAd K ("_law_refused", none)) fd ["_law_golds", "_law_weight_here"] x__law_refused := defE_none (T := tb) (ps := ["_law_golds", "_law_weight_here"]) (d := x__law_refused) (N := ["_law_golds", "_law_weight_here", "_law_kind", "_law_e"]) (fuel := 60) (dd := h__law_refused) c (i := 23) rfl rfl ⟨rfl, rfl, rfl, by decide +kernel, rfl, by decide +kernel, by decide +kernel⟩ rfl rfl rfl (by decide +kernel) (fun _ _ _ _ _ _ us hl => match us, hl with | [_, _], _ => rfl)
theorem e_law (c : SaysV fa xT hfn K) : ∃ fd, (∀ (s : Shared) (us : List Value), us.length = ["_law_script"].length → BindsTo s fd ⟨us, []⟩ ((["_law_script"] : List Str).zip us)) ∧ PySem.W.keepIn K (.ref (He.fAd K ("law", none))) = true ∧ DefE K tb (He.fAd K ("law", none)) fd ["_law_script"] x_law := defE_none (T := tb) (ps := ["_law_script"]) (d := x_law) (N := ["_law_script", "_law_k", "_law_bag_here", "_law_rows", "_law_golds", "_law_whole", "_law_pure", "_law_fine_here", "_law_handed", "_law_part", "_law_weight_here", "_law_turn"]) (fuel := 60) (dd := h_law) c (i := 24) rfl rfl ⟨rfl, rfl, rfl, by decide +kernel, rfl, by decide +kernel, by decide +kernel⟩ rfl rfl rfl (by decide +kernel) (fun _ _ _ _ _ _ us hl => match us, hl with | [_], _ => rfl)
theorem e_NoGold (X : K.In h) (G : h.Ns mainGlobals mg) (c : SaysV fa xT hfn K) : XinE K mg "NoGold" xiGold := xin_none (dd := h_NoGold_init) (k := 26) (b := "MadeError") X G c rfl rfl rfl rfl ⟨rfl, rfl, rfl, by decide +kernel, rfl, by decide +kernel, by decide +kernel⟩ (by decide +kernel) mem_xbM (by decide) (fun _ _ _ _ _ _ us hl => match us, hl with | [_, _], _ => rfl)
theorem e_NoRing (X : K.In h) (G : h.Ns mainGlobals mg) (c : SaysV fa xT hfn K) : XinE K mg "NoRing" xiRing := xin_none (dd := h_NoRing_init) (k := 27) (b := "MadeError") X G c rfl rfl rfl rfl ⟨rfl, rfl, rfl, by decide +kernel, rfl, by decide +kernel, by decide +kernel⟩ (by decide +kernel) mem_xbM (by decide) (fun _ _ _ _ _ _ us hl => match us, hl with | [_, _], _ => rfl)
theorem e_Twice (X : K.In h) (G : h.Ns mainGlobals mg) (c : SaysV fa xT hfn K) : XinE K mg "Twice" xiTwice := xin_none (dd := h_Twice_init) (k := 28) (b := "BookError") X G c rfl rfl rfl rfl ⟨rfl, rfl, rfl, by decide +kernel, rfl, by decide +kernel, by decide +kernel⟩ (by decide +kernel) mem_xbB (by decide) (fun _ _ _ _ _ _ us hl => match us, hl with | [_, _, _], _ => rfl)
theorem e_NoText (X : K.In h) (G : h.Ns mainGlobals mg) (c : SaysV fa xT hfn K) : XinE K mg "NoText" xiText := by
  refine xin_some (dd := h_NoText_init) (k := 29) (b := "BookError") X G c rfl rfl (dv := [.non]) (fun _ => rfl) (by simp) rfl (by decide) ⟨rfl, rfl, rfl, by decide +kernel, rfl, by decide +kernel, by decide +kernel⟩ (by decide +kernel) mem_xbB (by decide) ?_
  intro k hk T kV doc pm an cdv ct us its hu hi
  have hk2 : k = 0 ∨ k = 1 := by have : k ≤ 1 := hk; omega
  rcases hk2 with rfl | rfl
  · have hu : us.length = 1 := hu
    have hi : its.length = 1 := hi
    match us, its, hu, hi with
    | [_], [_], _, _ => exact ⟨_, rfl, rfl⟩
  · have hu : us.length = 2 := hu
    have hi : its.length = 1 := hi
    match us, its, hu, hi with
    | [_, _], [_], _, _ => exact ⟨_, rfl, rfl⟩
theorem e_kinds (X : K.In h) (G : h.Ns mainGlobals mg) (c : SaysV fa xT hfn K) : ∃ fa fd, mg "_law_kinds" = some (.ref fa) ∧ PySem.W.keepIn K (.ref fa) = true ∧ Binds K fd ["_law_e"] [] ∧ ∀ P w base, KnOk P w K mg base 1 fa fd := kn_of (dd := h__law_kinds) (i := 25) X G c rfl rfl rfl rfl rfl ⟨rfl, rfl, rfl, by decide +kernel, rfl, by decide +kernel, by decide +kernel⟩ (by decide +kernel) (fa_glo (by decide +kernel)) (fa_free (by decide +kernel)) (fa_free (by decide +kernel)) mem_xc mem_xk (fun _ _ _ _ _ _ us hl => match us, hl with | [_], _ => rfl)
theorem mod (X : K.In h) (G : h.Ns mainGlobals mg) (c : SaysV fa xT hfn K) : ModF K mg tb (flOf fll) := by
  refine mod_of (fnd := fnd) (cld := cld) (mtd := mtd) (gls := gls) (fll := fll) X G c rfl ?_ ?_ ?_ ?_ ?_ ?_ ?_ (fun _ => xs_of X G c mem_xc mem_xm (xin_all (e_NoGold X G c) (e_NoRing X G c) (e_Twice X G c) (e_NoText X G c)) (by decide)) (fun _ => e_kinds X G c)
  · exact allc (fn_ent X G (c.fact (fa_glo (by decide +kernel))) (e_common c)) (allc (fn_ent X G (c.fact (fa_glo (by decide +kernel))) (e_fraction c)) (allc (fn_ent X G (c.fact (fa_glo (by decide +kernel))) (e_plus c)) (allc (fn_ent X G (c.fact (fa_glo (by decide +kernel))) (e_times c)) (allc (fn_ent X G (c.fact (fa_glo (by decide +kernel))) (e_over c)) (allc (fn_ent X G (c.fact (fa_glo (by decide +kernel))) (e_less c)) (allc (fn_ent X G (c.fact (fa_glo (by decide +kernel))) (e_is_whole c)) (allc (fn_ent X G (c.fact (fa_glo (by decide +kernel))) (e_is_fraction c)) (allc (fn_ent X G (c.fact (fa_glo (by decide +kernel))) (e_total c)) (allc (fn_ent X G (c.fact (fa_glo (by decide +kernel))) (e_is_weight c)) (allc (fn_ent X G (c.fact (fa_glo (by decide +kernel))) (e_is_fineness c)) (allc (fn_ent X G (c.fact (fa_glo (by decide +kernel))) (e_melted c)) (allc (fn_ent X G (c.fact (fa_glo (by decide +kernel))) (e__law_bag c)) (allc (fn_ent X G (c.fact (fa_glo (by decide +kernel))) (e__law_take c)) (allc (fn_ent X G (c.fact (fa_glo (by decide +kernel))) (e__law_frac c)) (allc (fn_ent X G (c.fact (fa_glo (by decide +kernel))) (e__law_weight c)) (allc (fn_ent X G (c.fact (fa_glo (by decide +kernel))) (e__law_fine c)) (allc (fn_ent X G (c.fact (fa_glo (by decide +kernel))) (e__law_add c)) (allc (fn_ent X G (c.fact (fa_glo (by decide +kernel))) (e__law_mul c)) (allc (fn_ent X G (c.fact (fa_glo (by decide +kernel))) (e__law_div c)) (allc (fn_ent X G (c.fact (fa_glo (by decide +kernel))) (e__law_refused c)) (alln)))))))))))))))))))))
  · exact allc (⟨⟨rfl, by decide +kernel⟩, cl_ent X G (c.fact (fa_cglo (by decide +kernel))) (c.fact (fa_cls (by decide +kernel))) (c.fact (fa_mkr (by decide +kernel))) (e_Gold_init c)⟩) (alln)
  · exact allc (⟨⟨by decide +kernel, by decide +kernel⟩, mt_ent X G (c.fact (fa_cglo (by decide +kernel))) (c.fact (fa_cls (by decide +kernel))) (c.fact (fa_meth (p := ("Gold", "__eq__")) (by decide +kernel))) (e_Gold_eq c)⟩) (allc (⟨⟨by decide +kernel, by decide +kernel⟩, mt_ent X G (c.fact (fa_cglo (by decide +kernel))) (c.fact (fa_cls (by decide +kernel))) (c.fact (fa_meth (p := ("Gold", "pure")) (by decide +kernel))) (e_Gold_pure c)⟩) (alln))
  · exact allc (tup_gl X G (c.tup (x := "ONE") (l := [.int 1, .int 1]) (by simp [xT]))) (alln)
  · exact allc (⟨by decide +kernel, by decide +kernel⟩) (alln)
  · exact allc (⟨by decide +kernel, ⟨_, rfl, rfl⟩, by simp [xT]⟩) (alln)
  · exact allc (⟨⟨by decide +kernel, by simp [xT]⟩, allc (by simp [xT]) (alln)⟩) (alln)
end
/-- the law, when its text's run is true -/
theorem holds (n : Nat) (hn : n < 20) (hmain : ∀ ns : List Int, ns.length ≤ 63 → ∃ s', Fn tb (flOf fll) n x_law [.scr ns] [] = .ok (.bl true) s') : PySem.Challenge.rw_goldslips_k02_whole_gold_melted.Holds := by
  w_on; o_law
  refine HandSHeadRun.head_any (r := Vh.R) (q := PySem.W.view Vh.R.prog [44]) (H := Vh.hk) (ob := Vh.ob) (M := 1000000) (loose := Vh.names) (d := HandSHeadRun.topDef Vh.R.prog 44) (kwd := []) Vh.ob_eq
    (by kernel_rfl) (fun s => by kernel_rfl) Vh.run (by kernel_rfl) (by kernel_rfl) (by kernel_rfl) (by rfl) (by first | assumption | decide +kernel) (by decide +kernel) ⟨rfl, rfl, rfl, rfl, rfl, by decide +kernel⟩ ?hw ?hc
  case hw => w_witness2
  case hc =>
    refine walk_v (l := PySem.Challenge.rw_goldslips_k02_whole_gold_melted) (n := 63) (k := 6 * n) (x := "_law_script") rfl (by decide) (by kernel_rfl) (room_top hn) ?F
    intro w mg fa h Y G hmg0
    obtain ⟨K, KX, c⟩ := Y
    have hmg : mg ("law" : PySem.Str) = some (.ref fa) := by
      have e : (HandSHeadRun.topDef Vh.R.prog 44).name = ("law" : PySem.Str) := by kernel_rfl
      rw [← e]
      exact hmg0
    have g := He.glo_ok KX G (c.fact (fa_glo (x := "law") (by decide +kernel)))
    rw [hmg] at g
    cases g
    obtain ⟨fd, b, _, e⟩ := e_law c
    exact ⟨K, fd, _, KX, fun s u => b s [u] rfl, hmain, fun base => (mod_fn (mod KX G c) n).1 e⟩
end Vh
set_option Elab.async false
set_option linter.all false
set_option maxRecDepth 100000
namespace Vj
open PySem Vm Vt
theorem k02T : K02T (tabOf tb) tb.gl (flOf fll) := by
  refine { common := ?_, fraction := ?_, less := ?_, is_whole := ?_, is_fraction := ?_, is_weight := ?_, is_fineness := ?_, gold := ?_, init := ?_, one := ?_, flds := ?_, plus := ?_, times := ?_, over := ?_, total := ?_, pure := ?_, melted := ?_, frac := ?_, bag := ?_, take := ?_, weight := ?_, fine := ?_, eq := ?_, lmul := ?_, ladd := ?_, ldiv := ?_, refused := ?_ }
  all_goals rfl
end Vj
theorem PySem.Challenge.cw_goldslips_k02_whole_gold_melted_holds : PySem.Challenge.rw_goldslips_k02_whole_gold_melted.Holds := by
  exact Vh.holds 9 (by decide) fun ns hn => Vm.k02_law Vj.k02T ns hn
