import PyProof.Rows.All
import Wide.All
import OpenK.AllK
import Wide.FinOn
import HandS.ForMost
import HandS.ForExc
import HandS.Wide
import HandS.IsInst
import HandS.More
import HandS.TupAny
import HandS.Flow
import HandS.CallSlots
import HandS.HeadWalk
import HandS.OwnEq
import PyProof.InstNe
import HandS.Zip
import HandS.TryOnly
import HandS.Defaults
import KE.KStateDown
import HandS.Ends
import HandS.Head0
import HandS.Head1
import HandS.Head2
import HandS.HeadEnd
import HandS.HeadHook1
import HandS.HeadHook2
import Lean
import PySem.Challenge.RW_goldslips_k05_whole_mixes_with_least_new
set_option Elab.async false
set_option linter.all false
set_option maxRecDepth 100000
/-! A small interpreter of the Python that the law's text uses: tuples are plain values, lists, dicts and instances are places. -/
namespace Vm
open PySem L2

/-- a value: glo x an object of the module by its name; ref n the n-th place -/
inductive W where
  | non | bl (b : Bool) | int (i : Int) | str (x : Str) | tup (l : List W) | ref (n : Nat) | glo (x : Str) | ty (n : String) | scr (l : List Int)
  deriving Inhabited

/-- what stands at a place; lck: what a loop has locked -/
inductive Ob where
  | lst (l : List W) | dct (l : List (Key × W)) | dtt (l : List (List Key × W)) | ins (c : Str) (fs : List (Str × W)) | lck (o : Ob)
  deriving Inhabited

abbrev Vs := List Ob
abbrev Rho := List (Option W)

structure Exn where
  cls : Str
  fs : List (Str × W)

inductive Out (α : Type) where
  | ok (a : α) (s : Vs) | exc (x : Exn) (s : Vs) | err

def Out.bind {α β : Type} : Out α → (α → Vs → Out β) → Out β
  | .ok a s, f => f a s
  | .exc x s, _ => .exc x s
  | .err, _ => .err

theorem bind_ok {α β : Type} (a : α) (s : Vs) (f : α → Vs → Out β) : (Out.ok a s).bind f = f a s := rfl
theorem bind_exc {α β : Type} (x : Exn) (s : Vs) (f : α → Vs → Out β) : (Out.exc x s).bind f = .exc x s := rfl
theorem bind_err {α β : Type} (f : α → Vs → Out β) : (Out.err : Out α).bind f = .err := rfl

/-- the end of a statement -/
inductive Fin where
  | nx (r : Rho) (s : Vs) | rt (w : W) (s : Vs) | bk (r : Rho) (s : Vs) | ct (r : Rho) (s : Vs) | exc (x : Exn) (r : Rho) (s : Vs) | err

inductive BOp where
  | add | sub | mul | fdiv | mod | pow
inductive COp where
  | eq | ne | lt | le | gt | ge | is_ | isn | in_ | nin
inductive Bf where
  | len | abs | min | int | str | tuple | list | sorted | all | dict | lenset | srtset
inductive Tg where
  | nm (i : Nat) | tp (l : List Nat)

mutual
inductive IE where
  | var (i : Nat) | con (w : W) | glo (x : Str)
  | bin (o : BOp) (a b : IE) | neg (a : IE) | not (a : IE) | and (a b : IE) | or (a b : IE) | ite (c a b : IE)
  | ceq (ng : Bool) (cs : List Str) (a b : IE) | cmp (o : COp) (a b : IE) | chn (o p : COp) (a b c : IE)
  | tup (l : IL) | lst (l : IL) | dic (t : Bool) (ks vs : IL)
  | idx (a b : IE) | slc (a lo hi : IE) | fld (a : IE) (f : Str)
  | call (f : Str) (l : IL) | callk (f : Str) (l : IL) (ks : List Str) (vs : IL) | callv (f : IE) (l : IL) | meth (a : IE) (m : Str) (l : IL) | omt (c m : Str) (a : IE) (l : IL)
  | bi (f : Bf) (l : IL) | isi (a : IE) (t : Str) | iso (a : IE) (t : Str) (cs : List Str)
  | lc (e : IE) (tg : Tg) (it : II) (c : IE) | fst (l : IL) | srk (a : IE) (k : IE)
inductive IL where
  | nil | cons (a : IE) (l : IL)
inductive II where
  | val (e : IE) | rng1 (e : IE) | rng2 (a b : IE) | zip (a b : IE) | enum (a : IE) | items (a : IE)
end
mutual
inductive IS where
  | asg (i : Nat) (e : IE) | asgT (l : List Nat) (e : IE) | par (i j : Nat) (a b : IE) | sfld (o : IE) (f : Str) (e : IE) | ssub (o i e : IE) | sslc (o lo hi e : IE)
  | exp (e : IE) | ret (e : IE) | retN | ifs (c : IE) (a b : IB) | whl (c : IE) (b : IB) | fors (tg : Tg) (it : II) (b : IB) | rse (c : Str) (l : IL) | pass
inductive IB where
  | nil | cons (a : IS) (b : IB)
end

/-! ### operations on values -/
/-- the list at a place -/
def lstAt (s : Vs) (n : Nat) : Option (List W) := match s[n]? with
  | some (.lst l) => some l
  | _ => none
def fits (n : Nat) : Bool := decide (n ≤ sizeLine)
def mulFits (i j : Int) : Bool := decide (i.natAbs.log2 + j.natAbs.log2 < 1000000)
def newL (l : List W) (s : Vs) : Out W := .ok (.ref s.length) (s ++ [.lst l])
def binV : BOp → W → W → Vs → Out W
  | .add, .int i, .int j, s => .ok (.int (i + j)) s
  | .add, .str x, .str y, s => if fits (x.length + y.length) then .ok (.str (x ++ y)) s else .err
  | .add, .tup l, .tup m, s => if fits (l.length + m.length) then .ok (.tup (l ++ m)) s else .err
  | .add, .ref a, .ref b, s => match s[a]?, s[b]? with
    | some (.lst l), some (.lst m) => if fits (l.length + m.length) then newL (l ++ m) s else .err
    | _, _ => .err
  | .sub, .int i, .int j, s => .ok (.int (i - j)) s
  | .mul, .int i, .int j, s => if mulFits i j then .ok (.int (i * j)) s else .err
  | .mul, .ref a, .int k, s => match s[a]? with
    | some (.lst l) => if decide (-(2 ^ 63) ≤ k ∧ k < 2 ^ 63) && fits (l.length * k.toNat) then newL (List.replicate k.toNat l).flatten s else .err
    | _ => .err
  | .fdiv, .int i, .int j, s => if j == 0 then .err else if Builtin.divisionGoesByPylong i j then .err else .ok (.int (i.fdiv j)) s
  | .mod, .int i, .int j, s => if j == 0 then .err else .ok (.int (i.fmod j)) s
  | .pow, .int i, .int j, s => if decide (0 ≤ j ∧ j ≤ 1000000 ∧ i.natAbs < 2 ^ 64) then .ok (.int (i ^ j.toNat)) s else .err
  | _, _, _, _ => .err

mutual
/-- the data that a value is, lists told to a depth -/
def toD (s : Vs) : Nat → W → Option PyData
  | 0, _ => none
  | _ + 1, .non => some .none
  | _ + 1, .bl b => some (.bool b)
  | _ + 1, .int i => some (.int i)
  | _ + 1, .str x => some (.str x)
  | k + 1, .tup l => (toDs s k l).map .tuple
  | k + 1, .ref n => match lstAt s n with
    | some l => (toDs s k l).map .list
    | none => none
  | _ + 1, _ => none
def toDs (s : Vs) : Nat → List W → Option (List PyData)
  | 0, _ => none
  | _ + 1, [] => some []
  | k + 1, w :: r => match toD s k w, toDs s k r with
    | some d, some ds => some (d :: ds)
    | _, _ => none
end
/-- == of data -/
def eqD (s : Vs) (x y : W) : Option Bool := match toD s 100000 x, toD s 100000 y with
  | some d, some e => if SeqAt.shaped d && SeqAt.shaped e then some (PyData.eqv d e) else none
  | _, _ => none
def isNon : W → Bool
  | .non => true
  | _ => false
def cmpV : COp → W → W → Vs → Out W
  | .lt, .int i, .int j, s => .ok (.bl (decide (i < j))) s
  | .le, .int i, .int j, s => .ok (.bl (decide (i ≤ j))) s
  | .gt, .int i, .int j, s => .ok (.bl (decide (j < i))) s
  | .ge, .int i, .int j, s => .ok (.bl (decide (j ≤ i))) s
  | .eq, x, y, s => match eqD s x y with
    | some b => .ok (.bl b) s
    | none => .err
  | .ne, x, y, s => match eqD s x y with
    | some b => .ok (.bl (!b)) s
    | none => .err
  | .is_, x, .non, s => .ok (.bl (isNon x)) s
  | .isn, x, .non, s => .ok (.bl (!isNon x)) s
  | _, _, _, _ => .err
/-- a value's truth -/
def trV (s : Vs) : W → Option Bool
  | .non => some false
  | .bl b => some b
  | .int i => some (i != 0)
  | .str x => if fits x.length then some ((x.length : Int) != 0) else none
  | .tup l => some (!l.isEmpty)
  | .ref n => match s[n]? with
    | some (.lst l) => some (!l.isEmpty)
    | some (.dct l) => some (!l.isEmpty)
    | _ => none
  | _ => none
def truth (w : W) (s : Vs) : Out Bool := match trV s w with
  | some b => .ok b s
  | none => .err
/-- a[i] -/
def idxV : W → W → Vs → Out W
  | .scr l, .int i, s => match atI l i with
    | some j => .ok (.int j) s
    | none => .err
  | .tup l, .int i, s => match atI l i with
    | some w => .ok w s
    | none => .err
  | .ref n, .int i, s => match lstAt s n with
    | some l => (match atI l i with
      | some w => .ok w s
      | none => .err)
    | none => .err
  | _, _, _ => .err
/-- a[i] = v -/
def setV : W → W → W → Vs → Option Vs
  | .ref n, .int i, v, s => match s[n]? with
    | some (.lst l) => (match ixN l.length i with
      | some j => some (s.set n (.lst (l.set j v)))
      | none => none)
    | _ => none
  | _, _, _, _ => none
def fldV : W → Str → Vs → Out W
  | .ref n, f, s => match s[n]? with
    | some (.ins _ fs) => (match fs.lookup f with
      | some w => .ok w s
      | none => .err)
    | _ => .err
  | _, _, _ => .err
def putW (f : Str) (v : W) : List (Str × W) → List (Str × W)
  | [] => [(f, v)]
  | (g, x) :: r => if g = f then (g, v) :: r else (g, x) :: putW f v r
def sfldV (fl : Str → List Str) : W → Str → W → Vs → Option Vs
  | .ref n, f, v, s => match s[n]? with
    | some (.ins c fs) => if decide (fs.length < 1000) && (fl c).contains f then some (s.set n (.ins c (putW f v fs))) else none
    | _ => none
  | _, _, _, _ => none
/-- the built-in type of a value, where it is one -/
def tyV : W → Vs → Option String
  | .non, _ => some "NoneType"
  | .bl _, _ => some "bool"
  | .int _, _ => some "int"
  | .str _, _ => some "str"
  | .tup _, _ => some "tuple"
  | .ref n, s => match s[n]? with
    | some (.lst _) => some "list"
    | some (.dct _) => some "dict"
    | some (.dtt _) => some "dict"
    | _ => none
  | _, _ => none
def bools : List W → Option (List Bool)
  | [] => some []
  | .bl b :: r => (bools r).map (b :: ·)
  | _ => none
def biV : Bf → List W → Vs → Out W
  | .len, [.str x], s => if fits x.length then .ok (.int x.length) s else .err
  | .len, [.tup l], s => .ok (.int l.length) s
  | .len, [.scr l], s => .ok (.int l.length) s
  | .len, [.ref n], s => match s[n]? with
    | some (.lst l) => .ok (.int l.length) s
    | some (.dct l) => .ok (.int l.length) s
    | _ => .err
  | .abs, [.int i], s => .ok (.int (if i < 0 then -i else i)) s
  | .min, [.int i, .int j], s => .ok (.int (if j < i then j else i)) s
  | .int, [.int i], s => .ok (.int i) s
  | .int, [.bl b], s => .ok (.int (if b then 1 else 0)) s
  | .str, [.int i], s => if decide (i.natAbs.log2 < 1920) then .ok (.str (Str.ofString (toString i))) s else .err
  | .tuple, [.tup l], s => .ok (.tup l) s
  | .tuple, [.ref n], s => match lstAt s n with
    | some l => .ok (.tup l) s
    | none => .err
  | .list, [.tup l], s => newL l s
  | .list, [.ref n], s => match lstAt s n with
    | some l => newL l s
    | none => .err
  | .all, [.ref n], s => match lstAt s n with
    | some l => (match bools l with
      | some bs => .ok (.bl (bs.all id)) s
      | none => .err)
    | none => .err
  | _, _, _ => .err
/-- methods of built-in types -/
def appV : W → List W → Vs → Out W
  | .ref n, [w], s => (match s[n]? with
    | some (.lst l) => if decide (l.length < sizeLine) then .ok .non (s.set n (.lst (l ++ [w]))) else .err
    | _ => .err)
  | _, _, _ => .err
def insV : W → List W → Vs → Out W
  | .ref n, [.int i, w], s => (match s[n]? with
    | some (.lst l) => if decide (0 ≤ i ∧ i < 2 ^ 63) && decide (l.length < sizeLine) then .ok .non (s.set n (.lst (l.take i.toNat ++ [w] ++ l.drop i.toNat))) else .err
    | _ => .err)
  | _, _, _ => .err
def mtV (m : Str) (x : W) (ws : List W) (s : Vs) : Out W := if m = "append" then appV x ws s else if m = "insert" then insV x ws s else .err
theorem mtV_append (x : W) (ws : List W) (s : Vs) : mtV "append" x ws s = appV x ws s := if_pos rfl
theorem mtV_insert (x : W) (ws : List W) (s : Vs) : mtV "insert" x ws s = insV x ws s := by
  unfold mtV
  rw [if_neg (by decide +kernel), if_pos rfl]
/-- an instance's class -/
def insOf (s : Vs) : W → Option Str
  | .ref n => (match s[n]? with
    | some (.ins c _) => some c
    | _ => none)
  | _ => none
/-- the same plain value -/
def sameW : W → W → Bool
  | .non, .non => true
  | .bl a, .bl b => a == b
  | .int a, .int b => decide (a = b)
  | .str a, .str b => decide (a = b)
  | _, _ => false
def alikeI (al : W → W → Prop) (l m : List W) : Prop := l.length = m.length ∧ ∀ (i : Nat) (a b : W), l[i]? = some a → m[i]? = some b → al a b
/-- two tuples, two lists, alike item by item -/
def alikeT (s : Vs) (al : W → W → Prop) (x y : W) : Prop := (∃ l m, x = .tup l ∧ y = .tup m ∧ alikeI al l m) ∨ ∃ a b l m, x = .ref a ∧ y = .ref b ∧ lstAt s a = some l ∧ lstAt s b = some m ∧ alikeI al l m
/-- alike: the same, or by an own == -/
def alikeW (fe : Str → Str → List W → Vs → Out W) (cs : List Str) (s : Vs) : Nat → W → W → Prop
  | 0, x, y => sameW x y = true ∨ (x = y ∧ ∃ n, x = .ref n) ∨ ∃ c a b fs gs, c ∈ cs ∧ x = .ref a ∧ y = .ref b ∧ s[a]? = some (.ins c fs) ∧ s[b]? = some (.ins c gs) ∧ fe c "__eq__" [x, y] s = .ok (.bl true) s
  | k + 1, x, y => alikeW fe cs s k x y ∨ alikeT s (alikeW fe cs s k) x y
/-- the class whose == is asked: both are of it, or the other one is of a built-in type -/
def ownC (cs : List Str) (x y : W) (s : Vs) : Option Str := match insOf s x with
  | some c => if cs.contains c && (decide (insOf s y = some c) || (tyV y s).isSome) then some c else none
  | none => none
open Classical in
noncomputable def eqoV (fe : Str → Str → List W → Vs → Out W) (ng : Bool) (cs : List Str) (x y : W) (s : Vs) : Out W := match eqD s x y with
  | some b => .ok (.bl (b != ng)) s
  | none => match ownC cs x y s with
    | some c => (fe c "__eq__" [x, y] s).bind fun w s' => (match w with
      | .bl b => .ok (.bl (b != ng)) s'
      | _ => .err)
    | none => if alikeT s (alikeW fe cs s 3) x y then .ok (.bl (!ng)) s else .err
/-! ### what the text does -/
/-- what a body may call (a class's name or none, a def's name); the module's constants -/
structure Wd where
  fe : Str → Str → List W → Vs → Out W
  gl : Str → Option W
  fl : Str → List Str
def isBase : Str → Option String := fun t => if t = "int" then some "int" else if t = "bool" then some "bool" else if t = "str" then some "str" else if t = "tuple" then some "tuple" else if t = "list" then some "list" else none
/-- isinstance(x, t) -/
def isiV (t : Str) (x : W) (s : Vs) : Out W := match isBase t with
  | some b => (match tyV x s with
    | some a => .ok (.bl (decide (a = b) || (decide (a = "bool") && decide (b = "int")))) s
    | none => .err)
  | none => (match x with
    | .ref n => (match s[n]? with
      | some (.ins c _) => .ok (.bl (decide (c = t))) s
      | some (.lst _) => .ok (.bl false) s
      | _ => .err)
    | .non => .ok (.bl false) s
    | .bl _ => .ok (.bl false) s
    | .int _ => .ok (.bl false) s
    | .str _ => .ok (.bl false) s
    | .tup _ => .ok (.bl false) s
    | _ => .err)
/-- isinstance(x, t) with the text's own class t, of the classes cs -/
def isoV (cs : List Str) (t : Str) (x : W) (s : Vs) : Out W := match insOf s x with
  | some c => if cs.contains c then .ok (.bl (decide (c = t))) s else .err
  | none => if (tyV x s).isSome then .ok (.bl false) s else .err
/-- what is walked: the items; the lists that must stand still -/
structure Src where
  items : List W
  chk : List (Nat × List W)
def Src.ok (c : Src) (s : Vs) : Prop := ∀ p ∈ c.chk, lstAt s p.1 = some p.2
def setT (tg : Tg) (w : W) (r : Rho) : Option Rho := match tg with
  | .nm i => some (r.set i (some w))
  | .tp l => (match w with
    | .tup ws => if l.length = ws.length then some ((l.zip ws).foldl (fun r p => r.set p.1 (some p.2)) r) else none
    | _ => none)
/-- a, b = e -/
def setTs (l : List Nat) (w : W) (r : Rho) (s : Vs) : Option Rho := match w with
  | .tup ws => if l.length = ws.length then some ((l.zip ws).foldl (fun r p => r.set p.1 (some p.2)) r) else none
  | .ref n => (match lstAt s n with
    | some ws => if l.length = ws.length then some ((l.zip ws).foldl (fun r p => r.set p.1 (some p.2)) r) else none
    | none => none)
  | _ => none
def srcV : W → Vs → Out Src
  | .tup l, s => .ok ⟨l, []⟩ s
  | .str x, s => .ok ⟨x.cps.toList.map fun c => .str ⟨#[c]⟩, []⟩ s
  | .ref n, s => match lstAt s n with
    | some l => .ok ⟨l, [(n, l)]⟩ s
    | none => .err
  | _, _ => .err
def rngV (lo hi : Int) (s : Vs) : Out Src := if decide (-(2 ^ 62) ≤ lo ∧ lo < 2 ^ 62 ∧ -(2 ^ 62) ≤ hi ∧ hi < 2 ^ 62) then .ok ⟨(List.range (hi - lo).toNat).map fun (i : Nat) => .int (lo + (i : Int)), []⟩ s else .err
def enumL : Nat → List W → List W
  | _, [] => []
  | i, w :: r => .tup [.int i, w] :: enumL (i + 1) r
/-- what zip walks over: a tuple or a list -/
def seqW (w : W) (s : Vs) : Option (Bool × List W × List (Nat × List W)) := match w with
  | .tup l => some (true, l, [])
  | .ref n => (match lstAt s n with
    | some l => some (false, l, [(n, l)])
    | none => none)
  | _ => none
def zipL (l m : List W) : List W := (l.zip m).map fun p => .tup [p.1, p.2]
def zipV (x y : W) (s : Vs) : Out Src := match seqW x s, seqW y s with
  | some p, some q => .ok ⟨zipL p.2.1 q.2.1, p.2.2 ++ q.2.2⟩ s
  | _, _ => .err
open Classical in
noncomputable def lcL (ok : Vs → Prop) (f : W → Vs → Out (Option W)) : List W → Vs → Out (List W)
  | [], s => if ok s then .ok [] s else .err
  | x :: r, s => if ok s then (match f x s with
    | .ok y s1 => (lcL ok f r s1).bind fun ys s2 => .ok (match y with | some y => y :: ys | none => ys) s2
    | _ => .err) else .err
open Classical in
noncomputable def forL (ok : Vs → Prop) (f : W → Rho → Vs → Fin) : List W → Rho → Vs → Fin
  | [], r, s => if ok s then .nx r s else .err
  | x :: l, r, s => if ok s then (match f x r s with
    | .nx r' s' => forL ok f l r' s'
    | .ct r' s' => forL ok f l r' s'
    | .bk r' s' => .nx r' s'
    | .rt w s' => .rt w s'
    | .exc x r' s' => .exc x r' s'
    | .err => .err) else .err
/-- a while, so many turns at most -/
def iter (c : Rho → Vs → Out Bool) (f : Rho → Vs → Fin) : Nat → Rho → Vs → Fin
  | 0, _, _ => .err
  | n + 1, r, s => match c r s with
    | .ok b s1 => if b then (match f r s1 with
      | .nx r' s' => iter c f n r' s'
      | .ct r' s' => iter c f n r' s'
      | .bk r' s' => .nx r' s'
      | .rt w s' => .rt w s'
      | .exc x r' s' => .exc x r' s'
      | .err => .err) else .nx r s1
    | .exc x s1 => .exc x r s1
    | .err => .err
open Classical in
noncomputable def whlL (c : Rho → Vs → Out Bool) (f : Rho → Vs → Fin) (r : Rho) (s : Vs) : Fin := if h : ∃ n, iter c f n r s ≠ .err then iter c f (choose h) r s else .err
def Out.fin {α : Type} (o : Out α) (r : Rho) (f : α → Vs → Fin) : Fin := match o with
  | .ok a s => f a s
  | .exc x s => .exc x r s
  | .err => .err
def cutW (l : List W) (lo hi : Option Int) : List W := (l.drop (HT.sIx l.length 0 lo)).take (HT.sIx l.length l.length hi - HT.sIx l.length 0 lo)
def slcV (x : W) (i j : Option Int) (s : Vs) : Out W := match x with
  | .tup l => .ok (.tup (cutW l i j)) s
  | .ref n => (match lstAt s n with
    | some l => newL (cutW l i j) s
    | none => .err)
  | _ => .err
/-- a slice's part that is not written -/
def miss : IE → Bool
  | .con .non => true
  | _ => false
def intV : W → Vs → Out (Option Int)
  | .int i, s => .ok (some i) s
  | _, _ => .err
/-- the built-in type whose method it is -/
def mtTy : Str → Option String := fun m => if m = "append" then some "list" else if m = "insert" then some "list" else none
def recvOk (m : Str) (x : W) (s : Vs) : Bool := match mtTy m, tyV x s with
  | some a, some b => decide (a = b)
  | _, _ => false
def ownOk (c m : Str) (x : W) (s : Vs) : Bool := match x with
  | .ref n => (match s[n]? with
    | some (.ins c' fs) => decide (c' = c) && (fs.lookup m).isNone
    | _ => false)
  | _ => false
noncomputable section
mutual
def den (D : Wd) : IE → Rho → Vs → Out W
  | .var i, r, s => match r[i]? with
    | some (some w) => .ok w s
    | _ => .err
  | .con w, _, s => .ok w s
  | .glo x, _, s => match D.gl x with
    | some w => .ok w s
    | none => .err
  | .bin o a b, r, s => (den D a r s).bind fun x s1 => (den D b r s1).bind fun y s2 => binV o x y s2
  | .neg a, r, s => (den D a r s).bind fun x s1 => match x with
    | .int i => .ok (.int (-i)) s1
    | _ => .err
  | .not a, r, s => (den D a r s).bind fun x s1 => (truth x s1).bind fun b s2 => .ok (.bl (!b)) s2
  | .and a b, r, s => (den D a r s).bind fun x s1 => (truth x s1).bind fun t s2 => if t then den D b r s2 else .ok x s2
  | .or a b, r, s => (den D a r s).bind fun x s1 => (truth x s1).bind fun t s2 => if t then .ok x s2 else den D b r s2
  | .ite c a b, r, s => (den D c r s).bind fun x s1 => (truth x s1).bind fun t s2 => if t then den D a r s2 else den D b r s2
  | .cmp o a b, r, s => (den D a r s).bind fun x s1 => (den D b r s1).bind fun y s2 => cmpV o x y s2
  | .ceq ng cs a b, r, s => (den D a r s).bind fun x s1 => (den D b r s1).bind fun y s2 => eqoV D.fe ng cs x y s2
  | .chn o p a b c, r, s => (den D a r s).bind fun x s1 => (den D b r s1).bind fun y s2 => (cmpV o x y s2).bind fun z s3 => match z with
    | .bl t => if t then (den D c r s3).bind fun w s4 => cmpV p y w s4 else .ok (.bl false) s3
    | _ => .err
  | .tup l, r, s => (denL D l r s).bind fun ws s1 => if fits ws.length then .ok (.tup ws) s1 else .err
  | .lst l, r, s => (denL D l r s).bind fun ws s1 => if fits ws.length then newL ws s1 else .err
  | .dic _ _ _, _, _ => .err
  | .idx a b, r, s => (den D a r s).bind fun x s1 => (den D b r s1).bind fun y s2 => idxV x y s2
  | .slc a lo hi, r, s => (den D a r s).bind fun x s1 => (if miss lo then .ok none s1 else (den D lo r s1).bind intV).bind fun l s2 => (if miss hi then .ok none s2 else (den D hi r s2).bind intV).bind fun h s3 => slcV x l h s3
  | .fld a f, r, s => (den D a r s).bind fun x s1 => fldV x f s1
  | .call f l, r, s => (denL D l r s).bind fun ws s1 => D.fe Str.empty f ws s1
  | .callk _ _ _ _, _, _ => .err
  | .callv _ _, _, _ => .err
  | .meth a m l, r, s => (den D a r s).bind fun x s1 => if recvOk m x s1 then (denL D l r s1).bind fun ws s2 => mtV m x ws s2 else .err
  | .omt c m a l, r, s => (den D a r s).bind fun x s1 => if ownOk c m x s1 then (denL D l r s1).bind fun ws s2 => D.fe c m (x :: ws) s2 else .err
  | .bi f l, r, s => (denL D l r s).bind fun ws s1 => biV f ws s1
  | .isi a t, r, s => (den D a r s).bind fun x s1 => isiV t x s1
  | .iso a t cs, r, s => (den D a r s).bind fun x s1 => isoV cs t x s1
  | .lc e tg it c, r, s => (denI D it r s).bind fun q s1 => if !fits q.items.length then .err else (lcL q.ok (fun x s2 => match setT tg x r with
    | some r' => (den D c r' s2).bind fun t s3 => (truth t s3).bind fun b s4 => if b then (den D e r' s4).bind fun y s5 => .ok (some y) s5 else .ok none s4
    | none => .err) q.items s1).bind fun ys s6 => newL ys s6
  | .fst _, _, _ => .err
  | .srk _ _, _, _ => .err
def denL (D : Wd) : IL → Rho → Vs → Out (List W)
  | .nil, _, s => .ok [] s
  | .cons a l, r, s => (den D a r s).bind fun x s1 => (denL D l r s1).bind fun xs s2 => .ok (x :: xs) s2
def denI (D : Wd) : II → Rho → Vs → Out Src
  | .val e, r, s => (den D e r s).bind fun x s1 => srcV x s1
  | .rng1 e, r, s => (den D e r s).bind fun x s1 => match x with
    | .int i => rngV 0 i s1
    | _ => .err
  | .rng2 a b, r, s => (den D a r s).bind fun x s1 => (den D b r s1).bind fun y s2 => match x, y with
    | .int i, .int j => rngV i j s2
    | _, _ => .err
  | .zip a b, r, s => (den D a r s).bind fun x s1 => (den D b r s1).bind fun y s2 => zipV x y s2
  | .enum a, r, s => (den D a r s).bind fun x s1 => match x with
    | .ref n => (match lstAt s1 n with
      | some l => .ok ⟨enumL 0 l, [(n, l)]⟩ s1
      | none => .err)
    | _ => .err
  | .items _, _, _ => .err
end
def test (D : Wd) (c : IE) (r : Rho) (s : Vs) : Out Bool := (den D c r s).bind fun x s1 => truth x s1
mutual
def denS (D : Wd) : IS → Rho → Vs → Fin
  | .asg i e, r, s => (den D e r s).fin r fun w s1 => .nx (r.set i (some w)) s1
  | .asgT l e, r, s => (den D e r s).fin r fun w s1 => match setTs l w r s1 with
    | some r' => .nx r' s1
    | none => .err
  | .par i j a b, r, s => (den D a r s).fin r fun x s1 => (den D b r s1).fin r fun y s2 => .nx ((r.set i (some x)).set j (some y)) s2
  | .sfld o f e, r, s => (den D e r s).fin r fun y s1 => (den D o r s1).fin r fun x s2 => match sfldV D.fl x f y s2 with
    | some s3 => .nx r s3
    | none => .err
  | .ssub o i e, r, s => (den D e r s).fin r fun y s1 => (den D o r s1).fin r fun x s2 => (den D i r s2).fin r fun k s3 => match setV x k y s3 with
    | some s4 => .nx r s4
    | none => .err
  | .sslc _ _ _ _, _, _ => .err
  | .exp e, r, s => (den D e r s).fin r fun _ s1 => .nx r s1
  | .ret e, r, s => (den D e r s).fin r fun w s1 => .rt w s1
  | .retN, _, s => .rt .non s
  | .ifs c a b, r, s => (test D c r s).fin r fun t s1 => if t then denB D a r s1 else denB D b r s1
  | .whl c b, r, s => whlL (test D c) (denB D b) r s
  | .fors tg it b, r, s => (denI D it r s).fin r fun q s1 => forL q.ok (fun x r' s2 => match setT tg x r' with
    | some r2 => denB D b r2 s2
    | none => .err) q.items r s1
  | .rse _ _, _, _ => .err
  | .pass, r, s => .nx r s
def denB (D : Wd) : IB → Rho → Vs → Fin
  | .nil, r, s => .nx r s
  | .cons a b, r, s => match denS D a r s with
    | .nx r' s' => denB D b r' s'
    | .rt w s' => .rt w s'
    | .bk r' s' => .bk r' s'
    | .ct r' s' => .ct r' s'
    | .exc x r' s' => .exc x r' s'
    | .err => .err
end
structure Fd where
  np : Nat
  ns : Nat
  dfl : List W
  body : IB
inductive Te where
  | fn (d : Fd) | cls
/-- the parameters' values: those told, then the last defaults -/
def argsOf (d : Fd) (ws : List W) : Option (List W) := if ws.length ≤ d.np ∧ d.np - ws.length ≤ d.dfl.length then some (ws ++ d.dfl.drop (d.dfl.length - (d.np - ws.length))) else none
def runB (D : Wd) (d : Fd) (vs : List W) (s : Vs) : Out W := match denB D d.body (vs.map some ++ List.replicate (d.ns - d.np) none) s with
  | .nx _ s' => .ok .non s'
  | .rt w s' => .ok w s'
  | .exc x _ s' => .exc x s'
  | _ => .err
/-- a call, so many calls deep at most -/
def run (T : Str → Str → Option Te) (gl : Str → Option W) (fl : Str → List Str) : Nat → Str → Str → List W → Vs → Out W
  | 0, _, _, _, _ => .err
  | n + 1, c, f, ws, s => match T c f with
    | some (.fn d) => (match argsOf d ws with
      | some vs => runB ⟨run T gl fl n, gl, fl⟩ d vs s
      | none => .err)
    | some .cls => (match run T gl fl n f "__init__" (.ref s.length :: ws) (s ++ [.ins f []]) with
      | .ok .non s' => .ok (.ref s.length) s'
      | .exc x s' => .exc x s'
      | _ => .err)
    | none => .err
end
end Vm
set_option Elab.async false
set_option linter.all false
set_option maxRecDepth 100000
set_option maxHeartbeats 1000000
/-! What the interpreter's values and places are in the layer's heap. -/
namespace Vm
open PySem L2
abbrev Fg := PySem.W.Frag
abbrev Mg := Str → Option Value

def KL (K : Fg) (a : Addr) (xs : List V) : Prop := ∃ (o : Obj) (its : Array Value) (n : Nat), K.lookup a = some o ∧ o.cls = .type "list" ∧ o.dict = none ∧ o.data = .seq its n ∧ its.size ≤ sizeLine ∧ Vals xs its.toList
section
variable (K : Fg) (mg : Mg) (io : List Addr) (H : Hp)
mutual
inductive Rep : W → V → Prop where
  | non : Rep .non .non
  | bl (b : Bool) : Rep (.bl b) (.bl b)
  | int (i : Int) : Rep (.int i) (.int i)
  | str (x : Str) : Rep (.str x) (.str x)
  | tup {l : List W} {a : Addr} {xs : List V} : SqT K H a xs → Reps l xs → Rep (.tup l) (.ref a)
  | ref {n : Nat} {a : Addr} : io[n]? = some a → Rep (.ref n) (.ref a)
  | glo {x : Str} {a : Addr} : mg x = some (.ref a) → Rep (.glo x) (.ref a)
  | ty (n : String) : Rep (.ty n) (.ty n)
  | scr {l : List Int} {a : Addr} : ((∃ o, H a = some (.frz o (.lst (l.map V.int)))) ∨ KL K a (l.map V.int)) → Rep (.scr l) (.ref a)
inductive Reps : List W → List V → Prop where
  | nil : Reps [] []
  | cons {w : W} {v : V} {l : List W} {xs : List V} : Rep w v → Reps l xs → Reps (w :: l) (v :: xs)
end
/-- pairs of a key and a value -/
inductive RepP {κ : Type} : List (κ × W) → List (κ × V) → Prop where
  | nil : RepP [] []
  | cons {k : κ} {w : W} {v : V} {l : List (κ × W)} {xs : List (κ × V)} : Rep K mg io H w v → RepP l xs → RepP ((k, w) :: l) ((k, v) :: xs)
inductive RepU : HO → Ob → Prop where
  | lst {xs : List V} {l : List W} : Reps K mg io H l xs → RepU (.lst xs) (.lst l)
  | dct {kvs : List (Key × V)} {l : List (Key × W)} : RepP K mg io H l kvs → RepU (.dK kvs) (.dct l)
  | dtt {kvs : List (List Key × V)} {l : List (List Key × W)} : RepP K mg io H l kvs → RepU (.dT kvs) (.dtt l)
  | ins {C dx : Addr} {c : Str} {fs : List (Str × V)} {fw : List (Str × W)} : mg c = some (.ref C) → Cls K C → (∀ f ∈ fw.map (·.1), NoAttr K C f) → RepP K mg io H fw fs → RepU (.ins C dx fs) (.ins c fw)
inductive At (a : Addr) : Ob → Prop where
  | mk {o : Ob} {u : HO} : H a = some u → RepU K mg io H u o → At a o
  | lck {l : List (Key × W)} {kvs : List (Key × V)} {ob : Obj} : H a = some (.frz ob (.dK kvs)) → RepP K mg io H l kvs → At a (.lck (.dct l))
  | lckT {l : List (List Key × W)} {kvs : List (List Key × V)} {ob : Obj} : H a = some (.frz ob (.dT kvs)) → RepP K mg io H l kvs → At a (.lck (.dtt l))
structure Sim (S : Vs) : Prop where
  len : io.length = S.length
  nd : io.Nodup
  at_ : ∀ (n : Nat) (o : Ob), S[n]? = some o → ∃ a, io[n]? = some a ∧ At K mg io H a o
end
/-- later: more places; what is tracked beside the places is as it was -/
structure Ex (io : List Addr) (H : Hp) (jo : List Addr) (J : Hp) : Prop where
  pre : ∃ l, jo = io ++ l
  fr : ∀ a o, a ∉ io → H a = some o → J a = some o ∧ a ∉ jo
theorem Ex.refl (io : List Addr) (H : Hp) : Ex io H io H := ⟨⟨[], (List.append_nil io).symm⟩, fun _ _ h e => ⟨e, h⟩⟩
theorem Ex.trans {io jo ko : List Addr} {H J L : Hp} (a : Ex io H jo J) (b : Ex jo J ko L) : Ex io H ko L := by
  obtain ⟨l, rfl⟩ := a.pre
  obtain ⟨m, rfl⟩ := b.pre
  exact ⟨⟨l ++ m, List.append_assoc _ _ _⟩, fun x o h e => let ⟨e1, h1⟩ := a.fr x o h e; b.fr x o h1 e1⟩
theorem Ex.get {io jo : List Addr} {H J : Hp} (a : Ex io H jo J) {n : Nat} {x : Addr} (h : io[n]? = some x) : jo[n]? = some x := by
  obtain ⟨l, rfl⟩ := a.pre
  rw [List.getElem?_append_left (List.getElem?_eq_some_iff.mp h).1]
  exact h
section
variable {K : Fg} {mg : Mg} {io jo : List Addr} {H J : Hp} {S : Vs}
theorem Sim.mem (s : Sim K mg io H S) {a : Addr} (h : a ∈ io) : ∃ (n : Nat) (o : Ob), io[n]? = some a ∧ S[n]? = some o ∧ At K mg io H a o := by
  obtain ⟨n, hn⟩ := List.mem_iff_getElem?.mp h
  have hl : n < S.length := by rw [← s.len]; exact (List.getElem?_eq_some_iff.mp hn).1
  obtain ⟨b, hb, q⟩ := s.at_ n _ (List.getElem?_eq_getElem hl)
  rw [hn] at hb
  cases hb
  exact ⟨n, _, hn, List.getElem?_eq_getElem hl, q⟩
/-- at a place there is a list, a dict, an instance, or a locked dict -/
theorem At.is {a : Addr} {o : Ob} (h : At K mg io H a o) : (∃ u, H a = some u ∧ Mut (some u)) ∨ (∃ ob kvs, H a = some (.frz ob (.dK kvs))) ∨ ∃ ob kvs, H a = some (.frz ob (.dT kvs)) := by
  cases h with
  | mk e r => cases r <;> exact .inl ⟨_, e, trivial⟩
  | lck e _ => exact .inr (.inl ⟨_, _, e⟩)
  | lckT e _ => exact .inr (.inr ⟨_, _, e⟩)
theorem Sim.off (s : Sim K mg io H S) {a : Addr} {u : HO} (e : H a = some u) (h1 : ¬ Mut (some u)) (h2 : ∀ ob kvs, u ≠ .frz ob (.dK kvs)) (h3 : ∀ ob kvs, u ≠ .frz ob (.dT kvs)) : a ∉ io := fun h => by
  obtain ⟨n, o, _, _, q⟩ := s.mem h
  rcases q.is with ⟨v, e', m⟩ | ⟨ob, kvs, e'⟩ | ⟨ob, kvs, e'⟩
  · rw [e] at e'; cases e'; exact h1 m
  · rw [e] at e'; cases e'; exact h2 _ _ rfl
  · rw [e] at e'; cases e'; exact h3 _ _ rfl
theorem sqT_mono (s : Sim K mg io H S) (x : Ex io H jo J) {a : Addr} {xs : List V} (h : SqT K H a xs) : SqT K J a xs := by
  rcases h with (h | ⟨o, h⟩) | h
  · exact .inl (.inl (x.fr a _ (s.off h id (fun _ _ => nofun) (fun _ _ => nofun)) h).1)
  · exact .inl (.inr ⟨o, (x.fr a _ (s.off h id (fun _ _ => nofun) (fun _ _ => nofun)) h).1⟩)
  · exact .inr h
mutual
theorem Rep.mono (s : Sim K mg io H S) (x : Ex io H jo J) : ∀ {w : W} {v : V}, Rep K mg io H w v → Rep K mg jo J w v
  | _, _, .non => .non
  | _, _, .bl b => .bl b
  | _, _, .int i => .int i
  | _, _, .str y => .str y
  | _, _, .tup h r => .tup (sqT_mono s x h) (Reps.mono s x r)
  | _, _, .ref h => .ref (x.get h)
  | _, _, .glo h => .glo h
  | _, _, .ty n => .ty n
  | _, _, .scr h => .scr (match h with
    | .inl ⟨o, h⟩ => .inl ⟨o, (x.fr _ _ (s.off h id (fun _ _ => nofun) (fun _ _ => nofun)) h).1⟩
    | .inr h => .inr h)
theorem Reps.mono (s : Sim K mg io H S) (x : Ex io H jo J) : ∀ {l : List W} {xs : List V}, Reps K mg io H l xs → Reps K mg jo J l xs
  | _, _, .nil => .nil
  | _, _, .cons r t => .cons (Rep.mono s x r) (Reps.mono s x t)
end
theorem RepP.mono {κ : Type} (s : Sim K mg io H S) (x : Ex io H jo J) : ∀ {l : List (κ × W)} {xs : List (κ × V)}, RepP K mg io H l xs → RepP K mg jo J l xs
  | _, _, .nil => .nil
  | _, _, .cons r t => .cons (Rep.mono s x r) (RepP.mono s x t)
theorem RepU.mono (s : Sim K mg io H S) (x : Ex io H jo J) {u : HO} {o : Ob} (h : RepU K mg io H u o) : RepU K mg jo J u o := by
  cases h with
  | lst r => exact .lst (r.mono s x)
  | dct r => exact .dct (r.mono s x)
  | dtt r => exact .dtt (r.mono s x)
  | ins e c n r => exact .ins e c n (r.mono s x)
/-- the object at a place is the same later -/
theorem At.mono (s : Sim K mg io H S) (x : Ex io H jo J) {a : Addr} {o : Ob} (h : At K mg io H a o) (e : J a = H a) : At K mg jo J a o := by
  cases h with
  | mk e' r => exact .mk (e.trans e') (r.mono s x)
  | lck e' r => exact .lck (e.trans e') (r.mono s x)
  | lckT e' r => exact .lckT (e.trans e') (r.mono s x)
/-- tuples and locked lists stand -/
structure Kt (H J : Hp) : Prop where
  tup : ∀ a xs, H a = some (.tup xs) → J a = some (.tup xs)
  ftup : ∀ a o xs, H a = some (.frz o (.tup xs)) → J a = some (.frz o (.tup xs))
  flst : ∀ a o xs, H a = some (.frz o (.lst xs)) → J a = some (.frz o (.lst xs))
mutual
theorem Rep.keep (k : Kt H J) : ∀ {w : W} {v : V}, Rep K mg io H w v → Rep K mg io J w v
  | _, _, .non => .non
  | _, _, .bl b => .bl b
  | _, _, .int i => .int i
  | _, _, .str y => .str y
  | _, _, .tup h r => .tup (match h with
    | .inl (.inl h) => .inl (.inl (k.tup _ _ h))
    | .inl (.inr ⟨o, h⟩) => .inl (.inr ⟨o, k.ftup _ _ _ h⟩)
    | .inr h => .inr h) (Reps.keep k r)
  | _, _, .ref h => .ref h
  | _, _, .glo h => .glo h
  | _, _, .ty n => .ty n
  | _, _, .scr h => .scr (match h with
    | .inl ⟨o, h⟩ => .inl ⟨o, k.flst _ _ _ h⟩
    | .inr h => .inr h)
theorem Reps.keep (k : Kt H J) : ∀ {l : List W} {xs : List V}, Reps K mg io H l xs → Reps K mg io J l xs
  | _, _, .nil => .nil
  | _, _, .cons r t => .cons (Rep.keep k r) (Reps.keep k t)
end
theorem RepP.keep {κ : Type} (k : Kt H J) : ∀ {l : List (κ × W)} {xs : List (κ × V)}, RepP K mg io H l xs → RepP K mg io J l xs
  | _, _, .nil => .nil
  | _, _, .cons r t => .cons (Rep.keep k r) (RepP.keep k t)
theorem At.keep (k : Kt H J) {a : Addr} {o : Ob} (h : At K mg io H a o) (e : J a = H a) : At K mg io J a o := by
  cases h with
  | mk e' r =>
    refine .mk (e.trans e') ?_
    cases r with
    | lst r => exact .lst (r.keep k)
    | dct r => exact .dct (r.keep k)
    | dtt r => exact .dtt (r.keep k)
    | ins e c n r => exact .ins e c n (r.keep k)
  | lck e' r => exact .lck (e.trans e') (r.keep k)
  | lckT e' r => exact .lckT (e.trans e') (r.keep k)
/-- a list beside the places is changed -/
theorem Kt.side {p : Addr} {xs : List V} {u : HO} (h : H p = some (.lst xs)) : Kt H (upd H p u) where
  tup := fun a ys e => by rw [upd_ne]; exact e; intro z; subst z; rw [h] at e; cases e
  ftup := fun a o ys e => by rw [upd_ne]; exact e; intro z; subst z; rw [h] at e; cases e
  flst := fun a o ys e => by rw [upd_ne]; exact e; intro z; subst z; rw [h] at e; cases e
theorem Sim.side (s : Sim K mg io H S) {p : Addr} {xs : List V} {u : HO} (h : H p = some (.lst xs)) (hp : p ∉ io) : Sim K mg io (upd H p u) S := ⟨s.len, s.nd, fun n ob e => by
  obtain ⟨a, ha, q⟩ := s.at_ n ob e
  have hm : a ∈ io := List.mem_iff_getElem?.mpr ⟨n, ha⟩
  exact ⟨a, ha, q.keep (Kt.side h) (by rw [upd_ne]; intro z; subst z; exact hp hm)⟩⟩
theorem Reps.length : ∀ {l : List W} {xs : List V}, Reps K mg io H l xs → l.length = xs.length
  | _, _, .nil => rfl
  | _, _, .cons _ t => congrArg (· + 1) (Reps.length t)
theorem Reps.get : ∀ {l : List W} {xs : List V}, Reps K mg io H l xs → ∀ {i : Nat} {w : W}, l[i]? = some w → ∃ v, xs[i]? = some v ∧ Rep K mg io H w v
  | _, _, .nil, i, w, h => by simp at h
  | _, _, .cons r t, 0, w, h => by simp at h; subst h; exact ⟨_, rfl, r⟩
  | _, _, .cons r t, i + 1, w, h => by
    obtain ⟨v, h1, h2⟩ := Reps.get t (i := i) (w := w) (by simpa using h)
    exact ⟨v, by simpa using h1, h2⟩
theorem Reps.append : ∀ {l : List W} {xs : List V} {m : List W} {ys : List V}, Reps K mg io H l xs → Reps K mg io H m ys → Reps K mg io H (l ++ m) (xs ++ ys)
  | _, _, _, _, .nil, h => h
  | _, _, _, _, .cons r t, h => .cons r (Reps.append t h)
theorem Reps.take : ∀ {l : List W} {xs : List V} (n : Nat), Reps K mg io H l xs → Reps K mg io H (l.take n) (xs.take n)
  | _, _, 0, _ => by simp; exact .nil
  | _, _, n + 1, .nil => .nil
  | _, _, n + 1, .cons r t => .cons r (Reps.take n t)
theorem Reps.drop : ∀ {l : List W} {xs : List V} (n : Nat), Reps K mg io H l xs → Reps K mg io H (l.drop n) (xs.drop n)
  | _, _, 0, h => h
  | _, _, n + 1, .nil => .nil
  | _, _, n + 1, .cons r t => Reps.drop n t
theorem Reps.set {w : W} {v : V} (r : Rep K mg io H w v) : ∀ {l : List W} {xs : List V} (i : Nat), Reps K mg io H l xs → Reps K mg io H (l.set i w) (xs.set i v)
  | _, _, _, .nil => .nil
  | _, _, 0, .cons _ t => .cons r t
  | _, _, i + 1, .cons q t => .cons q (Reps.set r i t)
theorem Reps.flat : ∀ (k : Nat) {l : List W} {xs : List V}, Reps K mg io H l xs → Reps K mg io H (List.replicate k l).flatten (List.replicate k xs).flatten
  | 0, _, _, _ => .nil
  | k + 1, _, _, h => by
    rw [List.replicate_succ, List.replicate_succ, List.flatten_cons, List.flatten_cons]
    exact h.append (Reps.flat k h)
theorem nodup_ixA : ∀ {l : List Addr}, l.Nodup → ∀ {i j : Nat} {x : Addr}, l[i]? = some x → l[j]? = some x → i = j
  | [], _, i, j, x, h, _ => by simp at h
  | a :: l, nd, 0, 0, x, _, _ => rfl
  | a :: l, nd, 0, j + 1, x, h, g => by
    simp at h g
    subst h
    exact absurd (List.mem_iff_getElem?.mpr ⟨j, g⟩) (List.nodup_cons.mp nd).1
  | a :: l, nd, i + 1, 0, x, h, g => by
    simp at h g
    subst g
    exact absurd (List.mem_iff_getElem?.mpr ⟨i, h⟩) (List.nodup_cons.mp nd).1
  | a :: l, nd, i + 1, j + 1, x, h, g => by
    simp at h g
    exact congrArg (· + 1) (nodup_ixA (List.nodup_cons.mp nd).2 h g)
/-- a new place -/
theorem Ex.push {p : Addr} {o : HO} (h : H p = none) : Ex io H (io ++ [p]) (upd H p o) := ⟨⟨[p], rfl⟩, fun a u ha e => by
  have hne : a ≠ p := ne_of_none e h
  exact ⟨by rw [upd_ne hne]; exact e, fun m => by rcases List.mem_append.mp m with m | m; exact ha m; exact hne (List.mem_singleton.mp m)⟩⟩
/-- a new object beside the places -/
theorem Ex.new {p : Addr} {o : HO} (h : H p = none) : Ex io H io (upd H p o) := ⟨⟨[], (List.append_nil io).symm⟩, fun a u ha e => ⟨by rw [upd_ne (ne_of_none e h)]; exact e, ha⟩⟩
theorem Sim.there (s : Sim K mg io H S) {a : Addr} (h : a ∈ io) : ∃ u, H a = some u := by
  obtain ⟨n, o, _, _, q⟩ := s.mem h
  rcases q.is with ⟨u, e, _⟩ | ⟨_, _, e⟩ | ⟨_, _, e⟩ <;> exact ⟨_, e⟩
theorem Sim.fresh (s : Sim K mg io H S) {p : Addr} (h : H p = none) : p ∉ io := fun m => by
  obtain ⟨u, e⟩ := s.there m
  rw [h] at e; cases e
theorem Sim.new (s : Sim K mg io H S) {p : Addr} {o : HO} (h : H p = none) : Sim K mg io (upd H p o) S := ⟨s.len, s.nd, fun n ob e => by
  obtain ⟨a, ha, q⟩ := s.at_ n ob e
  have hm : a ∈ io := List.mem_iff_getElem?.mpr ⟨n, ha⟩
  exact ⟨a, ha, q.mono s (Ex.new h) (by rw [upd_ne]; intro z; subst z; exact s.fresh h hm)⟩⟩
theorem Sim.push (s : Sim K mg io H S) {p : Addr} {u : HO} {o : Ob} (h : H p = none) (r : RepU K mg io H u o) : Sim K mg (io ++ [p]) (upd H p u) (S ++ [o]) := by
  have hp := s.fresh h
  refine ⟨by simp [s.len], ?_, fun n ob e => ?_⟩
  · rw [List.nodup_append]
    exact ⟨s.nd, by simp, fun a ha b hb => by rw [List.mem_singleton.mp hb]; exact fun z => hp (z ▸ ha)⟩
  · by_cases hn : n < S.length
    · rw [List.getElem?_append_left hn] at e
      obtain ⟨a, ha, q⟩ := s.at_ n ob e
      have hm : a ∈ io := List.mem_iff_getElem?.mpr ⟨n, ha⟩
      exact ⟨a, (Ex.push (o := u) h).get ha, q.mono s (Ex.push h) (by rw [upd_ne]; intro z; subst z; exact hp hm)⟩
    · have hl : n < (S ++ [o]).length := (List.getElem?_eq_some_iff.mp e).1
      have hn2 : n = S.length := by simp at hl; omega
      subst hn2
      simp at e
      subst e
      exact ⟨p, by rw [← s.len]; simp, .mk upd_same (r.mono s (Ex.push h))⟩
theorem Ex.write {a : Addr} {u : HO} (h : a ∈ io) : Ex io H io (upd H a u) := ⟨⟨[], (List.append_nil io).symm⟩, fun b o hb e => ⟨by rw [upd_ne]; exact e; intro z; subst z; exact hb h, hb⟩⟩
theorem Sim.write (s : Sim K mg io H S) {n : Nat} {a : Addr} {u : HO} {o : Ob} (ha : io[n]? = some a) (r : RepU K mg io H u o) : Sim K mg io (upd H a u) (S.set n o) := by
  have hm : a ∈ io := List.mem_iff_getElem?.mpr ⟨n, ha⟩
  have hn : n < S.length := by rw [← s.len]; exact (List.getElem?_eq_some_iff.mp ha).1
  refine ⟨by rw [List.length_set]; exact s.len, s.nd, fun m ob e => ?_⟩
  by_cases hmn : n = m
  · subst hmn
    rw [List.getElem?_set_self hn] at e
    cases e
    exact ⟨a, ha, .mk upd_same (r.mono s (Ex.write hm))⟩
  · rw [List.getElem?_set_ne hmn] at e
    obtain ⟨b, hb, q⟩ := s.at_ m ob e
    refine ⟨b, hb, q.mono s (Ex.write hm) ?_⟩
    rw [upd_ne]
    intro z
    subst z
    exact hmn (nodup_ixA s.nd ha hb)
/-- the place of a value -/
theorem Sim.lst (s : Sim K mg io H S) {n : Nat} {a : Addr} {l : List W} (ha : io[n]? = some a) (e : S[n]? = some (.lst l)) : ∃ xs, H a = some (.lst xs) ∧ Reps K mg io H l xs := by
  obtain ⟨b, hb, q⟩ := s.at_ n _ e
  rw [ha] at hb
  cases hb
  cases q with
  | mk e' r =>
    cases r with
    | lst r => exact ⟨_, e', r⟩
theorem Sim.ins (s : Sim K mg io H S) {n : Nat} {a : Addr} {c : Str} {fw : List (Str × W)} (ha : io[n]? = some a) (e : S[n]? = some (.ins c fw)) : ∃ C dx fs, H a = some (.ins C dx fs) ∧ mg c = some (.ref C) ∧ Cls K C ∧ (∀ f ∈ fw.map (·.1), NoAttr K C f) ∧ RepP K mg io H fw fs := by
  obtain ⟨b, hb, q⟩ := s.at_ n _ e
  rw [ha] at hb
  cases hb
  cases q with
  | mk e' r =>
    cases r with
    | ins e2 c n r => exact ⟨_, _, _, e', e2, c, n, r⟩
mutual
theorem Rep.more (hp : ∀ {n : Nat} {a : Addr}, io[n]? = some a → jo[n]? = some a) : ∀ {w : W} {v : V}, Rep K mg io H w v → Rep K mg jo H w v
  | _, _, .non => .non
  | _, _, .bl b => .bl b
  | _, _, .int i => .int i
  | _, _, .str y => .str y
  | _, _, .tup h r => .tup h (Reps.more hp r)
  | _, _, .ref h => .ref (hp h)
  | _, _, .glo h => .glo h
  | _, _, .ty n => .ty n
  | _, _, .scr h => .scr h
theorem Reps.more (hp : ∀ {n : Nat} {a : Addr}, io[n]? = some a → jo[n]? = some a) : ∀ {l : List W} {xs : List V}, Reps K mg io H l xs → Reps K mg jo H l xs
  | _, _, .nil => .nil
  | _, _, .cons r t => .cons (Rep.more hp r) (Reps.more hp t)
end
theorem RepP.more {κ : Type} (hp : ∀ {n : Nat} {a : Addr}, io[n]? = some a → jo[n]? = some a) : ∀ {l : List (κ × W)} {xs : List (κ × V)}, RepP K mg io H l xs → RepP K mg jo H l xs
  | _, _, .nil => .nil
  | _, _, .cons r t => .cons (Rep.more hp r) (RepP.more hp t)
theorem RepU.more (hp : ∀ {n : Nat} {a : Addr}, io[n]? = some a → jo[n]? = some a) {u : HO} {o : Ob} (h : RepU K mg io H u o) : RepU K mg jo H u o := by
  cases h with
  | lst r => exact .lst (r.more hp)
  | dct r => exact .dct (r.more hp)
  | dtt r => exact .dtt (r.more hp)
  | ins e c n r => exact .ins e c n (r.more hp)
theorem At.more (hp : ∀ {n : Nat} {a : Addr}, io[n]? = some a → jo[n]? = some a) {a : Addr} {o : Ob} (h : At K mg io H a o) : At K mg jo H a o := by
  cases h with
  | mk e' r => exact .mk e' (r.more hp)
  | lck e' r => exact .lck e' (r.more hp)
  | lckT e' r => exact .lckT e' (r.more hp)
/-- an object that is tracked beside the places becomes one -/
theorem Sim.adopt2 (s : Sim K mg io H S) {p : Addr} {u : HO} {o : Ob} (h : H p = some u) (hp : p ∉ io) (r : RepU K mg io H u o) : Sim K mg (io ++ [p]) H (S ++ [o]) := by
  have hm : ∀ {n : Nat} {a : Addr}, io[n]? = some a → (io ++ [p])[n]? = some a := fun h => by
    rw [List.getElem?_append_left (List.getElem?_eq_some_iff.mp h).1]
    exact h
  refine ⟨by simp [s.len], ?_, fun n ob e => ?_⟩
  · rw [List.nodup_append]
    exact ⟨s.nd, by simp, fun a ha b hb => by rw [List.mem_singleton.mp hb]; exact fun z => hp (z ▸ ha)⟩
  · by_cases hn : n < S.length
    · rw [List.getElem?_append_left hn] at e
      obtain ⟨a, ha, q⟩ := s.at_ n ob e
      exact ⟨a, hm ha, q.more hm⟩
    · have hl : n < (S ++ [o]).length := (List.getElem?_eq_some_iff.mp e).1
      have hn2 : n = S.length := by simp at hl; omega
      subst hn2
      simp at e
      subst e
      exact ⟨p, by rw [← s.len]; simp, .mk h (r.more hm)⟩
end
end Vm
set_option Elab.async false
set_option linter.all false
set_option maxRecDepth 100000
set_option maxHeartbeats 1000000
/-! Expressions: the interpreter's answer is the machine's. -/
namespace Vm
open PySem L2
/-- an exception as the machine has it -/
def RepX (K : Fg) (mg : Mg) (io : List Addr) (H : Hp) (x : Exn) (cls : Value) (d : Option Addr) : Prop :=
  ∃ C, mg x.cls = some (.ref C) ∧ cls = .ref C ∧ ((x.fs = [] ∧ d = none) ∨ ∃ dd fs, d = some dd ∧ H dd = some (.xd fs) ∧ RepP K mg io H x.fs fs ∧ dd ∉ io)
/-- what is wanted behind the interpreter's answer -/
def Po {α β : Type} (K : Fg) (mg : Mg) (Wx : WX) (R : List Addr → Hp → α → β → Prop) (o : Out α) (io : List Addr) (H : Hp) (σ : L2.St) (Q : β → Hp → Prop) : Prop := match o with
  | .ok a S' => ∀ io' b H', Ex io H io' H' → Sim K mg io' H' S' → R io' H' a b → Q b H'
  | .exc x S' => ∀ io' H' cls d, Ex io H io' H' → Sim K mg io' H' S' → RepX K mg io' H' x cls d → Wx cls d σ H'
  | .err => False
structure RepE (K : Fg) (mg : Mg) (io : List Addr) (H : Hp) (r : Rho) (σ : L2.St) : Prop where
  len : r.length = σ.length
  at_ : ∀ (i : Nat) (w : W), r[i]? = some (some w) → ∃ v, σ[i]? = some (some v) ∧ Rep K mg io H w v
section
variable {K : Fg} {mg : Mg} {Wx : WX} {io jo : List Addr} {H J : Hp} {S : Vs} {σ : L2.St} {r : Rho}
theorem RepE.mono (s : Sim K mg io H S) (x : Ex io H jo J) (e : RepE K mg io H r σ) : RepE K mg jo J r σ := ⟨e.len, fun i w h => let ⟨v, h1, h2⟩ := e.at_ i w h; ⟨v, h1, h2.mono s x⟩⟩
theorem RepE.set (e : RepE K mg io H r σ) {w : W} {v : V} (h : Rep K mg io H w v) (i : Nat) : RepE K mg io H (r.set i (some w)) (σ.set i (some v)) := by
  refine ⟨by rw [List.length_set, List.length_set, e.len], fun j u hj => ?_⟩
  by_cases hij : i = j
  · subst hij
    by_cases hl : i < r.length
    · rw [List.getElem?_set_self hl] at hj
      cases hj
      exact ⟨v, List.getElem?_set_self (by rw [← e.len]; exact hl), h⟩
    · rw [List.getElem?_eq_none (by simpa using hl)] at hj
      cases hj
  · rw [List.getElem?_set_ne hij] at hj
    obtain ⟨x, h1, h2⟩ := e.at_ j u hj
    exact ⟨x, by rw [List.getElem?_set_ne hij]; exact h1, h2⟩
theorem Po.ext {α β : Type} {R : List Addr → Hp → α → β → Prop} {o : Out α} {Q : β → Hp → Prop} (x : Ex io H jo J) (p : Po K mg Wx R o io H σ Q) : Po K mg Wx R o jo J σ Q := by
  cases o with
  | ok a S' => exact fun io' b H' x' => p io' b H' (x.trans x')
  | exc y S' => exact fun io' H' cls d x' => p io' H' cls d (x.trans x')
  | err => exact p
theorem Po.bind {α β γ δ : Type} {R : List Addr → Hp → α → β → Prop} {R2 : List Addr → Hp → γ → δ → Prop} {o : Out α} {f : α → Vs → Out γ} {Q : δ → Hp → Prop} {Y : β → Hp → Prop} (p : Po K mg Wx R2 (o.bind f) io H σ Q)
    (h : ∀ a S1 io1 b H1, o = .ok a S1 → Ex io H io1 H1 → Sim K mg io1 H1 S1 → R io1 H1 a b → Po K mg Wx R2 (f a S1) io1 H1 σ Q → Y b H1) : Po K mg Wx R o io H σ Y := by
  cases o with
  | ok a S' => exact fun io' b H' x s q => h a S' io' b H' rfl x s q (Po.ext x p)
  | exc y S' => exact p
  | err => exact p
theorem Po.now {α β : Type} {R : List Addr → Hp → α → β → Prop} {a : α} {b : β} {Q : β → Hp → Prop} (p : Po K mg Wx R (.ok a S) io H σ Q) (s : Sim K mg io H S) (q : R io H a b) : Q b H := p io b H (Ex.refl io H) s q
end
def tr (K : Fg) (mg : Mg) (Wx : WX) (m : Rho → Vs → Out W) : TE := fun σ H Q => ∃ io S r, Sim K mg io H S ∧ RepE K mg io H r σ ∧ Po K mg Wx (Rep K mg) (m r S) io H σ Q
def trA (K : Fg) (mg : Mg) (Wx : WX) (m : Rho → Vs → Out (List W)) : TA := fun σ H Q => ∃ io S r, Sim K mg io H S ∧ RepE K mg io H r σ ∧ Po K mg Wx (Reps K mg) (m r S) io H σ Q
def trT (K : Fg) (mg : Mg) (Wx : WX) (m : Rho → Vs → Out Bool) : TT := fun σ H Q => ∃ io S r, Sim K mg io H S ∧ RepE K mg io H r σ ∧ Po K mg Wx (fun _ _ a b => a = b) (m r S) io H σ Q
section
variable {X : Cx} {e : Expr}
theorem peMono {t t' : TE} (h : PE X e t) (k : ∀ σ H Q, t' σ H Q → t σ H Q) : PE X e t' := ⟨fun pins s σ H Q I q => h.run pins s σ H Q I (k σ H Q q)⟩
theorem ptMono {t t' : TT} (h : PT X e t) (k : ∀ σ H Q, t' σ H Q → t σ H Q) : PT X e t' := ⟨fun pins s σ H Q I q => h.run pins s σ H Q I (k σ H Q q)⟩
theorem paMono {es : List Expr} {t t' : TA} (h : PA X es t) (k : ∀ σ H Q, t' σ H Q → t σ H Q) : PA X es t' := ⟨fun pos pins s σ H Q I q => h.run pos pins s σ H Q I (k σ H Q q)⟩
/-- one of several readings -/
theorem peAny {ι : Type} {t : ι → TE} (h : ∀ i, PE X e (t i)) : PE X e (fun σ H Q => ∃ i, t i σ H Q) := ⟨fun pins s σ H Q I ⟨i, q⟩ => (h i).run pins s σ H Q I q⟩
theorem peOr {t u : TE} (h : PE X e t) (g : PE X e u) : PE X e (fun σ H Q => t σ H Q ∨ u σ H Q) := ⟨fun pins s σ H Q I q => q.elim (h.run pins s σ H Q I) (g.run pins s σ H Q I)⟩
end
/-- PV: the expression is the interpreter's ir -/
abbrev PV (X : Cx) (D : Wd) (Wx : WX) (e : Expr) (i : IE) : Prop := PE X e (tr X.K X.mg Wx (den D i))
abbrev PVs (X : Cx) (D : Wd) (Wx : WX) (es : List Expr) (l : IL) : Prop := PA X es (trA X.K X.mg Wx (denL D l))
section
variable {X : Cx} {D : Wd} {Wx : WX} {e a b c : Expr} {ia ib ic : IE} {pos : Pos}
theorem pv_var {i : Nat} {x : Str} (hN : X.N[i]? = some x) (hv : Vis X.env.scope x) (hd : (x == ("__debug__" : Str)) = false) (hcd : (x == ("__classdict__" : Str)) = false) : PV X D Wx (.Name x pos) (.var i) :=
  peMono (pe_var hN hv hd hcd) fun σ H Q ⟨io, S, r, s, e, p⟩ => by
    rw [den] at p
    cases h : r[i]? with
    | none => rw [h] at p; exact p.elim
    | some o =>
      cases o with
      | none => rw [h] at p; exact p.elim
      | some w =>
        rw [h] at p
        obtain ⟨v, h1, h2⟩ := e.at_ i w h
        exact ⟨v, h1, p.now s h2⟩
theorem pv_con {w : W} {v : V} (h : PE X e (tC v)) (hr : ∀ io H, Rep X.K X.mg io H w v) : PV X D Wx e (.con w) :=
  peMono h fun σ H Q ⟨io, S, r, s, e, p⟩ => by
    rw [den] at p
    exact p.now s (hr io H)
/-- a constant of the module -/
theorem pv_glo {x : Str} {v : V} (h : PE X (.Name x pos) (tC v)) (hr : ∀ w, D.gl x = some w → ∀ io H, Rep X.K X.mg io H w v) : PV X D Wx (.Name x pos) (.glo x) :=
  peMono h fun σ H Q ⟨io, S, r, s, e, p⟩ => by
    rw [den] at p
    cases h : D.gl x with
    | none => rw [h] at p; exact p.elim
    | some w => rw [h] at p; exact p.now s (hr w h io H)
/-- two expressions, then what is done with their values -/
theorem two {f : W → W → Vs → Out W} {R : R2} (hf : ∀ (io : List Addr) (H : Hp) (S : Vs) (σ : L2.St) (x y : W) (v u : V) (Q : VK), Sim X.K X.mg io H S → Rep X.K X.mg io H x v → Rep X.K X.mg io H y u → Po X.K X.mg Wx (Rep X.K X.mg) (f x y S) io H σ Q → R v u H Q)
    {σ : L2.St} {H : Hp} {Q : VK} (h : tr X.K X.mg Wx (fun r s => (den D ia r s).bind fun x s1 => (den D ib r s1).bind fun y s2 => f x y s2) σ H Q) : tOp R (tr X.K X.mg Wx (den D ia)) (tr X.K X.mg Wx (den D ib)) σ H Q := by
  obtain ⟨io, S, r, s, e, p⟩ := h
  exact ⟨io, S, r, s, e, p.bind fun x S1 io1 v H1 _ x1 s1 r1 p1 => ⟨io1, S1, r, s1, e.mono s x1, p1.bind fun y S2 io2 u H2 _ x2 s2 r2 p2 => hf io2 H2 S2 σ x y v u Q s2 (r1.mono s1 x2) r2 p2⟩⟩
theorem one {f : W → Vs → Out W} {R : V → Hp → VK → Prop} (hf : ∀ (io : List Addr) (H : Hp) (S : Vs) (σ : L2.St) (x : W) (v : V) (Q : VK), Sim X.K X.mg io H S → Rep X.K X.mg io H x v → Po X.K X.mg Wx (Rep X.K X.mg) (f x S) io H σ Q → R v H Q)
    {σ : L2.St} {H : Hp} {Q : VK} (h : tr X.K X.mg Wx (fun r s => (den D ia r s).bind fun x s1 => f x s1) σ H Q) : tUn R (tr X.K X.mg Wx (den D ia)) σ H Q := by
  obtain ⟨io, S, r, s, e, p⟩ := h
  exact ⟨io, S, r, s, e, p.bind fun x S1 io1 v H1 _ x1 s1 r1 p1 => hf io1 H1 S1 σ x v Q s1 r1 p1⟩
end

/-! ### the operators -/
section
variable {X : Cx} {Wx : WX} {io : List Addr} {H : Hp} {S : Vs} {σ : L2.St} {x y : W} {v u : V} {Q : VK}
abbrev VOk (K : Fg) (mg : Mg) (Wx : WX) (f : W → W → Vs → Out W) (R : R2) : Prop := ∀ (io : List Addr) (H : Hp) (S : Vs) (σ : L2.St) (x y : W) (v u : V) (Q : VK), Sim K mg io H S → Rep K mg io H x v → Rep K mg io H y u → Po K mg Wx (Rep K mg) (f x y S) io H σ Q → R v u H Q
def rCatS : R2 := fun x y H Q => ∃ i j, x = .str i ∧ y = .str j ∧ i.length + j.length ≤ sizeLine ∧ Q (.str (i ++ j)) H
def rAddA (K : Fg) : R2 := fun x y H Q => (((rI0 fun i j => .int (i + j)) x y H Q ∨ rCatS x y H Q) ∨ rCatA K x y H Q) ∨ rCat x y H Q
theorem op_addA : OpR X (binaryOp .Add) (rAddA X.K) := ((op_add.or op_add_str).or op_catA).or op_cat
theorem fits_le {n : Nat} (h : fits n = true) : n ≤ sizeLine := of_decide_eq_true h
theorem Sim.nu (s : Sim X.K X.mg io H S) (l : List W) (xs : List V) (r : Reps X.K X.mg io H l xs) {Q : VK} (p : Po X.K X.mg Wx (Rep X.K X.mg) (newL l S) io H σ Q) (q : Addr) (hq : H q = none) : Q (.ref q) (upd H q (.lst xs)) :=
  p _ _ _ (Ex.push hq) (s.push hq (.lst r)) (.ref (by rw [← s.len]; simp))
theorem Sim.tupNew (s : Sim X.K X.mg io H S) {l : List W} {xs : List V} (r : Reps X.K X.mg io H l xs) {Q : VK} (p : Po X.K X.mg Wx (Rep X.K X.mg) (.ok (.tup l) S) io H σ Q) (q : Addr) (hq : H q = none) : Q (.ref q) (upd H q (.tup xs)) :=
  p _ _ _ (Ex.new hq) (s.new hq) (.tup (SqT.of upd_same) (r.mono s (Ex.new hq)))
theorem add_ok : VOk X.K X.mg Wx (binV .add) (rAddA X.K) := fun io H S σ x y v u Q s rx ry p => by
  cases rx with
  | int i =>
    cases ry with
    | int j => exact .inl (.inl (.inl ⟨i, j, rfl, rfl, p.now s (.int _)⟩))
    | _ => exact p.elim
  | str i =>
    cases ry with
    | str j =>
      have p : Po X.K X.mg Wx (Rep X.K X.mg) (if fits (i.length + j.length) then .ok (.str (i ++ j)) S else .err) io H σ Q := p
      by_cases hf : fits (i.length + j.length) = true
      · rw [if_pos hf] at p
        exact .inl (.inl (.inr ⟨i, j, rfl, rfl, fits_le hf, p.now s (.str _)⟩))
      · rw [if_neg hf] at p
        exact p.elim
    | _ => exact p.elim
  | tup h r =>
    rename_i l a xs
    cases ry with
    | tup h2 r2 =>
      rename_i m b ys
      have p : Po X.K X.mg Wx (Rep X.K X.mg) (if fits (l.length + m.length) then .ok (.tup (l ++ m)) S else .err) io H σ Q := p
      by_cases hf : fits (l.length + m.length) = true
      · rw [if_pos hf] at p
        refine .inl (.inr ⟨a, b, xs, ys, rfl, rfl, h, h2, by rw [← r.length, ← r2.length]; exact fits_le hf, ?_⟩)
        exact ⟨fun e => by subst e; cases r; exact p.now s (.tup h2 r2), fun _ e => by subst e; cases r2; exact p.now s (.tup h (by simpa using r)), fun _ _ q hq => s.tupNew (r.append r2) p q hq⟩
      · rw [if_neg hf] at p
        exact p.elim
    | _ => exact p.elim
  | ref h =>
    rename_i n a
    cases ry with
    | ref h2 =>
      rename_i m b
      have p : Po X.K X.mg Wx (Rep X.K X.mg) (match S[n]?, S[m]? with
        | some (.lst l), some (.lst m) => if fits (l.length + m.length) then newL (l ++ m) S else .err
        | _, _ => .err) io H σ Q := p
      split at p
      · rename_i l m2 e1 e2
        obtain ⟨xs, hx, r1⟩ := s.lst h e1
        obtain ⟨ys, hy, r2⟩ := s.lst h2 e2
        by_cases hf : fits (l.length + m2.length) = true
        · rw [if_pos hf] at p
          exact .inr ⟨a, b, xs, ys, rfl, rfl, hx, hy, by rw [← r1.length, ← r2.length]; exact fits_le hf, fun q hq => s.nu _ _ (r1.append r2) p q hq⟩
        · rw [if_neg hf] at p
          exact p.elim
      · exact p.elim
    | _ => exact p.elim
  | _ => exact p.elim
theorem sub_ok : VOk X.K X.mg Wx (binV .sub) (rI0 fun i j => .int (i - j)) := fun io H S σ x y v u Q s rx ry p => by
  cases rx with
  | int i =>
    cases ry with
    | int j => exact ⟨i, j, rfl, rfl, p.now s (.int _)⟩
    | _ => exact p.elim
  | _ => exact p.elim
def rMulA : R2 := fun x y H Q => rI CMulW (fun i j => .int (i * j)) x y H Q ∨ rRep x y H Q
theorem op_mulA : OpR X (binaryOp .Mult) rMulA := op_mulW.or op_rep
theorem mul_ok : VOk X.K X.mg Wx (binV .mul) rMulA := fun io H S σ x y v u Q s rx ry p => by
  cases rx with
  | int i =>
    cases ry with
    | int j =>
      have p : Po X.K X.mg Wx (Rep X.K X.mg) (if mulFits i j then .ok (.int (i * j)) S else .err) io H σ Q := p
      by_cases hf : mulFits i j = true
      · rw [if_pos hf] at p
        exact .inl ⟨i, j, rfl, rfl, (show i.natAbs.log2 + j.natAbs.log2 < 1000000 from of_decide_eq_true hf), p.now s (.int _)⟩
      · rw [if_neg hf] at p
        exact p.elim
    | _ => exact p.elim
  | ref h =>
    rename_i n a
    cases ry with
    | int k =>
      have p : Po X.K X.mg Wx (Rep X.K X.mg) (match S[n]? with
        | some (.lst l) => if decide (-(2 ^ 63) ≤ k ∧ k < 2 ^ 63) && fits (l.length * k.toNat) then newL (List.replicate k.toNat l).flatten S else .err
        | _ => .err) io H σ Q := p
      split at p
      · rename_i l e1
        obtain ⟨xs, hx, r1⟩ := s.lst h e1
        by_cases hf : (decide (-(2 ^ 63) ≤ k ∧ k < 2 ^ 63) && fits (l.length * k.toNat)) = true
        · rw [if_pos hf] at p
          rw [Bool.and_eq_true] at hf
          obtain ⟨h1, h2⟩ := of_decide_eq_true hf.1
          exact .inr ⟨a, k, xs, rfl, rfl, hx, h1, h2, by rw [← r1.length]; exact fits_le hf.2, fun q hq => s.nu _ _ (Reps.flat k.toNat r1) p q hq⟩
        · rw [if_neg hf] at p
          exact p.elim
      · exact p.elim
    | _ => exact p.elim
  | _ => exact p.elim
def CFd (i j : Int) : Prop := j ≠ 0 ∧ Builtin.divisionGoesByPylong i j = false
theorem op_fdivA : OpR X (binaryOp .FloorDiv) (rI CFd fun i j => .int (i.fdiv j)) := opI fun i j _ _ _ _ _ hc q => PyProof.Rows.floordiv_int hc.1 q (.inl hc.2)
theorem fdiv_ok : VOk X.K X.mg Wx (binV .fdiv) (rI CFd fun i j => .int (i.fdiv j)) := fun io H S σ x y v u Q s rx ry p => by
  cases rx with
  | int i =>
    cases ry with
    | int j =>
      have p : Po X.K X.mg Wx (Rep X.K X.mg) (if j == 0 then .err else if Builtin.divisionGoesByPylong i j then .err else .ok (.int (i.fdiv j)) S) io H σ Q := p
      by_cases h0 : (j == 0) = true
      · rw [if_pos h0] at p; exact p.elim
      · rw [if_neg h0] at p
        by_cases h1 : Builtin.divisionGoesByPylong i j = true
        · rw [if_pos h1] at p; exact p.elim
        · rw [if_neg h1] at p
          exact ⟨i, j, rfl, rfl, ⟨by simpa using h0, by simpa using h1⟩, p.now s (.int _)⟩
    | _ => exact p.elim
  | _ => exact p.elim
theorem mod_ok : VOk X.K X.mg Wx (binV .mod) (rI (fun _ j => j ≠ 0) fun i j => .int (i.fmod j)) := fun io H S σ x y v u Q s rx ry p => by
  cases rx with
  | int i =>
    cases ry with
    | int j =>
      have p : Po X.K X.mg Wx (Rep X.K X.mg) (if j == 0 then .err else .ok (.int (i.fmod j)) S) io H σ Q := p
      by_cases h0 : (j == 0) = true
      · rw [if_pos h0] at p; exact p.elim
      · rw [if_neg h0] at p
        exact ⟨i, j, rfl, rfl, by simpa using h0, p.now s (.int _)⟩
    | _ => exact p.elim
  | _ => exact p.elim
theorem pow_ok : VOk X.K X.mg Wx (binV .pow) (rI CPow fun i j => .int (i ^ j.toNat)) := fun io H S σ x y v u Q s rx ry p => by
  cases rx with
  | int i =>
    cases ry with
    | int j =>
      have p : Po X.K X.mg Wx (Rep X.K X.mg) (if decide (0 ≤ j ∧ j ≤ 1000000 ∧ i.natAbs < 2 ^ 64) then .ok (.int (i ^ j.toNat)) S else .err) io H σ Q := p
      by_cases h0 : decide (0 ≤ j ∧ j ≤ 1000000 ∧ i.natAbs < 2 ^ 64) = true
      · rw [if_pos h0] at p
        exact ⟨i, j, rfl, rfl, (show 0 ≤ j ∧ j ≤ 1000000 ∧ i.natAbs < 2 ^ 64 from of_decide_eq_true h0), p.now s (.int _)⟩
      · rw [if_neg h0] at p; exact p.elim
    | _ => exact p.elim
  | _ => exact p.elim
end
def opOf : BOp → Operator
  | .add => .Add | .sub => .Sub | .mul => .Mult | .fdiv => .FloorDiv | .mod => .Mod | .pow => .Pow
section
variable {X : Cx} {D : Wd} {Wx : WX} {e a b c : Expr} {ia ib ic : IE} {pos : Pos}
theorem pv_bin {o : BOp} (ha : PV X D Wx a ia) (hb : PV X D Wx b ib) : PV X D Wx (.BinOp a (opOf o) b pos) (.bin o ia ib) := by
  have k : ∀ {R : R2}, OpR X (binaryOp (opOf o)) R → VOk X.K X.mg Wx (binV o) R → PV X D Wx (.BinOp a (opOf o) b pos) (.bin o ia ib) := fun ho hv =>
    peMono (pe_op ho ha hb) fun σ H Q h => two hv (by
      obtain ⟨io, S, r, s, e, p⟩ := h
      rw [den] at p
      exact ⟨io, S, r, s, e, p⟩)
  cases o with
  | add => exact k op_addA add_ok
  | sub => exact k op_sub sub_ok
  | mul => exact k op_mulA mul_ok
  | fdiv => exact k op_fdivA fdiv_ok
  | mod => exact k op_modN mod_ok
  | pow => exact k op_pow pow_ok
end
end Vm
set_option Elab.async false
set_option linter.all false
set_option maxRecDepth 100000
set_option maxHeartbeats 1000000
/-! Tests, comparisons, tuples, lists, items, fields. -/
namespace Vm
open PySem L2
section
variable {X : Cx} {D : Wd} {Wx : WX} {io : List Addr} {H : Hp} {S : Vs} {σ : L2.St} {x y : W} {v u : V} {Q : VK}
/-! ### a value's truth -/
theorem emp {l : List W} {xs : List V} (r : Reps X.K X.mg io H l xs) : (!l.isEmpty) = !xs.isEmpty := by cases r <;> rfl
theorem empP {κ : Type} {l : List (κ × W)} {xs : List (κ × V)} (r : RepP X.K X.mg io H l xs) : (!l.isEmpty) = !xs.isEmpty := by cases r <;> rfl
theorem truth_get {α : Type} {R : List Addr → Hp → Bool → α → Prop} {Q : α → Hp → Prop} (p : Po X.K X.mg Wx R (truth x S) io H σ Q) : ∃ b, trV S x = some b ∧ Po X.K X.mg Wx R (.ok b S) io H σ Q := by
  unfold truth at p
  cases h : trV S x with
  | none => rw [h] at p; exact p.elim
  | some b => rw [h] at p; exact ⟨b, rfl, p⟩
theorem truth_some {b : Bool} (h : trV S x = some b) : truth x S = .ok b S := by
  unfold truth
  rw [h]
theorem trV_ok {b : Bool} (s : Sim X.K X.mg io H S) (r : Rep X.K X.mg io H x v) (h : trV S x = some b) : TruV X.K v H b := by
  cases r with
  | non => cases h; rfl
  | bl c => cases h; rfl
  | int i => cases h; rfl
  | str y =>
    have h : (if fits y.length then some ((y.length : Int) != 0) else none) = some b := h
    by_cases hf : fits y.length = true
    · rw [if_pos hf] at h; cases h; exact ⟨fits_le hf, rfl⟩
    · rw [if_neg hf] at h; cases h
  | tup h1 r => cases h; exact .inr (.inl ⟨_, h1, emp r⟩)
  | ref h1 =>
    rename_i n a
    have h : (match S[n]? with
      | some (.lst l) => some (!l.isEmpty)
      | some (.dct l) => some (!l.isEmpty)
      | _ => none) = some b := h
    split at h
    · rename_i l e1
      cases h
      obtain ⟨xs, hx, r1⟩ := s.lst h1 e1
      exact .inl ⟨xs, SqL.of hx, emp r1⟩
    · rename_i l e1
      cases h
      obtain ⟨b, hb, q⟩ := s.at_ n _ e1
      rw [h1] at hb
      cases hb
      cases q with
      | mk e' r => cases r with | dct r => exact .inr (.inr ⟨_, e', empP r⟩)
    · cases h
  | glo _ => cases h
  | ty _ => cases h
  | scr _ => cases h
theorem truth_ok {Q : Bool → Hp → Prop} (s : Sim X.K X.mg io H S) (r : Rep X.K X.mg io H x v) (p : Po X.K X.mg Wx (fun _ _ a b => a = b) (truth x S) io H σ Q) : ∃ k, TruV X.K v H k ∧ Q k H := by
  obtain ⟨b, h, p⟩ := truth_get p
  exact ⟨b, trV_ok s r h, p.now s rfl⟩
abbrev PTV (X : Cx) (D : Wd) (Wx : WX) (e : Expr) (i : IE) : Prop := PT X e (trT X.K X.mg Wx (test D i))
theorem Po.assoc {α β γ δ : Type} {K : Fg} {mg : Mg} {R2 : List Addr → Hp → γ → δ → Prop} {o : Out α} {f : α → Vs → Out β} {g : β → Vs → Out γ} {Q : δ → Hp → Prop} (p : Po K mg Wx R2 ((o.bind f).bind g) io H σ Q) : Po K mg Wx R2 (o.bind fun a s => (f a s).bind g) io H σ Q := by
  cases o <;> exact p
/-- the value's own truth: any expression but a comparison, not, and, or, .. if .. else -/
theorem ptv_plain {e : Expr} {i : IE} (h : PV X D Wx e i) (he : ∀ whole, isTrue e X.env whole = (do let v ← whole; standAt e.pos; holding [v] (truthy v))) : PTV X D Wx e i :=
  ptMono (pt_truth h he) fun σ H Q ⟨io, S, r, s, e, p⟩ => ⟨io, S, r, s, e, Po.bind p fun x S1 io1 v H1 _ x1 s1 r1 p1 => truth_ok s1 r1 p1⟩
theorem pv_not {a : Expr} {ia : IE} {pos : Pos} (h : PV X D Wx a ia) : PV X D Wx (.UnaryOp .Not a pos) (.not ia) :=
  peMono (pe_notT h) fun σ H Q ⟨io, S, r, s, e, p⟩ => ⟨io, S, r, s, e, by
    rw [den] at p
    refine p.bind fun x S1 io1 v H1 _ x1 s1 r1 p1 => ?_
    exact truth_ok s1 r1 (p1.bind fun b S2 io2 b' H2 _ x2 s2 hb p2 => by subst hb; exact p2.now s2 (.bl _))⟩
theorem ptv_not {a : Expr} {ia : IE} {pos : Pos} (h : PTV X D Wx a ia) : PTV X D Wx (.UnaryOp .Not a pos) (.not ia) :=
  ptMono (pt_not h) fun σ H Q ⟨io, S, r, s, e, p⟩ => ⟨io, S, r, s, e, by
    unfold test at p ⊢
    rw [den] at p
    have p := Po.assoc p
    cases ha : den D ia r S with
    | ok x S1 =>
      rw [ha] at p
      have p : Po X.K X.mg Wx (fun _ _ a b => a = b) (((truth x S1).bind fun b s2 => .ok (.bl (!b)) s2).bind fun x s1 => truth x s1) io H σ Q := p
      show Po X.K X.mg Wx (fun _ _ a b => a = b) (truth x S1) io H σ _
      cases ht : trV S1 x with
      | none =>
        have e0 : truth x S1 = .err := by unfold truth; rw [ht]
        rw [e0] at p ⊢; exact p
      | some b =>
        rw [truth_some ht] at p ⊢
        intro io' b' H' x' s' hb
        subst hb
        exact p io' _ H' x' s' rfl
    | exc y S1 => rw [ha] at p; exact p
    | err => rw [ha] at p; exact p⟩
/-- (a and ..) as a test: a's answer, then the rest's -/
theorem test_and {ia ib : IE} {r : Rho} {Q : Bool → Hp → Prop} (p : Po X.K X.mg Wx (fun _ _ a b => a = b) (test D (.and ia ib) r S) io H σ Q) (s : Sim X.K X.mg io H S) (e : RepE X.K X.mg io H r σ) :
    Po X.K X.mg Wx (fun _ _ a b => a = b) (test D ia r S) io H σ (fun c H1 => if c = true then trT X.K X.mg Wx (test D ib) σ H1 Q else Q false H1) := by
  unfold test at p ⊢
  rw [den] at p
  have p := Po.assoc p
  cases ha : den D ia r S with
  | ok x S1 =>
    rw [ha] at p
    have p : Po X.K X.mg Wx (fun _ _ a b => a = b) (((truth x S1).bind fun t s2 => if t then den D ib r s2 else .ok x s2).bind fun x s1 => truth x s1) io H σ Q := p
    show Po X.K X.mg Wx (fun _ _ a b => a = b) (truth x S1) io H σ _
    cases ht : trV S1 x with
    | none =>
      have e0 : truth x S1 = .err := by unfold truth; rw [ht]
      rw [e0] at p ⊢; exact p
    | some b =>
      rw [truth_some ht] at p ⊢
      intro io' b' H' x' s' hb
      subst hb
      cases b with
      | true =>
        show trT X.K X.mg Wx (test D ib) σ H' Q
        exact ⟨io', S1, r, s', e.mono s x', Po.ext x' p⟩
      | false =>
        show Q false H'
        have p : Po X.K X.mg Wx (fun _ _ a b => a = b) (truth x S1) io H σ Q := p
        rw [truth_some ht] at p
        exact p io' _ H' x' s' rfl
  | exc y S1 => rw [ha] at p; exact p
  | err => rw [ha] at p; exact p
theorem test_or {ia ib : IE} {r : Rho} {Q : Bool → Hp → Prop} (p : Po X.K X.mg Wx (fun _ _ a b => a = b) (test D (.or ia ib) r S) io H σ Q) (s : Sim X.K X.mg io H S) (e : RepE X.K X.mg io H r σ) :
    Po X.K X.mg Wx (fun _ _ a b => a = b) (test D ia r S) io H σ (fun c H1 => if c = true then Q true H1 else trT X.K X.mg Wx (test D ib) σ H1 Q) := by
  unfold test at p ⊢
  rw [den] at p
  have p := Po.assoc p
  cases ha : den D ia r S with
  | ok x S1 =>
    rw [ha] at p
    have p : Po X.K X.mg Wx (fun _ _ a b => a = b) (((truth x S1).bind fun t s2 => if t then .ok x s2 else den D ib r s2).bind fun x s1 => truth x s1) io H σ Q := p
    show Po X.K X.mg Wx (fun _ _ a b => a = b) (truth x S1) io H σ _
    cases ht : trV S1 x with
    | none =>
      have e0 : truth x S1 = .err := by unfold truth; rw [ht]
      rw [e0] at p ⊢; exact p
    | some b =>
      rw [truth_some ht] at p ⊢
      intro io' b' H' x' s' hb
      subst hb
      cases b with
      | false =>
        show trT X.K X.mg Wx (test D ib) σ H' Q
        exact ⟨io', S1, r, s', e.mono s x', Po.ext x' p⟩
      | true =>
        show Q true H'
        have p : Po X.K X.mg Wx (fun _ _ a b => a = b) (truth x S1) io H σ Q := p
        rw [truth_some ht] at p
        exact p io' _ H' x' s' rfl
  | exc y S1 => rw [ha] at p; exact p
  | err => rw [ha] at p; exact p
abbrev PWV (X : Cx) (D : Wd) (Wx : WX) (e : Expr) (i : IE) : Prop := PW X e (trT X.K X.mg Wx (test D i))
theorem pwMono {e : Expr} {t t' : TT} (h : PW X e t) (k : ∀ σ H Q, t' σ H Q → t σ H Q) : PW X e t' := ⟨fun w pins s σ H Q I q => h.run w pins s σ H Q I (k σ H Q q)⟩
theorem pwv_and1 {a : Expr} {ia : IE} {pos : Pos} (ha : PTV X D Wx a ia) : PWV X D Wx (.BoolOp .And [a] pos) ia := pw_and1 ha
theorem pwv_or1 {a : Expr} {ia : IE} {pos : Pos} (ha : PTV X D Wx a ia) : PWV X D Wx (.BoolOp .Or [a] pos) ia := pw_or1 ha
theorem pwv_and {a b : Expr} {l : List Expr} {ia ib : IE} {pos : Pos} (ha : PTV X D Wx a ia) (hb : PWV X D Wx (.BoolOp .And (b :: l) pos) ib) : PWV X D Wx (.BoolOp .And (a :: b :: l) pos) (.and ia ib) :=
  pwMono (pw_and ha hb) fun σ H Q ⟨io, S, r, s, e, p⟩ => ⟨io, S, r, s, e, test_and p s e⟩
theorem pwv_or {a b : Expr} {l : List Expr} {ia ib : IE} {pos : Pos} (ha : PTV X D Wx a ia) (hb : PWV X D Wx (.BoolOp .Or (b :: l) pos) ib) : PWV X D Wx (.BoolOp .Or (a :: b :: l) pos) (.or ia ib) :=
  pwMono (pw_or ha hb) fun σ H Q ⟨io, S, r, s, e, p⟩ => ⟨io, S, r, s, e, test_or p s e⟩
/-- as values -/
theorem pv_one {o : BoolOp} {a : Expr} {ia : IE} {pos : Pos} (h : PV X D Wx a ia) : PV X D Wx (.BoolOp o [a] pos) ia := pe_one h
theorem truth_two {ia : IE} {r : Rho} {f : Bool → W → Vs → Out W} {P : V → Bool → Hp → Prop} (p : Po X.K X.mg Wx (Rep X.K X.mg) ((den D ia r S).bind fun x s1 => (truth x s1).bind fun t s2 => f t x s2) io H σ Q)
    (k : ∀ t x S1 io1 v H1, Ex io H io1 H1 → Sim X.K X.mg io1 H1 S1 → Rep X.K X.mg io1 H1 x v → Po X.K X.mg Wx (Rep X.K X.mg) (f t x S1) io1 H1 σ Q → P v t H1) :
    Po X.K X.mg Wx (Rep X.K X.mg) (den D ia r S) io H σ (fun v H1 => ∃ k, TruV X.K v H1 k ∧ P v k H1) :=
  p.bind fun x S1 io1 v H1 _ x1 s1 r1 p1 => by
    cases h : trV S1 x with
    | none =>
      have e : truth x S1 = .err := by unfold truth; rw [h]
      rw [e] at p1
      exact p1.elim
    | some b =>
      rw [truth_some h] at p1
      exact ⟨b, trV_ok s1 r1 h, k b x S1 io1 v H1 x1 s1 r1 p1⟩
theorem pv_and {a b : Expr} {l : List Expr} {ia ib : IE} {pos : Pos} (ha : PV X D Wx a ia) (hb : PV X D Wx (.BoolOp .And (b :: l) pos) ib) : PV X D Wx (.BoolOp .And (a :: b :: l) pos) (.and ia ib) :=
  peMono (pe_andT ha hb) fun σ H Q ⟨io, S, r, s, e, p⟩ => ⟨io, S, r, s, e, by
    rw [den] at p
    refine truth_two (f := fun t x s2 => if t then den D ib r s2 else .ok x s2) p fun t x S1 io1 v H1 x1 s1 r1 p1 => ?_
    cases t with
    | true => exact ⟨io1, S1, r, s1, e.mono s x1, p1⟩
    | false => exact p1.now s1 r1⟩
theorem pv_or {a b : Expr} {l : List Expr} {ia ib : IE} {pos : Pos} (ha : PV X D Wx a ia) (hb : PV X D Wx (.BoolOp .Or (b :: l) pos) ib) : PV X D Wx (.BoolOp .Or (a :: b :: l) pos) (.or ia ib) :=
  peMono (pe_orT ha hb) fun σ H Q ⟨io, S, r, s, e, p⟩ => ⟨io, S, r, s, e, by
    rw [den] at p
    refine truth_two (f := fun t x s2 => if t then .ok x s2 else den D ib r s2) p fun t x S1 io1 v H1 x1 s1 r1 p1 => ?_
    cases t with
    | true => exact p1.now s1 r1
    | false => exact ⟨io1, S1, r, s1, e.mono s x1, p1⟩⟩
theorem pv_ite {c a b : Expr} {ic ia ib : IE} {pos : Pos} (hc : PTV X D Wx c ic) (ha : PV X D Wx a ia) (hb : PV X D Wx b ib) : PV X D Wx (.IfExp c a b pos) (.ite ic ia ib) :=
  peMono (pe_ifExp hc ha hb) fun σ H Q ⟨io, S, r, s, e, p⟩ => ⟨io, S, r, s, e, by
    rw [den] at p
    unfold test
    cases hx : den D ic r S with
    | ok x S1 =>
      rw [hx] at p
      have p : Po X.K X.mg Wx (Rep X.K X.mg) ((truth x S1).bind fun t s2 => if t then den D ia r s2 else den D ib r s2) io H σ Q := p
      show Po X.K X.mg Wx (fun _ _ a b => a = b) (truth x S1) io H σ _
      refine p.bind fun t S2 io2 t' H2 _ x2 s2 ht p2 => ?_
      subst ht
      cases t with
      | true => exact ⟨io2, S2, r, s2, e.mono s x2, p2⟩
      | false => exact ⟨io2, S2, r, s2, e.mono s x2, p2⟩
    | exc y S1 => rw [hx] at p; exact p
    | err => rw [hx] at p; exact p⟩
end
end Vm
set_option Elab.async false
set_option linter.all false
set_option maxRecDepth 100000
set_option maxHeartbeats 1000000
/-! Comparisons, tuples, lists, items, slices, fields, built-ins. -/
namespace Vm
open PySem L2
/-! ### what is read off the syntax -/
def notStar : Expr → Bool | .Starred _ _ => false | _ => true
def notComp : Expr → Bool | .ListComp _ _ _ _ => false | .SetComp _ _ _ _ => false | .DictComp _ _ _ _ _ => false | _ => true
def notSet : Expr → Bool | .Set _ _ _ => false | _ => true
def notSlice : Expr → Bool | .Slice _ _ _ _ => false | _ => true
def plainT : Expr → Bool | .UnaryOp _ _ _ => false | .BoolOp _ _ _ => false | .IfExp _ _ _ _ => false | .Compare _ _ _ _ => false | _ => true
def baseOk : Expr → Bool | .Call (.Name id _) [] [] _ => id != "super" | _ => true
theorem star_of {e : Expr} {es : List Expr} {env : Env} (h : notStar e = true) : starEach (e :: es) env = (false, eval e env) :: starEach es env := by cases e <;> first | rfl | cases h
theorem comp_of {e : Expr} {t : Option Expr} {l : Nat} {env : Env} (h : notComp e = true) : swapsWith e t l env = pure false := by cases e <;> first | rfl | cases h
theorem set_of {e : Expr} {env : Env} (h : notSet e = true) (x : Value) : foldedSetIterable e env x = pure x := by cases e <;> first | rfl | cases h
theorem slice_of {e : Expr} (h : notSlice e = true) : PlainIx e := fun o i => by cases e <;> first | rfl | cases h
theorem marks_of {e : Expr} {o : CmpOp} (h : notSet e = true) : behindInMarks o e = false := by cases e <;> first | rfl | cases h
theorem plain_of {e : Expr} {env : Env} (h : plainT e = true) (whole : Sem Value) : isTrue e env whole = (do let v ← whole; standAt e.pos; holding [v] (truthy v)) := by cases e <;> first | rfl | cases h
theorem base_of {e : Expr} {f : Str} {env : Env} (h : baseOk e = true) (w : Sem Value) : attributeBase e f env w = w := by
  unfold attributeBase
  split
  · rename_i id p pos
    have h2 : (id != "super") = true := h
    rw [h2] <;> rfl
  · rfl
section
variable {X : Cx} {D : Wd} {Wx : WX} {io : List Addr} {H : Hp} {S : Vs} {σ : L2.St} {x y : W} {v u : V} {Q : VK}
/-! ### == of data -/
theorem lstAt_of {s : Vs} {n : Nat} {l : List W} (h : lstAt s n = some l) : s[n]? = some (.lst l) := by
  unfold lstAt at h
  split at h
  · cases h; assumption
  · cases h
theorem map_some {α β : Type} {o : Option α} {f : α → β} {b : β} (h : o.map f = some b) : ∃ a, o = some a ∧ f a = b := by
  cases o with
  | none => cases h
  | some a => exact ⟨a, rfl, Option.some.inj h⟩
mutual
theorem toD_ok (s : Sim X.K X.mg io H S) : ∀ (k : Nat) {x : W} {v : V} {d : PyData}, Rep X.K X.mg io H x v → toD S k x = some d → Dp X.K H v d
  | 0, _, _, _, _, h => by cases h
  | k + 1, _, _, _, .non, h => by cases h; exact .non
  | k + 1, _, _, _, .bl b, h => by cases h; exact .bl b
  | k + 1, _, _, _, .int i, h => by cases h; exact .int i
  | k + 1, _, _, _, .str y, h => by cases h; exact .str y
  | k + 1, _, _, _, .tup h1 r, h => by
    obtain ⟨ds, e, rfl⟩ := map_some (show (toDs S k _).map PyData.tuple = some _ from h)
    exact .tup h1 (toDs_ok s k r e)
  | k + 1, _, _, d, .ref (n := n) h1, h => by
    have h : (match lstAt S n with
      | some l => (toDs S k l).map .list
      | none => none) = some d := h
    split at h
    · rename_i l e1
      obtain ⟨xs, hx, r⟩ := s.lst h1 (lstAt_of e1)
      obtain ⟨ds, e, rfl⟩ := map_some h
      exact .lst (SqL.of hx) (toDs_ok s k r e)
    · cases h
  | k + 1, _, _, _, .glo _, h => by cases h
  | k + 1, _, _, _, .ty _, h => by cases h
  | k + 1, _, _, _, .scr _, h => by cases h
theorem toDs_ok (s : Sim X.K X.mg io H S) : ∀ (k : Nat) {l : List W} {xs : List V} {ds : List PyData}, Reps X.K X.mg io H l xs → toDs S k l = some ds → DpAll X.K H xs ds
  | 0, _, _, _, _, h => by cases h
  | k + 1, _, _, _, .nil, h => by cases h; exact .nil
  | k + 1, _, _, ds, .cons (w := w) (l := l) r t, h => by
    have h : (match toD S k w, toDs S k l with
      | some d, some ds => some (d :: ds)
      | _, _ => none) = some ds := h
    split at h
    · rename_i d es e1 e2
      cases h
      exact .cons (toD_ok s k r e1) (toDs_ok s k t e2)
    · cases h
end
theorem eqD_ok (s : Sim X.K X.mg io H S) (rx : Rep X.K X.mg io H x v) (ry : Rep X.K X.mg io H y u) {b : Bool} (h : eqD S x y = some b) : ∃ d e, Dp X.K H v d ∧ Dp X.K H u e ∧ SeqAt.shaped d = true ∧ SeqAt.shaped e = true ∧ b = PyData.eqv d e := by
  unfold eqD at h
  split at h
  · rename_i d e e1 e2
    split at h
    · rename_i hs
      rw [Bool.and_eq_true] at hs
      cases h
      exact ⟨d, e, toD_ok s _ rx e1, toD_ok s _ ry e2, hs.1, hs.2, rfl⟩
    · cases h
  · cases h
theorem eq_ok : VOk X.K X.mg Wx (cmpV .eq) (rEqD X.K) := fun io H S σ x y v u Q s rx ry p => by
  have p : Po X.K X.mg Wx (Rep X.K X.mg) (match eqD S x y with
    | some b => .ok (.bl b) S
    | none => .err) io H σ Q := p
  split at p
  · rename_i b e
    obtain ⟨d, e, h1, h2, h3, h4, rfl⟩ := eqD_ok s rx ry e
    exact ⟨d, _, h1, h2, h3, h4, p.now s (.bl _)⟩
  · exact p.elim
theorem ne_ok : VOk X.K X.mg Wx (cmpV .ne) (rNeD X.K) := fun io H S σ x y v u Q s rx ry p => by
  have p : Po X.K X.mg Wx (Rep X.K X.mg) (match eqD S x y with
    | some b => .ok (.bl (!b)) S
    | none => .err) io H σ Q := p
  split at p
  · rename_i b e
    obtain ⟨d, e, h1, h2, h3, h4, rfl⟩ := eqD_ok s rx ry e
    exact ⟨d, _, h1, h2, h3, h4, p.now s (.bl _)⟩
  · exact p.elim
theorem lt_ok : VOk X.K X.mg Wx (cmpV .lt) (rI0 fun i j => .bl (decide (i < j))) := fun io H S σ x y v u Q s rx ry p => by
  cases rx with
  | int i =>
    cases ry with
    | int j => exact ⟨i, j, rfl, rfl, p.now s (.bl _)⟩
    | _ => exact p.elim
  | _ => exact p.elim
theorem le_ok : VOk X.K X.mg Wx (cmpV .le) (rI0 fun i j => .bl (decide (i ≤ j))) := fun io H S σ x y v u Q s rx ry p => by
  cases rx with
  | int i =>
    cases ry with
    | int j => exact ⟨i, j, rfl, rfl, p.now s (.bl _)⟩
    | _ => exact p.elim
  | _ => exact p.elim
theorem gt_ok : VOk X.K X.mg Wx (cmpV .gt) (rI0 fun i j => .bl (decide (j < i))) := fun io H S σ x y v u Q s rx ry p => by
  cases rx with
  | int i =>
    cases ry with
    | int j => exact ⟨i, j, rfl, rfl, p.now s (.bl _)⟩
    | _ => exact p.elim
  | _ => exact p.elim
theorem ge_ok : VOk X.K X.mg Wx (cmpV .ge) (rI0 fun i j => .bl (decide (j ≤ i))) := fun io H S σ x y v u Q s rx ry p => by
  cases rx with
  | int i =>
    cases ry with
    | int j => exact ⟨i, j, rfl, rfl, p.now s (.bl _)⟩
    | _ => exact p.elim
  | _ => exact p.elim
theorem non_is (r : Rep X.K X.mg io H x v) : isNon x = decide (v = .non) := by cases r <;> rfl
theorem is_ok : VOk X.K X.mg Wx (cmpV .is_) (fun x y H Q => y = .non ∧ Q (.bl (decide (x = .non))) H) := fun io H S σ x y v u Q s rx ry p => by
  cases ry with
  | non =>
    have p : Po X.K X.mg Wx (Rep X.K X.mg) (.ok (.bl (isNon x)) S) io H σ Q := p
    exact ⟨rfl, p.now s (by rw [non_is rx]; exact .bl _)⟩
  | _ => exact p.elim
theorem isn_ok : VOk X.K X.mg Wx (cmpV .isn) (fun x y H Q => y = .non ∧ Q (.bl (!decide (x = .non))) H) := fun io H S σ x y v u Q s rx ry p => by
  cases ry with
  | non =>
    have p : Po X.K X.mg Wx (Rep X.K X.mg) (.ok (.bl (!isNon x)) S) io H σ Q := p
    exact ⟨rfl, p.now s (by rw [non_is rx]; exact .bl _)⟩
  | _ => exact p.elim
def cmpOf : COp → CmpOp
  | .eq => .Eq | .ne => .NotEq | .lt => .Lt | .le => .LtE | .gt => .Gt | .ge => .GtE | .is_ => .Is | .isn => .IsNot | .in_ => .In | .nin => .NotIn
/-- each comparison has its rule -/
theorem cmp_rule (hu : X.A.units + 64 < cLine) (o : COp) : ∃ R : R2, OpR X (compareOp (cmpOf o)) R ∧ VOk X.K X.mg Wx (cmpV o) R := by
  cases o with
  | eq => exact ⟨_, op_eqD hu, eq_ok⟩
  | ne => exact ⟨_, op_neD hu, ne_ok⟩
  | lt => exact ⟨_, op_lt, lt_ok⟩
  | le => exact ⟨_, op_le, le_ok⟩
  | gt => exact ⟨_, op_gt, gt_ok⟩
  | ge => exact ⟨_, op_ge, ge_ok⟩
  | is_ => exact ⟨_, op_isN, is_ok⟩
  | isn => exact ⟨_, op_notN, isn_ok⟩
  | in_ => exact ⟨fun _ _ _ _ => False, fun _ _ _ _ _ _ _ _ _ _ _ _ h => h.elim, fun io H S σ x y v u Q s rx ry p => by cases rx <;> cases ry <;> exact p⟩
  | nin => exact ⟨fun _ _ _ _ => False, fun _ _ _ _ _ _ _ _ _ _ _ _ h => h.elim, fun io H S σ x y v u Q s rx ry p => by cases rx <;> cases ry <;> exact p⟩
theorem cmpV_bl {o : COp} {s s' : Vs} {x y w : W} (h : cmpV o x y s = .ok w s') : ∃ b, w = .bl b := by
  unfold cmpV at h
  split at h
  all_goals first
    | (cases h; done)
    | (cases h; exact ⟨_, rfl⟩)
    | (split at h <;> first | (cases h; done) | (cases h; exact ⟨_, rfl⟩))
/-- an expression that is True or False, as a test -/
theorem test_bl {i : IE} {r : Rho} {Q : Bool → Hp → Prop} (hb : ∀ w s', den D i r S = .ok w s' → ∃ b, w = .bl b) (p : Po X.K X.mg Wx (fun _ _ a b => a = b) (test D i r S) io H σ Q) :
    Po X.K X.mg Wx (Rep X.K X.mg) (den D i r S) io H σ (fun v H' => ∃ k, v = .bl k ∧ Q k H') := by
  unfold test at p
  cases h : den D i r S with
  | ok w s' =>
    obtain ⟨b, rfl⟩ := hb w s' h
    rw [h] at p
    intro io' v H' x' s'' r'
    cases r'
    exact ⟨b, rfl, p io' b H' x' s'' rfl⟩
  | exc y s' => rw [h] at p; exact p
  | err => rw [h] at p; exact p
variable {a b c : Expr} {ia ib ic : IE} {pos : Pos}
theorem pv_cmp {o : COp} (hu : X.A.units + 64 < cLine) (hs : notSet b = true) (ha : PV X D Wx a ia) (hb : PV X D Wx b ib) : PV X D Wx (.Compare a [cmpOf o] [b] pos) (.cmp o ia ib) := by
  obtain ⟨R, ho, hv⟩ := cmp_rule (Wx := Wx) hu o
  exact peMono (pe_cmpR ho ha hb (marks_of hs)) fun σ H Q h => two hv (by
    obtain ⟨io, S, r, s, e, p⟩ := h
    rw [den] at p
    exact ⟨io, S, r, s, e, p⟩)
theorem bind_get {α β : Type} {o : Out α} {f : α → Vs → Out β} {w : β} {s : Vs} (h : o.bind f = .ok w s) : ∃ a s1, o = .ok a s1 ∧ f a s1 = .ok w s := by
  cases o with
  | ok a s1 => exact ⟨a, s1, rfl, h⟩
  | exc x s1 => cases h
  | err => cases h
theorem ptv_cmp {o : COp} (hu : X.A.units + 64 < cLine) (hs : notSet b = true) (ha : PV X D Wx a ia) (hb : PV X D Wx b ib) : PTV X D Wx (.Compare a [cmpOf o] [b] pos) (.cmp o ia ib) := by
  obtain ⟨R, ho, hv⟩ := cmp_rule (Wx := Wx) hu o
  exact ptMono (pt_cmpR ho ha hb (marks_of hs)) fun σ H Q h => by
    obtain ⟨io, S, r, s, e, p⟩ := h
    have p := test_bl (fun w s' h => by
      rw [den] at h
      obtain ⟨x, s1, _, h⟩ := bind_get h
      obtain ⟨y, s2, _, h⟩ := bind_get h
      exact cmpV_bl h) p
    rw [den] at p
    exact two hv ⟨io, S, r, s, e, p⟩
theorem chn_rd {o o' : COp} {R R' : R2} (hv : VOk X.K X.mg Wx (cmpV o) R) (hv' : VOk X.K X.mg Wx (cmpV o') R') {Q : VK} (h : tr X.K X.mg Wx (den D (.chn o o' ia ib ic)) σ H Q) :
    tChain R R' (tr X.K X.mg Wx (den D ia)) (tr X.K X.mg Wx (den D ib)) (tr X.K X.mg Wx (den D ic)) σ H Q := by
  obtain ⟨io, S, r, s, e, p⟩ := h
  rw [den] at p
  refine ⟨io, S, r, s, e, p.bind fun x S1 io1 v H1 _ x1 s1 r1 p1 => ⟨io1, S1, r, s1, e.mono s x1, p1.bind fun y S2 io2 u H2 _ x2 s2 r2 p2 => ?_⟩⟩
  refine hv io2 H2 S2 σ x y v u _ s2 (r1.mono s1 x2) r2 (p2.bind fun z S3 io3 z' H3 ez x3 s3 r3 p3 => ?_)
  obtain ⟨k, rfl⟩ := cmpV_bl ez
  cases r3
  refine ⟨k, rfl, ?_⟩
  cases k with
  | false => exact p3.now s3 (.bl _)
  | true =>
    exact ⟨io3, S3, r, s3, ((e.mono s x1).mono s1 x2).mono s2 x3, Po.bind (f := fun w s4 => cmpV o' y w s4) p3 fun w S4 io4 w' H4 _ x4 s4 r4 p4 => hv' io4 H4 S4 σ y w u w' Q s4 ((r2.mono s2 x3).mono s3 x4) r4 p4⟩
theorem pv_chn {o o' : COp} (hu : X.A.units + 64 < cLine) (hs : notSet c = true) (ha : PV X D Wx a ia) (hb : PV X D Wx b ib) (hc : PV X D Wx c ic) : PV X D Wx (.Compare a [cmpOf o, cmpOf o'] [b, c] pos) (.chn o o' ia ib ic) := by
  obtain ⟨R, ho, hv⟩ := cmp_rule (Wx := Wx) hu o
  obtain ⟨R', ho', hv'⟩ := cmp_rule (Wx := Wx) hu o'
  exact peMono (pe_chain ho ho' ha hb hc (show behindInMarks _ c = false from marks_of hs)) fun σ H Q h => chn_rd hv hv' h
theorem chn_bl {o o' : COp} {r : Rho} {w : W} {s' : Vs} (h : den D (.chn o o' ia ib ic) r S = .ok w s') : ∃ b, w = .bl b := by
  rw [den] at h
  obtain ⟨x, s1, _, h⟩ := bind_get h
  obtain ⟨y, s2, _, h⟩ := bind_get h
  obtain ⟨z, s3, hz, h⟩ := bind_get h
  obtain ⟨k, rfl⟩ := cmpV_bl hz
  cases k with
  | false => cases h; exact ⟨_, rfl⟩
  | true =>
    have h : (den D ic r s3).bind (fun w s4 => cmpV o' y w s4) = .ok w s' := h
    obtain ⟨w2, s4, _, h⟩ := bind_get h
    exact cmpV_bl h
theorem ptv_chn {o o' : COp} (hu : X.A.units + 64 < cLine) (hs : notSet c = true) (ha : PV X D Wx a ia) (hb : PV X D Wx b ib) (hc : PV X D Wx c ic) : PTV X D Wx (.Compare a [cmpOf o, cmpOf o'] [b, c] pos) (.chn o o' ia ib ic) := by
  obtain ⟨R, ho, hv⟩ := cmp_rule (Wx := Wx) hu o
  obtain ⟨R', ho', hv'⟩ := cmp_rule (Wx := Wx) hu o'
  exact ptMono (pt_chain ho ho' ha hb hc (show behindInMarks _ c = false from marks_of hs)) fun σ H Q ⟨io, S, r, s, e, p⟩ => chn_rd hv hv' ⟨io, S, r, s, e, test_bl (fun w s' h => chn_bl h) p⟩
/-! ### arguments, tuples, lists -/
theorem pvs_nil : PVs X D Wx [] .nil := paMono pa_nil fun σ H Q ⟨io, S, r, s, e, p⟩ => by
  rw [denL] at p
  exact p.now s .nil
theorem pvs_cons {es : List Expr} {l : IL} (hs : notStar a = true) (ha : PV X D Wx a ia) (hl : PVs X D Wx es l) : PVs X D Wx (a :: es) (.cons ia l) := paMono (pa_cons ha hl (star_of hs)) fun σ H Q ⟨io, S, r, s, e, p⟩ => by
  rw [denL] at p
  exact ⟨io, S, r, s, e, p.bind fun x S1 io1 v H1 _ x1 s1 r1 p1 => ⟨io1, S1, r, s1, e.mono s x1, p1.bind fun xs S2 io2 vs H2 _ x2 s2 r2 p2 => p2.now s2 (.cons (r1.mono s1 x2) r2)⟩⟩
theorem pv_tup {es : List Expr} {l : IL} {k : Nat} (h : PVs X D Wx es l) : PV X D Wx (.Tuple es k pos) (.tup l) := peMono (pe_tup h) fun σ H Q ⟨io, S, r, s, e, p⟩ => by
  rw [den] at p
  refine ⟨io, S, r, s, e, p.bind fun xs S1 io1 vs H1 _ x1 s1 r1 p1 => ?_⟩
  by_cases hf : fits xs.length = true
  · rw [if_pos hf] at p1
    exact ⟨by rw [← r1.length]; exact fits_le hf, fun q hq => s1.tupNew r1 p1 q hq⟩
  · rw [if_neg hf] at p1; exact p1.elim
theorem pv_lst {es : List Expr} {l : IL} (h : PVs X D Wx es l) : PV X D Wx (.List es pos) (.lst l) := peMono (pe_lst h) fun σ H Q ⟨io, S, r, s, e, p⟩ => by
  rw [den] at p
  refine ⟨io, S, r, s, e, p.bind fun xs S1 io1 vs H1 _ x1 s1 r1 p1 => ?_⟩
  by_cases hf : fits xs.length = true
  · rw [if_pos hf] at p1
    exact ⟨by rw [← r1.length]; exact fits_le hf, fun q hq => s1.nu _ _ r1 p1 q hq⟩
  · rw [if_neg hf] at p1; exact p1.elim
/-! ### a[i] -/
theorem atI_rep {l : List W} {xs : List V} (r : Reps X.K X.mg io H l xs) {i : Int} {w : W} (h : atI l i = some w) : ∃ v, atI xs i = some v ∧ Rep X.K X.mg io H w v := by
  unfold atI at h ⊢
  rw [← r.length]
  cases e : ixN l.length i with
  | none => rw [e] at h; cases h
  | some j =>
    rw [e] at h
    exact r.get h
theorem scr_sq {l : List Int} {q : Addr} (h : (∃ o, H q = some (.frz o (.lst (l.map V.int)))) ∨ KL X.K q (l.map V.int)) : SqL X.K H q (l.map V.int) := by
  rcases h with ⟨o, h⟩ | h
  · exact .inl (.inr ⟨o, h⟩)
  · exact .inr h
theorem idx_ok : VOk X.K X.mg Wx idxV (rIx X.K) := fun io H S σ x y v u Q s rx ry p => by
  cases rx with
  | scr h =>
    rename_i l q
    cases ry with
    | int i =>
      have p : Po X.K X.mg Wx (Rep X.K X.mg) (match atI l i with
        | some j => .ok (.int j) S
        | none => .err) io H σ Q := p
      split at p
      · rename_i j e
        refine .inl ⟨q, _, i, .int j, rfl, rfl, scr_sq h, ?_, p.now s (.int _)⟩
        unfold atI at e ⊢
        rw [List.length_map]
        cases e2 : ixN l.length i with
        | none => rw [e2] at e; cases e
        | some k =>
          rw [e2] at e
          have e : l[k]? = some j := e
          show (l.map V.int)[k]? = some (.int j)
          rw [List.getElem?_map, e]
          rfl
      · exact p.elim
    | _ => exact p.elim
  | tup h r =>
    rename_i l q xs
    cases ry with
    | int i =>
      have p : Po X.K X.mg Wx (Rep X.K X.mg) (match atI l i with
        | some w => .ok w S
        | none => .err) io H σ Q := p
      split at p
      · rename_i w e
        obtain ⟨v, h1, h2⟩ := atI_rep r e
        exact .inr (.inl ⟨q, xs, i, v, rfl, rfl, h, h1, p.now s h2⟩)
      · exact p.elim
    | _ => exact p.elim
  | ref h =>
    rename_i n q
    cases ry with
    | int i =>
      have p : Po X.K X.mg Wx (Rep X.K X.mg) (match lstAt S n with
        | some l => (match atI l i with
          | some w => .ok w S
          | none => .err)
        | none => .err) io H σ Q := p
      split at p
      · rename_i l e1
        obtain ⟨xs, hx, r⟩ := s.lst h (lstAt_of e1)
        split at p
        · rename_i w e
          obtain ⟨v, h1, h2⟩ := atI_rep r e
          exact .inl ⟨q, xs, i, v, rfl, rfl, SqL.of hx, h1, p.now s h2⟩
        · exact p.elim
      · exact p.elim
    | _ => exact p.elim
  | _ => exact p.elim
theorem pv_idx (hs : notSlice b = true) (ha : PV X D Wx a ia) (hb : PV X D Wx b ib) : PV X D Wx (.Subscript a b pos) (.idx ia ib) :=
  peMono (pe_ix ix_seq ha hb (slice_of hs)) fun σ H Q h => two idx_ok (by
    obtain ⟨io, S, r, s, e, p⟩ := h
    rw [den] at p
    exact ⟨io, S, r, s, e, p⟩)
/-! ### a[lo:hi] -/
def trO (K : Fg) (mg : Mg) (Wx : WX) (m : Rho → Vs → Out (Option Int)) : TO := fun σ H Q => ∃ io S r, Sim K mg io H S ∧ RepE K mg io H r σ ∧ Po K mg Wx (fun _ _ a b => a = b) (m r S) io H σ Q
noncomputable def denO (D : Wd) (i : IE) (r : Rho) (s : Vs) : Out (Option Int) := if miss i then .ok none s else (den D i r s).bind intV
abbrev POV (X : Cx) (D : Wd) (Wx : WX) (e : Option Expr) (i : IE) : Prop := PO X e (trO X.K X.mg Wx (denO D i))
theorem poMono {e : Option Expr} {t t' : TO} (h : PO X e t) (k : ∀ σ H Q, t' σ H Q → t σ H Q) : PO X e t' := ⟨fun pins s σ H Q I q => h.run pins s σ H Q I (k σ H Q q)⟩
theorem pov_none : POV X D Wx none (.con .non) := poMono po_none fun σ H Q ⟨io, S, r, s, e, p⟩ => p.now s rfl
theorem pov_some {i : IE} (hm : miss i = false) (h : PV X D Wx a i) : POV X D Wx (some a) i := poMono (po_some h) fun σ H Q ⟨io, S, r, s, e, p⟩ => ⟨io, S, r, s, e, by
  unfold denO at p
  rw [hm] at p
  refine Po.bind (f := intV) p fun x S1 io1 v H1 _ x1 s1 r1 p1 => ?_
  cases r1 with
  | int i => exact ⟨i, rfl, p1.now s1 rfl⟩
  | _ => exact p1.elim⟩
theorem cut_rep {l : List W} {xs : List V} (r : Reps X.K X.mg io H l xs) (i j : Option Int) : Reps X.K X.mg io H (cutW l i j) (cutV xs i j) := by
  unfold cutW cutV
  rw [← r.length]
  exact Reps.take _ (Reps.drop _ r)
theorem cut_whole {α : Type} {l : List α} {i j : Option Int} (h1 : HT.sIx l.length 0 i = 0) (h2 : HT.sIx l.length l.length j = l.length) : (l.drop (HT.sIx l.length 0 i)).take (HT.sIx l.length l.length j - HT.sIx l.length 0 i) = l := by
  rw [h1, h2]
  simp
def rSlB2 (K : Fg) : V → Option Int → Option Int → Hp → VK → Prop := fun x lo hi H Q => rSlA K x lo hi H Q ∨ rSlL K x lo hi H Q
theorem sl_two : SlR X (rSlB2 X.K) := sl_tupA.or sl_list
theorem slc_ok {x : W} {v : V} {i j : Option Int} (s : Sim X.K X.mg io H S) (rx : Rep X.K X.mg io H x v) (p : Po X.K X.mg Wx (Rep X.K X.mg) (slcV x i j S) io H σ Q) : rSlB2 X.K v i j H Q := by
  cases rx with
  | tup h r =>
    rename_i l q xs
    have p : Po X.K X.mg Wx (Rep X.K X.mg) (.ok (.tup (cutW l i j)) S) io H σ Q := p
    refine .inl ⟨q, xs, rfl, h, fun ⟨h1, h2⟩ => ?_, fun _ t ht => s.tupNew (cut_rep r i j) p t ht⟩
    rw [← r.length] at h1 h2
    have e : cutW l i j = l := cut_whole h1 h2
    rw [e] at p
    exact p.now s (.tup h r)
  | ref h =>
    rename_i n q
    have p : Po X.K X.mg Wx (Rep X.K X.mg) (match lstAt S n with
      | some l => newL (cutW l i j) S
      | none => .err) io H σ Q := p
    split at p
    · rename_i l e1
      obtain ⟨xs, hx, r⟩ := s.lst h (lstAt_of e1)
      exact .inr ⟨q, xs, rfl, SqL.of hx, fun t ht => s.nu _ _ (cut_rep r i j) p t ht⟩
    · exact p.elim
  | _ => exact p.elim
theorem pv_slc {lo hi : Option Expr} {il ih : IE} {p2 : Pos} (ha : PV X D Wx a ia) (hl : POV X D Wx lo il) (hh : POV X D Wx hi ih) : PV X D Wx (.Subscript a (.Slice lo hi none p2) pos) (.slc ia il ih) :=
  peMono (pe_slice sl_two ha hl hh) fun σ H Q ⟨io, S, r, s, e, p⟩ => by
    rw [den] at p
    refine ⟨io, S, r, s, e, p.bind fun x S1 io1 v H1 _ x1 s1 r1 p1 => ⟨io1, S1, r, s1, e.mono s x1, ?_⟩⟩
    refine Po.bind (o := denO D il r S1) p1 fun i S2 io2 i' H2 _ x2 s2 hi p2 => ?_
    subst hi
    refine ⟨io2, S2, r, s2, (e.mono s x1).mono s1 x2, Po.bind (o := denO D ih r S2) p2 fun j S3 io3 j' H3 _ x3 s3 hj p3 => ?_⟩
    subst hj
    exact slc_ok s3 ((r1.mono s1 x2).mono s2 x3) p3
/-! ### e.f -/
theorem repP_look {l : List (Str × W)} {xs : List (Str × V)} (r : RepP X.K X.mg io H l xs) {f : Str} {w : W} (h : l.lookup f = some w) : ∃ v, xs.lookup f = some v ∧ Rep X.K X.mg io H w v ∧ f ∈ l.map (·.1) := by
  induction r with
  | nil => cases h
  | cons q _ ih =>
    rename_i k w' v' l xs t
    rw [List.lookup_cons] at h ⊢
    cases e : f == k with
    | true =>
      rw [e] at h
      cases h
      exact ⟨v', rfl, q, by simp at e; simp [e]⟩
    | false =>
      rw [e] at h
      obtain ⟨v, h1, h2, h3⟩ := ih h
      exact ⟨v, h1, h2, List.mem_cons_of_mem _ h3⟩
theorem pv_fld {f : Str} (hb : baseOk a = true) (ha : PV X D Wx a ia) : PV X D Wx (.Attribute a f pos) (.fld ia f) :=
  peMono (pe_fld ha (base_of hb _)) fun σ H Q ⟨io, S, r, s, e, p⟩ => by
    rw [den] at p
    refine ⟨io, S, r, s, e, p.bind fun x S1 io1 v H1 _ x1 s1 r1 p1 => ?_⟩
    cases r1 with
    | @ref n q h =>
      have p1 : Po X.K X.mg Wx (Rep X.K X.mg) (match S1[n]? with
        | some (.ins _ fs) => (match fs.lookup f with
          | some w => .ok w S1
          | none => .err)
        | _ => .err) io1 H1 σ Q := p1
      split at p1
      · rename_i c fs e1
        split at p1
        · rename_i w e2
          obtain ⟨C, dx, fv, h1, h2, h3, h4, h5⟩ := s1.ins h e1
          obtain ⟨v, h6, h7, h8⟩ := repP_look h5 e2
          exact ⟨q, C, dx, fv, v, rfl, h1, h3, h4 f h8, h6, p1.now s1 h7⟩
        · exact p1.elim
      · exact p1.elim
    | _ => exact p1.elim
/-! ### built-ins -/
theorem lenS : CallR X (.builtin "len") (fun xs H Q => (∃ x n, xs = [x] ∧ LenV X.K x H n ∧ Q (.int n) H) ∨ ∃ d kvs, xs = [.ref d] ∧ H d = some (.dK kvs) ∧ Q (.int kvs.length) H) := fun pins s σ H xs us Q I r h => by
  rcases h with h | ⟨d, kvs, rfl, e, q⟩
  · exact call_len pins s σ H xs us Q I r h
  · obtain ⟨u, rfl, ru⟩ := vals1 r
    cases ru
    exact d_len I (.inl e) fun t s' I' => ⟨.int kvs.length, H, I', ⟨t, rfl⟩, q⟩
theorem bools_rep : ∀ {l : List W} {xs : List V}, Reps X.K X.mg io H l xs → ∀ {bs : List Bool}, bools l = some bs → xs = bs.map V.bl
  | _, _, .nil, bs, h => by cases h; rfl
  | _, _, .cons q t, bs, h => by
    cases q with
    | bl b =>
      obtain ⟨bs', e, rfl⟩ := map_some (show (bools _).map (b :: ·) = some bs from h)
      rw [bools_rep t e]
      rfl
    | _ => cases h
/-- the rule of a built-in, over its values -/
abbrev BOk (K : Fg) (mg : Mg) (Wx : WX) (f : List W → Vs → Out W) (R : List V → Hp → VK → Prop) : Prop := ∀ (io : List Addr) (H : Hp) (S : Vs) (σ : L2.St) (ws : List W) (vs : List V) (Q : VK), Sim K mg io H S → Reps K mg io H ws vs → Po K mg Wx (Rep K mg) (f ws S) io H σ Q → R vs H Q
theorem repP_len {κ : Type} {l : List (κ × W)} {xs : List (κ × V)} (r : RepP X.K X.mg io H l xs) : l.length = xs.length := by
  induction r with
  | nil => rfl
  | cons _ _ ih => simp [ih]
def rLenA (K : Fg) : List V → Hp → VK → Prop := fun xs H Q => (∃ x n, xs = [x] ∧ LenV K x H n ∧ Q (.int n) H) ∨ ∃ d kvs, xs = [.ref d] ∧ H d = some (.dK kvs) ∧ Q (.int kvs.length) H
theorem len_ok : BOk X.K X.mg Wx (biV .len) (rLenA X.K) := fun io H S σ ws vs Q s r p => by
  cases r with
  | nil => exact p.elim
  | cons q t =>
    cases t with
    | cons _ _ => cases q <;> exact p.elim
    | nil =>
      cases q with
      | str x =>
        have p : Po X.K X.mg Wx (Rep X.K X.mg) (if fits x.length then .ok (.int x.length) S else .err) io H σ Q := p
        by_cases hf : fits x.length = true
        · rw [if_pos hf] at p
          exact .inl ⟨_, x.length, rfl, ⟨fits_le hf, rfl⟩, p.now s (.int _)⟩
        · rw [if_neg hf] at p; exact p.elim
      | @tup l a xs h r => exact .inl ⟨_, xs.length, rfl, .inr ⟨_, h, rfl⟩, by rw [← r.length]; exact p.now s (.int _)⟩
      | @scr l a h => exact .inl ⟨_, (l.map V.int).length, rfl, .inl ⟨_, scr_sq h, rfl⟩, by rw [List.length_map]; exact p.now s (.int _)⟩
      | @ref n a h =>
        have p : Po X.K X.mg Wx (Rep X.K X.mg) (match S[n]? with
          | some (.lst l) => .ok (.int l.length) S
          | some (.dct l) => .ok (.int l.length) S
          | _ => .err) io H σ Q := p
        split at p
        · rename_i l e1
          obtain ⟨xs, hx, r1⟩ := s.lst h e1
          exact .inl ⟨_, xs.length, rfl, .inl ⟨xs, SqL.of hx, rfl⟩, by rw [← r1.length]; exact p.now s (.int _)⟩
        · rename_i l e1
          obtain ⟨b, hb, q⟩ := s.at_ _ _ e1
          rw [h] at hb
          cases hb
          cases q with
          | mk e' r => cases r with | dct r => exact .inr ⟨_, _, rfl, e', by rw [← repP_len r]; exact p.now s (.int _)⟩
        · exact p.elim
      | _ => exact p.elim
theorem abs_ok : BOk X.K X.mg Wx (biV .abs) (fun xs H Q => ∃ i, xs = [.int i] ∧ Q (.int (if i < 0 then -i else i)) H) := fun io H S σ ws vs Q s r p => by
  cases r with
  | nil => exact p.elim
  | cons q t =>
    cases t with
    | cons _ _ => cases q <;> exact p.elim
    | nil =>
      cases q with
      | int i => exact ⟨i, rfl, p.now s (.int _)⟩
      | _ => exact p.elim
theorem min_ok : BOk X.K X.mg Wx (biV .min) (fun xs H Q => ∃ i j, xs = [.int i, .int j] ∧ Q (.int (if j < i then j else i)) H) := fun io H S σ ws vs Q s r p => by
  cases r with
  | nil => exact p.elim
  | cons q t =>
    cases t with
    | nil => cases q <;> exact p.elim
    | cons q2 t2 =>
      cases t2 with
      | cons _ _ => cases q <;> cases q2 <;> exact p.elim
      | nil =>
        cases q with
        | int i =>
          cases q2 with
          | int j => exact ⟨i, j, rfl, p.now s (.int _)⟩
          | _ => exact p.elim
        | _ => exact p.elim
theorem int_ok : BOk X.K X.mg Wx (biV .int) (fun xs H Q => (∃ i, xs = [.int i] ∧ Q (.int i) H) ∨ ∃ k, xs = [.bl k] ∧ Q (.int (if k then 1 else 0)) H) := fun io H S σ ws vs Q s r p => by
  cases r with
  | nil => exact p.elim
  | cons q t =>
    cases t with
    | cons _ _ => cases q <;> exact p.elim
    | nil =>
      cases q with
      | int i => exact .inl ⟨i, rfl, p.now s (.int _)⟩
      | bl b => exact .inr ⟨b, rfl, p.now s (.int _)⟩
      | _ => exact p.elim
theorem str_ok : BOk X.K X.mg Wx (biV .str) (fun xs H Q => ∃ i, xs = [.int i] ∧ i.natAbs.log2 < 1920 ∧ Q (.str (toString i)) H) := fun io H S σ ws vs Q s r p => by
  cases r with
  | nil => exact p.elim
  | cons q t =>
    cases t with
    | cons _ _ => cases q <;> exact p.elim
    | nil =>
      cases q with
      | int i =>
        have p : Po X.K X.mg Wx (Rep X.K X.mg) (if decide (i.natAbs.log2 < 1920) then .ok (.str (Str.ofString (toString i))) S else .err) io H σ Q := p
        by_cases hf : decide (i.natAbs.log2 < 1920) = true
        · rw [if_pos hf] at p
          exact ⟨i, rfl, of_decide_eq_true hf, p.now s (.str _)⟩
        · rw [if_neg hf] at p; exact p.elim
      | _ => exact p.elim
theorem tuple_ok : BOk X.K X.mg Wx (biV .tuple) (fun xs H Q => ∃ p ys, xs = [.ref p] ∧ ((SqL X.K H p ys ∧ ∀ l, H l = none → Q (.ref l) (upd H l (.tup ys))) ∨ (SqT X.K H p ys ∧ Q (.ref p) H))) := fun io H S σ ws vs Q s r p => by
  cases r with
  | nil => exact p.elim
  | cons q t =>
    cases t with
    | cons _ _ => cases q <;> exact p.elim
    | nil =>
      cases q with
      | @tup l a xs h r => exact ⟨_, xs, rfl, .inr ⟨h, p.now s (.tup h r)⟩⟩
      | @ref n a h =>
        have p : Po X.K X.mg Wx (Rep X.K X.mg) (match lstAt S n with
          | some l => .ok (.tup l) S
          | none => .err) io H σ Q := p
        split at p
        · rename_i l e1
          obtain ⟨xs, hx, r1⟩ := s.lst h (lstAt_of e1)
          exact ⟨_, xs, rfl, .inl ⟨SqL.of hx, fun q hq => s.tupNew r1 p q hq⟩⟩
        · exact p.elim
      | _ => exact p.elim
theorem list_ok : BOk X.K X.mg Wx (biV .list) (fun xs H Q => ∃ p ys, xs = [.ref p] ∧ (SqL X.K H p ys ∨ SqT X.K H p ys) ∧ ∀ l, H l = none → Q (.ref l) (upd H l (.lst ys))) := fun io H S σ ws vs Q s r p => by
  cases r with
  | nil => exact p.elim
  | cons q t =>
    cases t with
    | cons _ _ => cases q <;> exact p.elim
    | nil =>
      cases q with
      | @tup l a xs h r => exact ⟨_, xs, rfl, .inr h, fun q hq => s.nu _ _ r p q hq⟩
      | @ref n a h =>
        have p : Po X.K X.mg Wx (Rep X.K X.mg) (match lstAt S n with
          | some l => newL l S
          | none => .err) io H σ Q := p
        split at p
        · rename_i l e1
          obtain ⟨xs, hx, r1⟩ := s.lst h (lstAt_of e1)
          exact ⟨_, xs, rfl, .inl (SqL.of hx), fun q hq => s.nu _ _ r1 p q hq⟩
        · exact p.elim
      | _ => exact p.elim
theorem all_ok : BOk X.K X.mg Wx (biV .all) (rAll X.K) := fun io H S σ ws vs Q s r p => by
  cases r with
  | nil => exact p.elim
  | cons q t =>
    cases t with
    | cons _ _ => cases q <;> exact p.elim
    | nil =>
      cases q with
      | @ref n a h =>
        have p : Po X.K X.mg Wx (Rep X.K X.mg) (match lstAt S n with
          | some l => (match bools l with
            | some bs => .ok (.bl (bs.all id)) S
            | none => .err)
          | none => .err) io H σ Q := p
        split at p
        · rename_i l e1
          obtain ⟨xs, hx, r1⟩ := s.lst h (lstAt_of e1)
          split at p
          · rename_i bs e2
            have e3 := bools_rep r1 e2
            subst e3
            exact ⟨a, bs, rfl, SqL.of hx, p.now s (.bl _)⟩
          · exact p.elim
        · exact p.elim
      | _ => exact p.elim
/-- the built-in's name, and whether it is a class -/
def biName : Bf → Str
  | .len => "len" | .abs => "abs" | .min => "min" | .int => "int" | .str => "str" | .tuple => "tuple" | .list => "list" | .sorted => "sorted" | .all => "all" | .dict => "dict" | .lenset => "len" | .srtset => "sorted"
theorem no_rule {f : Value} : CallR X f (fun _ _ _ => False) := fun _ _ _ _ _ _ _ _ _ h => h.elim
/-- a built-in of the table, called by its name -/
def biHas : Bf → Bool
  | .len => true | .abs => true | .min => true | .int => true | .str => true | .tuple => true | .list => true | .all => true | _ => false
theorem pv_bi {f : Bf} {es : List Expr} {l : IL} {p : Pos} (hc : X.calm = true) (hh : biHas f = true) (hg : Gl X (biName f)) (hm : X.mg (biName f) = none) (hs : notStar a = true) (hst : (starEach es X.env).any (·.1) = false)
    (ha : PVs X D Wx (a :: es) l) : PV X D Wx (.Call (.Name (biName f) p) (a :: es) [] pos) (.bi f l) := by
  have hpl : (backTo pos (starEach es X.env)).any (·.1) = false := by
    unfold backTo
    rw [List.any_map]
    exact hst
  have k : ∀ {R : List V → Hp → VK → Prop}, BOk X.K X.mg Wx (biV f) R → PE X (.Call (.Name (biName f) p) (a :: es) [] pos) (tCB R (trA X.K X.mg Wx (denL D l))) → PV X D Wx (.Call (.Name (biName f) p) (a :: es) [] pos) (.bi f l) := fun hv he =>
    peMono he fun σ H Q ⟨io, S, r, s, e, p⟩ => by
      rw [den] at p
      exact ⟨io, S, r, s, e, Po.bind p fun ws S1 io1 vs H1 _ x1 s1 r1 p1 => hv io1 H1 S1 σ ws vs Q s1 r1 p1⟩
  cases f with
  | len => exact k len_ok (pe_callB lenS hg hm boot_len ha (by decide) (by decide) (star_of hs) hpl)
  | abs => exact k abs_ok (pe_callB call_abs hg hm (by decide +kernel) ha (by decide) (by decide) (star_of hs) hpl)
  | min => exact k min_ok (pe_callB (call_min2 hc) hg hm (by decide +kernel) ha (by decide) (by decide) (star_of hs) hpl)
  | int => exact k int_ok (pe_callTy call_int1 hg hm (by decide +kernel) ha (by decide) (by decide) (star_of hs) hpl)
  | str => exact k str_ok (pe_callTy call_str_int hg hm (by decide +kernel) ha (by decide) (by decide) (star_of hs) hpl)
  | tuple => exact k tuple_ok (pe_callTy call_tuple_of hg hm (by decide +kernel) ha (by decide) (by decide) (star_of hs) hpl)
  | list => exact k list_ok (pe_callTy call_list_of hg hm (by decide +kernel) ha (by decide) (by decide) (star_of hs) hpl)
  | all => exact k all_ok (pe_callB (cr_all hc) hg hm (by decide +kernel) ha (by decide) (by decide) (star_of hs) hpl)
  | _ => cases hh
end
end Vm
set_option Elab.async false
set_option linter.all false
set_option maxRecDepth 100000
set_option maxHeartbeats 1000000
/-! isinstance, calls, methods, comprehensions. -/
namespace Vm
open PySem L2
def noStars (es : List Expr) : Bool := es.all notStar
theorem stars_of {env : Env} : ∀ {es : List Expr}, noStars es = true → starEach es env = es.map fun e => (false, eval e env)
  | [], _ => rfl
  | e :: es, h => by
    unfold noStars at h
    rw [List.all_cons, Bool.and_eq_true] at h
    rw [star_of h.1, stars_of (es := es) h.2]
    rfl
theorem nostar_any {env : Env} {es : List Expr} (h : noStars es = true) : (starEach es env).any (·.1) = false := by
  rw [stars_of h, List.any_map]
  exact List.any_eq_false.mpr fun x _ => by simp
theorem nostar_anyB {env : Env} {es : List Expr} {pos : Pos} (h : noStars es = true) : (backTo pos (starEach es env)).any (·.1) = false := by
  unfold backTo
  rw [List.any_map]
  exact nostar_any h
theorem nostar_few {env : Env} {es : List Expr} {pos : Pos} (h : noStars es = true) (hl : es.length < 29) : ((backTo pos (starEach es env)).all (fun x => !x.1) && (backToKw pos (keywordEach [] env)).all (fun x => x.1.isSome)
      && decide (es.length + ([] : List Keyword).length + (if ([] : List Keyword).isEmpty then 0 else 1) < 30)) = true := by
  have h1 : (backTo pos (starEach es env)).all (fun x => !x.1) = true := by
    rw [stars_of h]
    unfold backTo
    rw [List.map_map, List.all_map]
    exact List.all_eq_true.mpr fun x _ => rfl
  rw [h1]
  simp [keywordEach, backToKw]
  omega
theorem meth_line {o : Expr} {m : Str} {apos pos : Pos} {env : Env} {es : List Expr} (hb : baseOk o = true) (h : noStars es = true) (hl : es.length < 29) (hline : (apos.endLine == pos.line) = true) :
    eval (.Call (.Attribute o m apos) es [] pos) env = (do
      let ov ← eval o env
      standAt apos.atName
      let (f, first) ← holding [ov] (getMethod ov m (plainOf o env))
      callWith pos f first (backTo pos (starEach es env)) (backToKw pos (keywordEach [] env))) := by
  have hf : methodCallForm (es.length + 0) (backTo pos (starEach es env)) (backToKw pos (keywordEach [] env)) = true := nostar_few h hl
  show (do
    let ov ← attributeBase o m env (eval o env)
    standAt apos.atName
    methodCall o m apos pos env ov (es.length + 0) (backTo pos (starEach es env)) (backToKw pos (keywordEach [] env))) = _
  rw [base_of hb]
  simp only [mcall_line hf hline]
section
variable {X : Cx} {D : Wd} {Wx : WX} {io : List Addr} {H : Hp} {S : Vs} {σ : L2.St} {x y : W} {v u : V} {Q : VK}
variable {a b c : Expr} {ia ib ic : IE} {pos : Pos}
/-! ### isinstance -/
theorem base_is {t : Str} {b : String} (h : isBase t = some b) : (t = "int" ∧ b = "int") ∨ (t = "bool" ∧ b = "bool") ∨ (t = "str" ∧ b = "str") ∨ (t = "tuple" ∧ b = "tuple") ∨ (t = "list" ∧ b = "list") := by
  unfold isBase at h
  split at h
  · cases h; exact .inl ⟨by assumption, rfl⟩
  · split at h
    · cases h; exact .inr (.inl ⟨by assumption, rfl⟩)
    · split at h
      · cases h; exact .inr (.inr (.inl ⟨by assumption, rfl⟩))
      · split at h
        · cases h; exact .inr (.inr (.inr (.inl ⟨by assumption, rfl⟩)))
        · split at h
          · cases h; exact .inr (.inr (.inr (.inr ⟨by assumption, rfl⟩)))
          · cases h
theorem boot_base {t : Str} {b : String} (h : isBase t = some b) : bootBuiltins t = some (.type b) ∧ t ≠ "__name__" ∧ (t == ("__debug__" : Str)) = false := by
  rcases base_is h with ⟨rfl, rfl⟩ | ⟨rfl, rfl⟩ | ⟨rfl, rfl⟩ | ⟨rfl, rfl⟩ | ⟨rfl, rfl⟩
  all_goals exact ⟨by decide +kernel, by decide, by decide⟩
theorem kit_base {b a : String} {t : Str} (h : isBase t = some b) (ha : a = "NoneType" ∨ a = "bool" ∨ a = "int" ∨ a = "str" ∨ a = "tuple" ∨ a = "list" ∨ a = "dict") : kitB a b = some (decide (a = b) || (decide (a = "bool") && decide (b = "int"))) := by
  rcases base_is h with ⟨_, rfl⟩ | ⟨_, rfl⟩ | ⟨_, rfl⟩ | ⟨_, rfl⟩ | ⟨_, rfl⟩
  all_goals rcases ha with rfl | rfl | rfl | rfl | rfl | rfl | rfl <;> decide +kernel
theorem tyV_ok (s : Sim X.K X.mg io H S) (r : Rep X.K X.mg io H x v) {t : String} (h : tyV x S = some t) : TyX X.K H v (.type t) ∧ (t = "NoneType" ∨ t = "bool" ∨ t = "int" ∨ t = "str" ∨ t = "tuple" ∨ t = "list" ∨ t = "dict") := by
  cases r with
  | non => cases h; exact ⟨.base .non, .inl rfl⟩
  | bl b => cases h; exact ⟨.base (.bl b), .inr (.inl rfl)⟩
  | int i => cases h; exact ⟨.base (.int i), .inr (.inr (.inl rfl))⟩
  | str y => cases h; exact ⟨.base (.str y), .inr (.inr (.inr (.inl rfl)))⟩
  | @tup l a xs h1 r =>
    cases h
    refine ⟨?_, .inr (.inr (.inr (.inr (.inl rfl))))⟩
    rcases h1 with (h1 | ⟨o, h1⟩) | ⟨o, its, n, h1, h2, _⟩
    · exact .base (.tup h1)
    · exact .fTuple h1
    · exact .kTuple h1 h2
  | @ref n a h1 =>
    have h : (match S[n]? with
      | some (.lst _) => some "list"
      | some (.dct _) => some "dict"
      | some (.dtt _) => some "dict"
      | _ => none) = some t := h
    split at h
    · rename_i l e1
      cases h
      obtain ⟨xs, hx, _⟩ := s.lst h1 e1
      exact ⟨.base (.lst hx), by simp⟩
    · rename_i l e1
      cases h
      obtain ⟨b, hb, q⟩ := s.at_ _ _ e1
      rw [h1] at hb
      cases hb
      cases q with
      | mk e' r => cases r with | dct r => exact ⟨.base (.dK e'), by simp⟩
    · rename_i l e1
      cases h
      obtain ⟨b, hb, q⟩ := s.at_ _ _ e1
      rw [h1] at hb
      cases hb
      cases q with
      | mk e' r => cases r with | dtt r => exact ⟨.base (.dT e'), by simp⟩
    · cases h
  | _ => cases h
theorem isi_ok {t : Str} {b : String} (hb : isBase t = some b) (s : Sim X.K X.mg io H S) (r : Rep X.K X.mg io H x v) (p : Po X.K X.mg Wx (Rep X.K X.mg) (isiV t x S) io H σ Q) : rIsi X.K [v, .ty b] H Q := by
  unfold isiV at p
  rw [hb] at p
  have p : Po X.K X.mg Wx (Rep X.K X.mg) (match tyV x S with
    | some a => .ok (.bl (decide (a = b) || (decide (a = "bool") && decide (b = "int")))) S
    | none => .err) io H σ Q := p
  split at p
  · rename_i a e
    obtain ⟨h1, h2⟩ := tyV_ok s r e
    exact ⟨v, .ty b, .type a, .type b, _, rfl, .ty b, h1, kit_ty (kit_base hb h2), p.now s (.bl _)⟩
  · exact p.elim
theorem pv_isi {t : Str} {bt : String} {p p2 : Pos} (hb : isBase t = some bt) (hg : Gl X "isinstance") (hm : X.mg "isinstance" = none) (hg2 : Gl X t) (hm2 : X.mg t = none) (hs : notStar a = true) (ha : PV X D Wx a ia) :
    PV X D Wx (.Call (.Name "isinstance" p) [a, .Name t p2] [] pos) (.isi ia t) := by
  obtain ⟨h1, h2, h3⟩ := boot_base hb
  refine peMono (pe_callB call_isi hg hm PyProof.Rows.boot_isinstance (pa_cons ha (pa_cons (pe_bltn (v := .ty bt) hg2 hm2 h1 rfl h2 h3) pa_nil) (star_of hs)) (by decide) (by decide) (star_of hs)) fun σ H Q ⟨io, S, r, s, e, p⟩ => ?_
  rw [den] at p
  exact ⟨io, S, r, s, e, p.bind fun x S1 io1 v H1 _ x1 s1 r1 p1 => isi_ok hb s1 r1 p1⟩
/-! ### calls of the text's own defs -/
/-- the promise of a def: the interpreter's answer -/
def spRun (K : Fg) (mg : Mg) (np : Nat) (F : List W → Vs → Out W) : Sp := fun vs H Q E => ∃ io S ws, Sim K mg io H S ∧ Reps K mg io H ws vs ∧ ws.length = np ∧ Po K mg (fun cls d _ H' => E cls d H') (Rep K mg) (F ws S) io H [] Q
/-- the constants that fill up -/
def conV : W → Option V
  | .non => some .non
  | .bl b => some (.bl b)
  | .int i => some (.int i)
  | .str x => some (.str x)
  | _ => none
def conVs : List W → Option (List V)
  | [] => some []
  | w :: l => match conV w, conVs l with
    | some v, some vs => some (v :: vs)
    | _, _ => none
theorem conV_rep {w : W} {v : V} (h : conV w = some v) {K : Fg} {mg : Mg} {io : List Addr} {H : Hp} : Rep K mg io H w v := by
  cases w <;> first | (cases h; done) | (cases h; constructor)
theorem conVs_rep : ∀ {l : List W} {vs : List V}, conVs l = some vs → ∀ {K : Fg} {mg : Mg} {io : List Addr} {H : Hp}, Reps K mg io H l vs
  | [], vs, h => by cases h; exact .nil
  | w :: l, vs, h => by
    unfold conVs at h
    split at h
    · rename_i v vs' e1 e2
      cases h
      exact .cons (conV_rep e1) (conVs_rep e2)
    · cases h
/-- how a def of d stands: its arguments bind, the last ones by default -/
structure DefOk (K : Fg) (fd : FuncData) (ps : List Str) (d : Fd) : Prop where
  len : ps.length = d.np
  bind : ∀ j, j ≤ d.np → d.np - j ≤ d.dfl.length → ∃ ds dvs, Binds K fd ps ds ∧ Vals dvs ds ∧ conVs (d.dfl.drop (d.dfl.length - (d.np - j))) = some dvs
theorem argsOf_some {d : Fd} {ws vs : List W} (h : argsOf d ws = some vs) : ws.length ≤ d.np ∧ d.np - ws.length ≤ d.dfl.length ∧ vs = ws ++ d.dfl.drop (d.dfl.length - (d.np - ws.length)) ∧ vs.length = d.np := by
  unfold argsOf at h
  split at h
  · rename_i c
    cases h
    refine ⟨c.1, c.2, rfl, ?_⟩
    rw [List.length_append, List.length_drop]
    omega
  · cases h
theorem denL_len {l : IL} {r : Rho} : ∀ {s s' : Vs} {ws : List W}, denL D l r s = .ok ws s' → True := fun _ => trivial
def lenL : IL → Nat
  | .nil => 0
  | .cons _ l => lenL l + 1
theorem lenL_ok : ∀ {l : IL} {r : Rho} {s s' : Vs} {ws : List W}, denL D l r s = .ok ws s' → ws.length = lenL l
  | .nil, r, s, s', ws, h => by rw [denL] at h; cases h; rfl
  | .cons a l, r, s, s', ws, h => by
    rw [denL] at h
    obtain ⟨x, s1, _, h⟩ := bind_get h
    obtain ⟨xs, s2, h2, h⟩ := bind_get h
    cases h
    rw [List.length_cons, lenL_ok h2]
    rfl
/-- what the call of f does, at n calls more -/
def callD (d : Fd) (F : List W → Vs → Out W) (ws : List W) (s : Vs) : Out W := match argsOf d ws with
  | some vs => F vs s
  | none => .err
theorem callD_po {d : Fd} {F : List W → Vs → Out W} {ws : List W} {α β : Type} {R : List Addr → Hp → W → β → Prop} {Q : β → Hp → Prop} (p : Po X.K X.mg Wx R (callD d F ws S) io H σ Q) : ∃ vs, argsOf d ws = some vs ∧ Po X.K X.mg Wx R (F vs S) io H σ Q := by
  unfold callD at p
  split at p
  · exact ⟨_, by assumption, p⟩
  · exact p.elim
theorem po_sp {R : List Addr → Hp → W → V → Prop} {o : Out W} (p : Po X.K X.mg Wx R o io H σ Q) : Po X.K X.mg (fun cls d _ H' => WE Wx σ cls d H') R o io H [] Q := by
  cases o <;> exact p
theorem pv_call {n : Nat} {f : Str} {fa : Addr} {fd : FuncData} {ps : List Str} {d : Fd} {F : List W → Vs → Out W} {es : List Expr} {l : IL} {p : Pos}
    (FO : FnOk X.prog X.w X.K X.mg X.base (L2.CX X.prog X.w) n fa fd ps (spRun X.K X.mg d.np F)) (dk : DefOk X.K fd ps d) (hr : Room n X.A) (tk : Takes X Wx) (hg : Gl X f) (hm : X.mg f = some (.ref fa)) (hk : PySem.W.keepIn X.K (.ref fa) = true)
    (hd : (f == ("__debug__" : Str)) = false) (hj : lenL l ≤ d.np ∧ d.np - lenL l ≤ d.dfl.length) (hF : ∀ ws s, D.fe Str.empty f ws s = callD d F ws s) (hs : noStars (a :: es) = true) (ha : PVs X D Wx (a :: es) l) : PV X D Wx (.Call (.Name f p) (a :: es) [] pos) (.call f l) := by
  have h1 : notStar a = true := by unfold noStars at hs; rw [List.all_cons, Bool.and_eq_true] at hs; exact hs.1
  have h2 : noStars es = true := by unfold noStars at hs; rw [List.all_cons, Bool.and_eq_true] at hs; exact hs.2
  obtain ⟨ds, dvs, hb, hv, hc⟩ := dk.bind (lenL l) hj.1 hj.2
  refine peMono (pe_callSD FO hr hg hm hk hb hv (fun σ => passAt tk σ) ha hd (star_of h1) (nostar_anyB h2)) fun σ H Q ⟨io, S, r, s, e, p⟩ => ?_
  rw [den] at p
  refine ⟨io, S, r, s, e, p.bind fun ws S1 io1 vs H1 ew x1 s1 r1 p1 => ?_⟩
  rw [hF] at p1
  obtain ⟨us, hu, p1⟩ := callD_po (α := W) p1
  obtain ⟨_, _, e2, e3⟩ := argsOf_some hu
  have el := lenL_ok ew
  rw [el] at e2
  refine ⟨io1, S1, us, s1, ?_, e3, po_sp p1⟩
  rw [e2]
  exact r1.append (conVs_rep hc)
/-- C(..) -/
def clsD (c : Str) (F : List W → Vs → Out W) (ws : List W) (s : Vs) : Out W := match F (.ref s.length :: ws) (s ++ [.ins c []]) with
  | .ok .non s' => .ok (.ref s.length) s'
  | .exc x s' => .exc x s'
  | _ => .err
/-- what is wished is the same at all slots -/
def Flat (Wx : WX) : Prop := ∀ cls d σ σ' H, Wx cls d σ H → Wx cls d σ' H
theorem passFlat {Wx : WX} (tk : Takes X Wx) : Passes (L2.CX X.prog X.w) X (fun cls d H => ∀ σ, Wx cls d σ H) := fun pins σ H s e s' I c => passes_call tk (fun cls d σ H h => h σ) pins σ H s e s' I c
theorem made_ok {cn : Str} {C : Addr} {d : Fd} {F : List W → Vs → Out W} {ws : List W} {vs dvs : List V} {Q : VK} (fw : Flat Wx) (mc : X.mg cn = some (.ref C)) (cl : Cls X.K C) (s : Sim X.K X.mg io H S) (r : Reps X.K X.mg io H ws vs)
    (hc : conVs (d.dfl.drop (d.dfl.length - (d.np - (ws.length + 1)))) = some dvs) (p : Po X.K X.mg Wx (Rep X.K X.mg) (clsD cn (callD d F) ws S) io H σ Q) (q dx : Addr) (hq : H q = none) (hdx : H dx = none) (hne : dx ≠ q) :
    spRun X.K X.mg d.np F (.ref q :: (vs ++ dvs)) (upd (upd H dx (.own q)) q (.ins C dx [])) (fun v H2 => v = .non ∧ Q (.ref q) H2) (fun cls d H => ∀ σ, Wx cls d σ H) := by
  have e1 : upd H dx (.own q) q = none := by rw [upd_ne hne.symm]; exact hq
  have s1 := s.new (o := .own q) hdx
  have x1 : Ex io H io (upd H dx (.own q)) := Ex.new hdx
  have x2 : Ex io (upd H dx (.own q)) (io ++ [q]) (upd (upd H dx (.own q)) q (.ins C dx [])) := Ex.push e1
  have s2 := s1.push (o := .ins cn []) (u := .ins C dx []) e1 (.ins mc cl (fun f hf => by cases hf) .nil)
  have x3 := x1.trans x2
  unfold clsD callD at p
  cases ha : argsOf d (.ref S.length :: ws) with
  | none => rw [ha] at p; exact p.elim
  | some us =>
    rw [ha] at p
    have p : Po X.K X.mg Wx (Rep X.K X.mg) (match F us (S ++ [.ins cn []]) with
      | .ok .non s' => .ok (.ref S.length) s'
      | .exc x s' => .exc x s'
      | _ => .err) io H σ Q := p
    obtain ⟨_, _, e2, e3⟩ := argsOf_some ha
    rw [List.length_cons] at e2
    refine ⟨io ++ [q], S ++ [.ins cn []], us, s2, ?_, e3, ?_⟩
    · rw [e2]
      show Reps X.K X.mg _ _ (.ref S.length :: (ws ++ _)) _
      exact .cons (.ref (by rw [← s.len]; simp)) ((r.mono s x3).append (conVs_rep hc))
    · cases ho : F us (S ++ [.ins cn []]) with
      | ok w S' =>
        rw [ho] at p
        intro io' v H' x' s' r'
        cases r' with
        | non =>
          refine ⟨rfl, p io' (.ref q) H' (x3.trans x') s' (.ref (x'.get (by rw [← s.len]; simp)))⟩
        | _ => exact p.elim
      | exc y S' =>
        rw [ho] at p
        exact fun io' H' cls d x' s' r' σ' => fw _ _ _ _ _ (p io' H' cls d (x3.trans x') s' r')
      | err => rw [ho] at p; exact p.elim
theorem pv_make {n : Nat} {f : Str} {fa C : Addr} {fd : FuncData} {ps : List Str} {d : Fd} {F : List W → Vs → Out W} {es : List Expr} {l : IL} {p : Pos} (M : Mk X.K C fa) (cl : Cls X.K C)
    (FO : FnOk X.prog X.w X.K X.mg X.base (L2.CX X.prog X.w) n fa fd ps (spRun X.K X.mg d.np F)) (dk : DefOk X.K fd ps d) (hr : Room (n + 1) X.A) (tk : Takes X Wx) (fw : Flat Wx) (hg : Gl X f) (hm : X.mg f = some (.ref C))
    (hd : (f == ("__debug__" : Str)) = false) (hj : lenL l + 1 ≤ d.np ∧ d.np - (lenL l + 1) ≤ d.dfl.length) (hF : ∀ ws s, D.fe Str.empty f ws s = clsD f (callD d F) ws s) (hs : noStars (a :: es) = true) (ha : PVs X D Wx (a :: es) l) :
    PV X D Wx (.Call (.Name f p) (a :: es) [] pos) (.call f l) := by
  have h1 : notStar a = true := by unfold noStars at hs; rw [List.all_cons, Bool.and_eq_true] at hs; exact hs.1
  have h2 : noStars es = true := by unfold noStars at hs; rw [List.all_cons, Bool.and_eq_true] at hs; exact hs.2
  obtain ⟨ds, dvs, hb, hv, hc⟩ := dk.bind (lenL l + 1) hj.1 hj.2
  refine peMono (pe_make M FO hr hg hm hb hv (passFlat tk) ha hd (star_of h1) (nostar_anyB h2)) fun σ H Q ⟨io, S, r, s, e, p⟩ => ?_
  rw [den] at p
  refine ⟨io, S, r, s, e, p.bind fun ws S1 io1 vs H1 ew x1 s1 r1 p1 => ?_⟩
  rw [hF] at p1
  exact fun q dx hq hdx hne => made_ok fw hm cl s1 r1 (by rw [lenL_ok ew]; exact hc) p1 q dx hq hdx hne
/-! ### methods -/
theorem repP_none {l : List (Str × W)} {xs : List (Str × V)} (r : RepP X.K X.mg io H l xs) {f : Str} (h : (l.lookup f).isNone = true) : xs.lookup f = none := by
  induction r with
  | nil => rfl
  | cons q _ ih =>
    rename_i k w' v' l xs t
    rw [List.lookup_cons] at h ⊢
    cases e : f == k with
    | true => rw [e] at h; cases h
    | false => rw [e] at h; exact ih h
theorem own_ok {cn m : Str} {C : Addr} (mc : X.mg cn = some (.ref C)) (s : Sim X.K X.mg io H S) (r : Rep X.K X.mg io H x v) (h : ownOk cn m x S = true) : ∃ q dx fs, v = .ref q ∧ H q = some (.ins C dx fs) ∧ fs.lookup m = none := by
  cases r with
  | @ref n q h1 =>
    have h : (match S[n]? with
      | some (.ins c' fs) => decide (c' = cn) && (fs.lookup m).isNone
      | _ => false) = true := h
    split at h
    · rename_i c' fs e
      rw [Bool.and_eq_true] at h
      have hc := of_decide_eq_true h.1
      subst hc
      obtain ⟨C', dx, fv, e1, e2, _, _, e3⟩ := s.ins h1 e
      rw [mc] at e2
      cases e2
      exact ⟨q, dx, fv, rfl, e1, repP_none e3 h.2⟩
    · cases h
  | _ => cases h
theorem pv_omt {n : Nat} {cn m : Str} {fa C : Addr} {fd : FuncData} {ps : List Str} {d : Fd} {F : List W → Vs → Out W} {es : List Expr} {l : IL} {apos : Pos} (cl : Cls X.K C) (hmt : Meth X.K C m fa)
    (FO : FnOk X.prog X.w X.K X.mg X.base (L2.CX X.prog X.w) n fa fd ps (spRun X.K X.mg d.np F)) (dk : DefOk X.K fd ps d) (hr : Room n X.A) (tk : Takes X Wx) (fw : Flat Wx) (mc : X.mg cn = some (.ref C))
    (hj : lenL l + 1 ≤ d.np ∧ d.np - (lenL l + 1) ≤ d.dfl.length) (hF : ∀ ws s, D.fe cn m ws s = callD d F ws s) (hb : baseOk a = true) (hline : (apos.endLine == pos.line) = true) (hs : noStars es = true) (hl : es.length < 29)
    (hnil : es = [] → l = .nil) (ha : PV X D Wx a ia) (hes : PVs X D Wx es l) : PV X D Wx (.Call (.Attribute a m apos) es [] pos) (.omt cn m ia l) := by
  obtain ⟨ds, dvs, hbn, hv, hc⟩ := dk.bind (lenL l + 1) hj.1 hj.2
  have go : PE X (.Call (.Attribute a m apos) es [] pos) (tMeth C m (spRun X.K X.mg d.np F) dvs (fun cls d H => ∀ σ, Wx cls d σ H) (tr X.K X.mg Wx (den D ia)) (trA X.K X.mg Wx (denL D l))) := by
    cases es with
    | nil =>
      refine peMono (pe_meth0 ha cl hmt FO hr hbn hv (passFlat tk) (meth_line hb rfl hl hline)) fun σ H Q h => ?_
      obtain rfl := hnil rfl
      obtain ⟨io, S, r, s, e, p⟩ := h
      refine ⟨io, S, r, s, e, ?_⟩
      cases ho : den D ia r S with
      | ok w S' =>
        rw [ho] at p
        intro io' v H' x' s' r'
        obtain ⟨q, dx, fs, h1, h2, h3, h4⟩ := p io' v H' x' s' r'
        obtain ⟨io2, S2, r2, s2, e2, p2⟩ := h4
        rw [denL] at p2
        exact ⟨q, dx, fs, h1, h2, h3, p2.now s2 .nil⟩
      | exc y S' => rw [ho] at p; exact p
      | err => rw [ho] at p; exact p
    | cons b es =>
      have h1 : notStar b = true := by unfold noStars at hs; rw [List.all_cons, Bool.and_eq_true] at hs; exact hs.1
      have h2 : noStars es = true := by unfold noStars at hs; rw [List.all_cons, Bool.and_eq_true] at hs; exact hs.2
      exact pe_meth ha cl hmt FO hr hbn hv (passFlat tk) hes (star_of h1) (nostar_anyB h2) (meth_line hb hs hl hline)
  refine peMono go fun σ H Q ⟨io, S, r, s, e, p⟩ => ?_
  rw [den] at p
  refine ⟨io, S, r, s, e, p.bind fun x S1 io1 v H1 _ x1 s1 r1 p1 => ?_⟩
  by_cases ho : ownOk cn m x S1 = true
  · rw [if_pos ho] at p1
    obtain ⟨q, dx, fs, h1, h2, h3⟩ := own_ok mc s1 r1 ho
    refine ⟨q, dx, fs, h1, h2, h3, io1, S1, r, s1, e.mono s x1, p1.bind fun ws S2 io2 vs H2 ew x2 s2 r2 p2 => ?_⟩
    rw [hF] at p2
    obtain ⟨us, hu, p2⟩ := callD_po (α := W) p2
    obtain ⟨_, _, e2, e3⟩ := argsOf_some hu
    rw [List.length_cons, lenL_ok ew] at e2
    refine ⟨io2, S2, us, s2, ?_, e3, ?_⟩
    · rw [e2]
      exact .cons (r1.mono s1 x2) (r2.append (conVs_rep hc))
    · cases hq : F us S2 with
      | ok w S' => rw [hq] at p2; exact p2
      | exc y S' => rw [hq] at p2; exact fun io' H' cls d x' s' r' σ' => fw _ _ _ _ _ (p2 io' H' cls d x' s' r')
      | err => rw [hq] at p2; exact p2
  · rw [if_neg ho] at p1; exact p1.elim
theorem list_recv (s : Sim X.K X.mg io H S) (r : Rep X.K X.mg io H x v) (h : tyV x S = some "list") : ∃ n q l xs, x = .ref n ∧ v = .ref q ∧ io[n]? = some q ∧ S[n]? = some (.lst l) ∧ H q = some (.lst xs) ∧ Reps X.K X.mg io H l xs := by
  cases r with
  | @ref n q h1 =>
    have h : (match S[n]? with
      | some (.lst _) => some "list"
      | some (.dct _) => some "dict"
      | some (.dtt _) => some "dict"
      | _ => none) = some "list" := h
    split at h
    · rename_i l e1
      obtain ⟨xs, hx, r⟩ := s.lst h1 e1
      exact ⟨n, q, l, xs, rfl, rfl, h1, e1, hx, r⟩
    all_goals (first | cases h | (exfalso; revert h; decide))
  | _ => simp [tyV] at h
end
end Vm
set_option Elab.async false
set_option linter.all false
set_option maxRecDepth 100000
set_option maxHeartbeats 1000000
/-! Methods of built-in types, what is walked, comprehensions. -/
namespace Vm
open PySem L2
section
variable {X : Cx} {D : Wd} {Wx : WX} {io : List Addr} {H : Hp} {S : Vs} {σ : L2.St} {x y : W} {v u : V} {Q : VK}
variable {a b c : Expr} {ia ib ic : IE} {pos : Pos}
/-! ### methods of lists -/
theorem recv_ty {m : Str} {t : String} (hm : mtTy m = some t) (h : recvOk m x S = true) : tyV x S = some t := by
  unfold recvOk at h
  rw [hm] at h
  cases e : tyV x S with
  | none => rw [e] at h; cases h
  | some b =>
    rw [e] at h
    have := of_decide_eq_true h
    rw [this]
theorem list_ty (s : Sim X.K X.mg io H S) (r : Rep X.K X.mg io H x v) (h : tyV x S = some "list") : L2.tyV X.K "list" v H := by
  obtain ⟨n, q, l, xs, rfl, rfl, _, _, h1, _⟩ := list_recv s r h
  exact Or.inl ⟨rfl, _, Or.inl (Or.inl h1)⟩
/-- the rule of a method of a built-in type -/
abbrev MOk (K : Fg) (mg : Mg) (Wx : WX) (m : Str) (R : V → List V → Hp → VK → Prop) : Prop := ∀ (io : List Addr) (H : Hp) (S : Vs) (σ : L2.St) (x : W) (v : V) (ws : List W) (vs : List V) (Q : VK), Sim K mg io H S → Rep K mg io H x v → Reps K mg io H ws vs → Po K mg Wx (Rep K mg) (mtV m x ws S) io H σ Q → R v vs H Q
theorem append_ok : MOk X.K X.mg Wx "append" rAppend := fun io H S σ x v ws vs Q s rx r p => by
  rw [mtV_append] at p
  cases rx with
  | @ref n q h =>
    cases r with
    | nil => exact p.elim
    | @cons w u ws vs q1 t =>
      cases t with
      | cons _ _ => exact p.elim
      | nil =>
        have p : Po X.K X.mg Wx (Rep X.K X.mg) (match S[n]? with
          | some (.lst l) => if decide (l.length < sizeLine) then .ok .non (S.set n (.lst (l ++ [w]))) else .err
          | _ => .err) io H σ Q := p
        split at p
        · rename_i l e1
          obtain ⟨xs, hx, r1⟩ := s.lst h e1
          by_cases hf : decide (l.length < sizeLine) = true
          · rw [if_pos hf] at p
            exact ⟨_, xs, _, rfl, rfl, hx, by rw [← r1.length]; exact of_decide_eq_true hf, p _ _ _ (Ex.write (List.mem_iff_getElem?.mpr ⟨n, h⟩)) (s.write h (.lst (r1.append (.cons q1 .nil)))) .non⟩
          · rw [if_neg hf] at p; exact p.elim
        · exact p.elim
  | _ => cases r <;> exact p.elim
def rInsert : V → List V → Hp → VK → Prop := fun x vs H Q => ∃ (l : Addr) (xs : List V) (i : Int) (y : V), x = .ref l ∧ vs = [.int i, y] ∧ H l = some (.lst xs) ∧ xs.length < sizeLine ∧ 0 ≤ i ∧ i < 2 ^ 63 ∧ Q .non (upd H l (.lst (xs.take i.toNat ++ [y] ++ xs.drop i.toNat)))
theorem insert_ok : MOk X.K X.mg Wx "insert" rInsert := fun io H S σ x v ws vs Q s rx r p => by
  rw [mtV_insert] at p
  cases rx with
  | @ref n q h =>
    cases r with
    | nil => exact p.elim
    | @cons w u ws vs q1 t =>
      cases t with
      | nil => cases q1 <;> exact p.elim
      | @cons w2 u2 ws vs q2 t =>
        cases t with
        | cons _ _ => cases q1 <;> exact p.elim
        | nil =>
          cases q1 with
          | int i =>
            have p : Po X.K X.mg Wx (Rep X.K X.mg) (match S[n]? with
              | some (.lst l) => if decide (0 ≤ i ∧ i < 2 ^ 63) && decide (l.length < sizeLine) then .ok .non (S.set n (.lst (l.take i.toNat ++ [w2] ++ l.drop i.toNat))) else .err
              | _ => .err) io H σ Q := p
            split at p
            · rename_i l e1
              obtain ⟨xs, hx, r1⟩ := s.lst h e1
              by_cases hf : (decide (0 ≤ i ∧ i < 2 ^ 63) && decide (l.length < sizeLine)) = true
              · rw [if_pos hf] at p
                rw [Bool.and_eq_true] at hf
                obtain ⟨h1, h2⟩ := of_decide_eq_true hf.1
                exact ⟨_, xs, i, _, rfl, rfl, hx, by rw [← r1.length]; exact of_decide_eq_true hf.2, h1, h2, p _ _ _ (Ex.write (List.mem_iff_getElem?.mpr ⟨n, h⟩)) (s.write h (.lst (((r1.take _).append (.cons q2 .nil)).append (r1.drop _)))) .non⟩
              · rw [if_neg hf] at p; exact p.elim
            · exact p.elim
          | _ => exact p.elim
  | _ => cases r <;> exact p.elim
theorem pv_lmeth {m : Str} {id : String} {R : V → List V → Hp → VK → Prop} {es : List Expr} {l : IL} {apos : Pos} (pa : PlainAttrs "list") (slot : Slot "list" m id) (hty : typeOf (.builtin id) = pure (.type "method_descriptor")) (hR : MtR X id R) (hv : MOk X.K X.mg Wx m R) (hm : mtTy m = some "list")
    (hb : baseOk a = true) (hline : (apos.endLine == pos.line) = true) (hs : noStars (b :: es) = true) (hl : (b :: es).length < 29) (ha : PV X D Wx a ia) (hes : PVs X D Wx (b :: es) l) : PV X D Wx (.Call (.Attribute a m apos) (b :: es) [] pos) (.meth ia m l) := by
  have h1 : notStar b = true := by unfold noStars at hs; rw [List.all_cons, Bool.and_eq_true] at hs; exact hs.1
  have h2 : noStars es = true := by unfold noStars at hs; rw [List.all_cons, Bool.and_eq_true] at hs; exact hs.2
  refine peMono (pe_bm pa slot hty hR ha hes (base_of hb _) (nostar_few hs hl) hline (star_of h1) (nostar_anyB h2)) fun σ H Q ⟨io, S, r, s, e, p⟩ => ?_
  rw [den] at p
  refine ⟨io, S, r, s, e, p.bind fun x S1 io1 v H1 _ x1 s1 r1 p1 => ?_⟩
  by_cases hr : recvOk m x S1 = true
  · rw [if_pos hr] at p1
    refine ⟨list_ty s1 r1 (recv_ty hm hr), io1, S1, r, s1, e.mono s x1, p1.bind fun ws S2 io2 vs H2 _ x2 s2 r2 p2 => hv io2 H2 S2 σ x v ws vs Q s2 (r1.mono s1 x2) r2 p2⟩
  · rw [if_neg hr] at p1; exact p1.elim
theorem pv_append {es : List Expr} {l : IL} {apos : Pos} (hb : baseOk a = true) (hline : (apos.endLine == pos.line) = true) (hs : noStars (b :: es) = true) (hl : (b :: es).length < 29) (ha : PV X D Wx a ia) (hes : PVs X D Wx (b :: es) l) :
    PV X D Wx (.Call (.Attribute a "append" apos) (b :: es) [] pos) (.meth ia "append" l) := pv_lmeth PySem.F.plainAttrs_list PySem.F.slot_list_append PySem.F.type_list_append mt_append append_ok rfl hb hline hs hl ha hes
theorem pv_insert {es : List Expr} {l : IL} {apos : Pos} (hb : baseOk a = true) (hline : (apos.endLine == pos.line) = true) (hs : noStars (b :: es) = true) (hl : (b :: es).length < 29) (ha : PV X D Wx a ia) (hes : PVs X D Wx (b :: es) l) :
    PV X D Wx (.Call (.Attribute a "insert" apos) (b :: es) [] pos) (.meth ia "insert" l) := pv_lmeth PySem.F.plainAttrs_list PySem.F.slot_list_insert PySem.F.type_list_insert mt_insert insert_ok rfl hb hline hs hl ha hes
/-! ### what is walked -/
/-- J gives the items of q from (io0, H0) on, while q's lists stand still -/
def ItOk (K : Fg) (mg : Mg) (J : It) (q : Src) (io0 : List Addr) (H0 : Hp) : Prop := ∀ i io H S, Ex io0 H0 io H → Sim K mg io H S → q.ok S →
  (i < q.items.length → J.go i H ∧ ∀ x H', J.yld i H x H' → Ex io H io H' ∧ Sim K mg io H' S ∧ ∃ w, q.items[i]? = some w ∧ Rep K mg io H' w x) ∧ (i = q.items.length → J.stop i H)
def trI (K : Fg) (mg : Mg) (Wx : WX) (m : Rho → Vs → Out Src) : TI := fun σ H R => ∃ io S r, Sim K mg io H S ∧ RepE K mg io H r σ ∧ (match m r S with
  | .ok q S' => ∀ io' H', Ex io H io' H' → Sim K mg io' H' S' → ∀ J, ItOk K mg J q io' H' → R J H'
  | .exc x S' => ∀ io' H' cls d, Ex io H io' H' → Sim K mg io' H' S' → RepX K mg io' H' x cls d → Wx cls d σ H'
  | .err => False)
abbrev PIV (X : Cx) (D : Wd) (Wx : WX) (tg e : Expr) (i : II) : Prop := PI X tg e (trI X.K X.mg Wx (denI D i))
theorem piMono {tg e : Expr} {t t' : TI} (h : PI X tg e t) (k : ∀ σ H R, t' σ H R → t σ H R) : PI X tg e t' := ⟨fun pins s σ H R I q => h.run pins s σ H R I (k σ H R q)⟩
theorem piOr {tg e : Expr} {t u : TI} (h : PI X tg e t) (g : PI X tg e u) : PI X tg e (fun σ H R => t σ H R ∨ u σ H R) := ⟨fun pins s σ H R I q => q.elim (h.run pins s σ H R I) (g.run pins s σ H R I)⟩
theorem reps_at {l : List W} {xs : List V} (r : Reps X.K X.mg io H l xs) {i : Nat} (h : i < l.length) : ∃ w x, l[i]? = some w ∧ xs[i]? = some x ∧ Rep X.K X.mg io H w x := by
  obtain ⟨x, h1, h2⟩ := r.get (List.getElem?_eq_getElem h)
  exact ⟨_, x, List.getElem?_eq_getElem h, h1, h2⟩
theorem it_tup {l : List W} {q : Addr} {xs : List V} (s : Sim X.K X.mg io H S) (h : SqT X.K H q xs) (r : Reps X.K X.mg io H l xs) : ItOk X.K X.mg (Itt X.K q) ⟨l, []⟩ io H := fun i jo J S' x sj ok => by
  have h' := sqT_mono s x h
  have r' := Reps.mono s x r
  refine ⟨fun hi => ?_, fun hi => ⟨xs, h', by rw [← r.length, hi]; exact Nat.le_refl _⟩⟩
  obtain ⟨w, y, e1, e2, e3⟩ := reps_at r' hi
  refine ⟨⟨xs, y, h', e2⟩, fun z H' yl => ?_⟩
  obtain ⟨rfl, yl⟩ := yl
  have := yl xs h'
  rw [e2] at this
  cases this
  exact ⟨Ex.refl _ _, sj, w, e1, e3⟩
theorem it_lst {l : List W} {n : Nat} {q : Addr} (s : Sim X.K X.mg io H S) (h : io[n]? = some q) : ItOk X.K X.mg (Itl X.K q) ⟨l, [(n, l)]⟩ io H := fun i jo J S' x sj ok => by
  have e := lstAt_of (ok (n, l) (List.mem_cons_self))
  obtain ⟨xs, hx, r⟩ := sj.lst (x.get h) e
  refine ⟨fun hi => ?_, fun hi => ⟨xs, SqL.of hx, by rw [← r.length, hi]; exact Nat.le_refl _⟩⟩
  obtain ⟨w, y, e1, e2, e3⟩ := reps_at r hi
  refine ⟨⟨xs, y, SqL.of hx, e2⟩, fun z H' yl => ?_⟩
  obtain ⟨rfl, yl⟩ := yl
  have := yl xs (SqL.of hx)
  rw [e2] at this
  cases this
  exact ⟨Ex.refl _ _, sj, w, e1, e3⟩
theorem it_str {z : Str} : ItOk X.K X.mg (Its z) ⟨z.cps.toList.map fun c => .str ⟨#[c]⟩, []⟩ io H := fun i jo J S' x sj ok => by
  refine ⟨fun hi => ?_, fun hi => ?_⟩
  · have hi : i < z.cps.size := by simpa using hi
    refine ⟨hi, fun w H' ⟨e, c, hc, ew⟩ => ?_⟩
    subst e
    subst ew
    refine ⟨Ex.refl _ _, sj, .str ⟨#[c]⟩, ?_, .str _⟩
    show (z.cps.toList.map fun c => W.str ⟨#[c]⟩)[i]? = _
    rw [List.getElem?_map, Array.getElem?_toList, hc]
    rfl
  · show z.cps.size ≤ i
    rw [hi]
    simp
theorem it_rng {lo hi : Int} : ItOk X.K X.mg (Itr lo (hi - lo).toNat) ⟨(List.range (hi - lo).toNat).map fun (i : Nat) => .int (lo + (i : Int)), []⟩ io H := fun i jo J S' x sj ok => by
  refine ⟨fun hi' => ?_, fun hi' => ?_⟩
  · have hi' : i < (hi - lo).toNat := by simpa using hi'
    refine ⟨hi', fun w H' ⟨e, ew⟩ => ?_⟩
    subst e
    subst ew
    refine ⟨Ex.refl _ _, sj, .int (lo + (i : Int)), ?_, .int _⟩
    show ((List.range (hi - lo).toNat).map fun (i : Nat) => W.int (lo + (i : Int)))[i]? = _
    rw [List.getElem?_map, List.getElem?_range hi']
    rfl
  · show (hi - lo).toNat ≤ i
    rw [hi']
    simp
theorem enumL_at : ∀ (l : List W) (k i : Nat) {w : W}, l[i]? = some w → (enumL k l)[i]? = some (.tup [.int ((k + i : Nat) : Int), w])
  | [], k, i, w, h => by simp at h
  | a :: l, k, 0, w, h => by
    simp at h
    subst h
    rfl
  | a :: l, k, i + 1, w, h => by
    have := enumL_at l (k + 1) i (w := w) (by simpa using h)
    show (enumL (k + 1) l)[i]? = _
    rw [this]
    have e : k + 1 + i = k + (i + 1) := by omega
    rw [e]
theorem enumL_len : ∀ (l : List W) (k : Nat), (enumL k l).length = l.length
  | [], _ => rfl
  | _ :: l, k => by show (enumL (k + 1) l).length + 1 = _; rw [enumL_len l]; rfl
theorem it_enum {l : List W} {n : Nat} {q : Addr} (s : Sim X.K X.mg io H S) (h : io[n]? = some q) : ItOk X.K X.mg (Ite X.K q) ⟨enumL 0 l, [(n, l)]⟩ io H := fun i jo J S' x sj ok => by
  have e := lstAt_of (ok (n, l) (List.mem_cons_self))
  obtain ⟨xs, hx, r⟩ := sj.lst (x.get h) e
  refine ⟨fun hi => ?_, fun hi => ⟨xs, SqL.of hx, by rw [← r.length, hi]; show l.length ≤ (enumL 0 l).length; rw [enumL_len]; exact Nat.le_refl _⟩⟩
  have hi : i < l.length := by rw [← enumL_len l 0]; exact hi
  obtain ⟨w, y, e1, e2, e3⟩ := reps_at r hi
  refine ⟨⟨xs, y, SqL.of hx, e2⟩, fun z H' ⟨T, y', ez, hT, eH, yl⟩ => ?_⟩
  subst ez
  subst eH
  have := yl xs (SqL.of hx)
  rw [e2] at this
  cases this
  refine ⟨Ex.new hT, sj.new hT, .tup [.int (i : Nat), w], ?_, .tup (SqT.of upd_same) (.cons (.int _) (.cons (e3.mono sj (Ex.new hT)) .nil))⟩
  show (enumL 0 l)[i]? = _
  rw [enumL_at l 0 i e1]
  simp
/-- a value that is walked: a list, a tuple, a text -/
theorem piv_val {tg : Expr} (ha : PV X D Wx a ia) : PIV X D Wx tg a (.val ia) :=
  piMono (piOr (piOr (pi_list ha) (pi_tup ha)) (pi_str ha)) fun σ H R ⟨io, S, r, s, e, p⟩ => by
    rw [denI] at p
    cases hx : den D ia r S with
    | ok x S1 =>
      rw [hx] at p
      have p : (match srcV x S1 with
        | .ok q S' => ∀ io' H', Ex io H io' H' → Sim X.K X.mg io' H' S' → ∀ J, ItOk X.K X.mg J q io' H' → R J H'
        | .exc x S' => ∀ io' H' cls d, Ex io H io' H' → Sim X.K X.mg io' H' S' → RepX X.K X.mg io' H' x cls d → Wx cls d σ H'
        | .err => False) := p
      cases x with
      | tup l =>
        refine .inl (.inr ⟨io, S, r, s, e, ?_⟩)
        rw [hx]
        intro io' v H' x' s' r'
        cases r' with
        | @tup l q xs h r1 => exact ⟨q, rfl, ⟨xs, h⟩, p io' H' x' s' _ (it_tup s' h r1)⟩
      | str z =>
        refine .inr ⟨io, S, r, s, e, ?_⟩
        rw [hx]
        intro io' v H' x' s' r'
        cases r' with
        | str z => exact ⟨z, rfl, p io' H' x' s' _ it_str⟩
      | ref n =>
        refine .inl (.inl ⟨io, S, r, s, e, ?_⟩)
        rw [hx]
        intro io' v H' x' s' r'
        cases r' with
        | @ref n q h =>
          have p : (match (match lstAt S1 n with
            | some l => Out.ok (⟨l, [(n, l)]⟩ : Src) S1
            | none => .err) with
            | .ok q S' => ∀ io' H', Ex io H io' H' → Sim X.K X.mg io' H' S' → ∀ J, ItOk X.K X.mg J q io' H' → R J H'
            | .exc x S' => ∀ io' H' cls d, Ex io H io' H' → Sim X.K X.mg io' H' S' → RepX X.K X.mg io' H' x cls d → Wx cls d σ H'
            | .err => False) := p
          cases el : lstAt S1 n with
          | none => rw [el] at p; exact p.elim
          | some l =>
            rw [el] at p
            obtain ⟨xs, hx', _⟩ := s'.lst h (lstAt_of el)
            exact ⟨q, rfl, ⟨xs, SqL.of hx'⟩, p io' H' x' s' _ (it_lst s' h)⟩
      | _ => exact p.elim
    | exc y S1 =>
      rw [hx] at p
      refine .inl (.inl ⟨io, S, r, s, e, ?_⟩)
      rw [hx]
      exact p
    | err => rw [hx] at p; exact p.elim
theorem rng_get {lo hi : Int} {q : Src} {S' : Vs} (h : rngV lo hi S = .ok q S') : (-(2 ^ 62) ≤ lo ∧ lo < 2 ^ 62 ∧ -(2 ^ 62) ≤ hi ∧ hi < 2 ^ 62) ∧ q = ⟨(List.range (hi - lo).toNat).map fun (i : Nat) => .int (lo + (i : Int)), []⟩ ∧ S' = S := by
  unfold rngV at h
  split at h
  · rename_i c
    cases h
    exact ⟨of_decide_eq_true c, rfl, rfl⟩
  · cases h
theorem one_star (hs : notStar a = true) : starEach [a] X.env = [(false, eval a X.env)] := star_of (es := []) hs
theorem piv_rng1 {tg : Expr} {p : Pos} (hg : Gl X "range") (hm : X.mg "range" = none) (hs : notStar a = true) (ha : PV X D Wx a ia) : PIV X D Wx tg (.Call (.Name "range" p) [a] [] pos) (.rng1 ia) :=
  piMono (pi_range1 hg hm (pa_cons ha pa_nil (star_of hs)) (one_star hs)) fun σ H R ⟨io, S, r, s, e, p⟩ => by
    rw [denI] at p
    refine ⟨io, S, r, s, e, ?_⟩
    cases hx : den D ia r S with
    | ok x S1 =>
      rw [hx] at p
      intro io' v H' x' s' r'
      cases r' with
      | int j =>
        have p : (match rngV 0 j S1 with
          | .ok q S' => ∀ io' H', Ex io H io' H' → Sim X.K X.mg io' H' S' → ∀ J, ItOk X.K X.mg J q io' H' → R J H'
          | .exc x S' => ∀ io' H' cls d, Ex io H io' H' → Sim X.K X.mg io' H' S' → RepX X.K X.mg io' H' x cls d → Wx cls d σ H'
          | .err => False) := p
        cases hq : rngV 0 j S1 with
        | ok q S2 =>
          obtain ⟨h1, rfl, rfl⟩ := rng_get hq
          rw [hq] at p
          refine ⟨j, rfl, h1.2.2.1, h1.2.2.2, ?_⟩
          have := p io' H' x' s' _ it_rng
          rw [show j - 0 = j from Int.sub_zero j] at this
          exact this
        | exc y S2 => unfold rngV at hq; split at hq <;> cases hq
        | err => rw [hq] at p; exact p.elim
      | _ => exact p.elim
    | exc y S1 => rw [hx] at p; exact p
    | err => rw [hx] at p; exact p.elim
theorem piv_enum {es : List Expr} {kk : Nat} {tp p : Pos} (hg : Gl X "enumerate") (hm : X.mg "enumerate" = none) (hs : notStar a = true) (ha : PV X D Wx a ia) : PIV X D Wx (.Tuple es kk tp) (.Call (.Name "enumerate" p) [a] [] pos) (.enum ia) :=
  piMono (pi_enum hg hm (pa_cons ha pa_nil (star_of hs)) (one_star hs)) fun σ H R ⟨io, S, r, s, e, p⟩ => by
    rw [denI] at p
    refine ⟨io, S, r, s, e, ?_⟩
    cases hx : den D ia r S with
    | ok x S1 =>
      rw [hx] at p
      intro io' v H' x' s' r'
      cases r' with
      | @ref n q h =>
        have p : (match (match lstAt S1 n with
          | some l => Out.ok (⟨enumL 0 l, [(n, l)]⟩ : Src) S1
          | none => .err) with
          | .ok q S' => ∀ io' H', Ex io H io' H' → Sim X.K X.mg io' H' S' → ∀ J, ItOk X.K X.mg J q io' H' → R J H'
          | .exc x S' => ∀ io' H' cls d, Ex io H io' H' → Sim X.K X.mg io' H' S' → RepX X.K X.mg io' H' x cls d → Wx cls d σ H'
          | .err => False) := p
        cases el : lstAt S1 n with
        | none => rw [el] at p; exact p.elim
        | some l =>
          rw [el] at p
          obtain ⟨xs, hx', _⟩ := s'.lst h (lstAt_of el)
          exact ⟨q, xs, rfl, SqL.of hx', p io' H' x' s' _ (it_enum s' h)⟩
      | _ => exact p.elim
    | exc y S1 => rw [hx] at p; exact p
    | err => rw [hx] at p; exact p.elim
end
end Vm
set_option Elab.async false
set_option linter.all false
set_option maxRecDepth 100000
set_option maxHeartbeats 2000000
/-! == and != by an own ==, of instances and of lists and tuples that are alike item by item. -/
namespace Vn0
open PySem PySem.SeqAt PySem.Spec PyProof.Rows L2 GQ MeetsSeq MeetsSeq2 MeetsSeq3 SeqRoads2
open AutoSeq1 (wpAny_loadPart')
section
variable {prog : Program} {w : World} {A : Around} {R : Result → Shared → Prop}
theorem ne_loop (l b : Addr) (N : Nat) (I : Nat → Shared → Prop) (hl : ListI prog w A (fun e s' => R (.error e) s') l b N I) (fin : ∀ s, I N s → R (.ok (.ret (.bool false))) s) : ∀ (k i : Nat), N - i = k → i ≤ N → ∀ s, I i s →
    wpAny (model prog w) A.in1 (Builtin.«list.__eq__.loop» ⟨[.ref l, .ref b, rawInt i, rawInt 3], []⟩) (FinOf prog w A R) (fun e s' => R (.error e) s') s := by
  intro k
  induction k with
  | zero =>
    intro i hk hi s h
    obtain ⟨xs, ys, n, m, a1, a2, n1, n2, _⟩ := hl _ _ h
    have hi' : i = N := by omega
    have hR : R (.ok (.ret (.bool false))) s := fin s (hi' ▸ h)
    obtain ⟨hp, g, d, tk, os⟩ := s
    wp_walk using wpAny_loadPart' a1, wpAny_loadPart' a2
    rw [show xs[((i : Nat) : Int).toNat]? = none by simp; omega, show ys[((i : Nat) : Int).toNat]? = none by simp; omega]
    wp_walk using wpAny_loadPart' a1, wpAny_loadPart' a2
    show R (.ok (.ret (.bool (xs.size != ys.size)))) _; rw [n1, n2]
    simpa using hR
  | succ k ih =>
    intro i hk hi s h
    obtain ⟨xs, ys, n, m, a1, a2, n1, n2, turn⟩ := hl _ _ h
    have j1 : i < xs.size := by omega
    have j2 : i < ys.size := by omega
    have ht := turn j1 j2
    obtain ⟨hp, g, d, tk, os⟩ := s
    wp_walk using wpAny_loadPart' a1, wpAny_loadPart' a2
    have hc : ((i : Int) + 1) = ((i + 1 : Nat) : Int) := by omega
    rw [show xs[((i : Nat) : Int).toNat]? = some xs[i] by simp [j1], show ys[((i : Nat) : Int).toNat]? = some ys[i] by simp [j2]]
    refine wpAny_bind (wpAny_mono ht (fun r s2 z => ?_) fun _ _ x => x)
    obtain ⟨rfl, h2⟩ := z
    have rec2 := ih (i + 1) (by omega) (by omega) s2 h2
    obtain ⟨hp2, g2, d2, tk2, os2⟩ := s2
    wp_walk
    rw [hc]; exact ⟨plainId_quiet plain_eq_loop _, codeAny_builtin entry_eq_loop (by rw [Around.under_plainId plain_eq_loop _]; exact rec2)⟩
theorem list_neG (l b : Addr) (N : Nat) (I : Nat → Shared → Prop) (hl : ListI prog w A (fun e s' => R (.error e) s') l b N I) (fin : ∀ s, I N s → R (.ok (.ret (.bool false))) s) {s : Shared} (h : I 0 s) :
    wpAny (model prog w) A.in1 (Builtin.«list.__ne__» ⟨[.ref l, .ref b], []⟩) (FinOf prog w A R) (fun e s' => R (.error e) s') s := by
  obtain ⟨xs, ys, n, m, a1, a2, n1, n2, _⟩ := hl _ _ h
  have rec2 := ne_loop (A := A) (R := R) l b N I hl fin _ 0 rfl (Nat.zero_le _) s h
  obtain ⟨hp, g, d, tk, os⟩ := s
  have f3 := AutoSeq1.sub_list_list
  have hne : ¬ (xs.size != ys.size) = true := by simp [n1, n2]
  wp_walk using wpAny_loadPart' a1, wpAny_loadPart' a2
  exact ⟨plainId_quiet plain_eq_loop _, codeAny_builtin entry_eq_loop (by rw [Around.under_plainId plain_eq_loop _]; exact rec2)⟩
theorem tuple_neG (l b : Addr) (items items2 : Array Value) (n n2 : Nat) (dd dd2 : Option Addr) (sl sl2 : Array (Option Value)) (hsz : items.size = items2.size) (I : Nat → Shared → Prop)
    (turn : ∀ i (h1 : i < items.size) (h2 : i < items2.size) s, I i s → wpAny (model prog w) A.in1 (eqBool items[i] items2[i]) (fun r s' => r = true ∧ I (i + 1) s') (fun e s' => R (.error e) s') s)
    (fin : ∀ s, I items.size s → R (.ok (.ret (.bool false))) s) {s : Shared} (hl1 : s.heap.get? l = some { cls := .type "tuple", dict := dd, data := .seq items n, slots := sl }) (hb1 : s.heap.get? b = some { cls := .type "tuple", dict := dd2, data := .seq items2 n2, slots := sl2 }) (h : I 0 s) :
    wpAny (model prog w) A.in1 (Builtin.«tuple.__ne__» ⟨[.ref l, .ref b], []⟩) (FinOf prog w A R) (fun e s' => R (.error e) s') s := by
  have f2 := AutoSeq1.sub_tuple_tuple
  have hZ : (items.toList.zip items2.toList).length = items.size := by simp [hsz]
  have h0 := h
  obtain ⟨hp, g, d, tk, os⟩ := s
  wp_walk using wpAny_loadPart' hl1, wpAny_loadPart' hb1, wpAny_forIn_list _ (fun rest b s' => b.1 = none ∧ ∃ i, rest = (items.toList.zip items2.toList).drop i ∧ i ≤ items.size ∧ I i s') _
  case turn =>
    rintro ⟨y, x⟩ rest b s' ⟨hb', i, hz, hi, hI⟩
    have hlt : i < (items.toList.zip items2.toList).length := by
      rcases Nat.lt_or_ge i (items.toList.zip items2.toList).length with h' | h'
      · exact h'
      · rw [List.drop_of_length_le h'] at hz; cases hz
    have h1 : i < items.size := hZ ▸ hlt
    have h2 : i < items2.size := hsz ▸ h1
    rw [List.drop_eq_getElem_cons hlt] at hz
    injection hz with hyx hrest
    have hy : y = items[i] := by have := congrArg Prod.fst hyx; simpa using this
    have hx : x = items2[i] := by have := congrArg Prod.snd hyx; simpa using this
    subst hy hx
    refine wpAny_bind (wpAny_mono (turn i h1 h2 s' hI) (fun r s2 q2 => ?_) fun _ _ x => x)
    obtain ⟨hr, q2⟩ := q2
    subst hr
    wp_walk
    exact ⟨rfl, i + 1, hrest, h1, q2⟩
  case fin =>
    rintro ⟨b1, b2⟩ s' ⟨hb', i, hz, hi, hI⟩
    simp only at hb'
    subst hb'
    have hge : items.size ≤ i := by
      rcases Nat.lt_or_ge i (items.toList.zip items2.toList).length with h' | h'
      · rw [List.drop_eq_getElem_cons h'] at hz; cases hz
      · exact hZ ▸ h'
    have hi' : i = items.size := by omega
    have hR : R (.ok (.ret (.bool false))) s' := fin s' (hi' ▸ hI)
    wp_walk
    simpa [Builtin.Tuple.tupleCompareSizes, hsz] using hR
  case h =>
    exact ⟨rfl, 0, rfl, Nat.zero_le _, h0⟩
end
section
variable {prog : Program} {w : World} {A : Around} {E : Value → Shared → Prop} {s : Shared}
theorem rc_list_ne {l b : Addr} {N : Nat} {Q : Value → Shared → Prop} (hu : A.units < cLine) (I : Nat → Shared → Prop) (hl : ListI prog w A E l b N I) (fin : ∀ s, I N s → Q (.bool false) s) (h : I 0 s) : wpAny (model prog w) A (richCompare .NotEq (.ref l) (.ref b)) Q E s := by
  obtain ⟨xs, ys, n, m, a1, a2, _, _, _⟩ := hl _ _ h
  refine wpAny_richCompare_same_room (op := .NotEq) ⟨_, a1, rfl⟩ ⟨_, a2, rfl⟩ F.slot_list_ne (call_here F.slot_list_ne ⟨_, a1, rfl⟩ F.entry_list_ne (F.args_list_ne_2 _ _) ?_) hu
  exact list_neG (R := wants (fun v s' => v ≠ .notImplemented ∧ Q v s') E) l b N I hl (fun s' q => ⟨(fun x => nomatch x), fin s' q⟩) h
theorem rc_tup_ne {l b : Addr} {items items2 : Array Value} {Q : Value → Shared → Prop} (hsz : items.size = items2.size) (hu : A.units < cLine) (I : Nat → Shared → Prop)
    (hl : s.heap.IsTuple l items) (hb : s.heap.IsTuple b items2)
    (turn : ∀ i (h1 : i < items.size) (h2 : i < items2.size) s, I i s → wpAny (model prog w) A.in1 (eqBool items[i] items2[i]) (fun r s' => r = true ∧ I (i + 1) s') E s)
    (fin : ∀ s, I items.size s → Q (.bool false) s) (h : I 0 s) : wpAny (model prog w) A (richCompare .NotEq (.ref l) (.ref b)) Q E s := by
  obtain ⟨⟨cls, dd, data, sl⟩, ho, hc, n, hd⟩ := id hl
  obtain ⟨⟨cls2, dd2, data2, sl2⟩, ho2, hc2, n2, hd2⟩ := id hb
  simp only at hc hd hc2 hd2
  subst hc hd hc2 hd2
  refine wpAny_richCompare_same_room (op := .NotEq) ⟨_, ho, rfl⟩ ⟨_, ho2, rfl⟩ F.slot_tuple_ne (call_here F.slot_tuple_ne ⟨_, ho, rfl⟩ F.entry_tuple_ne (F.args_tuple_ne_2 _ _) ?_) hu
  exact tuple_neG (R := wants (fun v s' => v ≠ .notImplemented ∧ Q v s') E) l b items items2 n n2 dd dd2 sl sl2 hsz I turn (fun s' q => ⟨(fun x => nomatch x), fin s' q⟩) ho ho2 h
end
/-! ### != of an instance whose class has an own == alone -/
section
open PySem.W
variable {prog : Program} {w : World} {A : Around} {E : Value → Shared → Prop} {s : Shared} {K : PySem.W.Frag} {C x f : Addr} {ox : Obj} {od : Option Obj} {b tb : Value}
theorem ne_K {h₀ : Heap} {L : Addr} {m : Str → Option Value} {Q : Value → Shared → Prop} (hu : A.units + 1 < cLine) (F : PyProof.Rows.Fr h₀ L s.heap m) (X₀ : K.In h₀) (I : PySem.W.InstAt s.heap x ox C od) (hb : PySem.W.Looks (model prog w) s.heap (typeOf b) tb) (hn : PySem.W.notFirst K C tb = true)
    (hne : PySem.W.findIn K (.ref C) "__ne__" = some (some (.builtin "object.__ne__"))) (hs : PySem.W.findIn K (.ref C) "__eq__" = some (some (.ref f))) (hf : PySem.W.isFn K (.ref f) = true) (hp : PySem.W.plainOver K C = true)
    (h : wpAny (model prog w) A.in1 (call (.ref f) [.ref x, b]) (fun v s' => ∃ t, v = .bool t ∧ Q (.bool (!t)) s') E s) : wpAny (model prog w) A (richCompare .NotEq (.ref x) b) Q E s := by
  have X := X₀.keeps F.keep
  have FB := PySem.F.cmp_object
  obtain ⟨cd, hc, ho⟩ := PySem.W.any_some hp
  have ne : cd.mro.isEmpty = false := by cases q : cd.mro with | nil => rw [q] at ho; cases ho | cons _ _ => rfl
  have sub : PySem.W.Looks (model prog w) s.heap (isInstance (.ref x) (.type "object")) true := I.type.andThen (PySem.W.looks_mroIn X (by unfold PySem.W.mroIn; rw [hc, Option.bind_some, if_neg (by rw [ne]; decide), PySem.W.only_has ho]))
  have one : wpAny (model prog w) A (tryCompare (.ref x) "__ne__" b) (fun r s' => ∃ v, r = some v ∧ Q v s') E s := by
    unfold tryCompare
    simp only [callSpecialIfBound?, bindSpecialIfBound?]
    refine wpAny_bind (wpAny_holding (wpAny_bind (wpAny_bind (wpAny_bind (I.type.here ((PySem.W.looks_findIn X hne).here ?_))))))
    simp only [FB.ne.bind]
    refine wpAny_bind (wpAny_askSetting (wpAny_ite ?_))
    have fin : wpAny (model prog w) A (call (.builtin "object.__ne__") ([.ref x] ++ [b]) >>= fun v => pure (some v)) (fun a s' => ∃ t, a = some (.bool t) ∧ Q (.bool t) s') E s := by
      refine wpAny_bind (wpAny_call (codeAny_call_builtin FB.ne.plain PySem.F.cmpEntry_ne (@PySem.W.check_slot (model prog w) _ _ s "object.__ne__" "object" "__ne__" (.ref x) [b] [] _ PySem.F.cmpKind_ne PySem.F.cmpSplit_ne sub (PySem.F.cmpArgs_ne _ _) ?_)))
      have hu' : A.in1.units < cLine := by have : A.in1.units = A.units + 1 := rfl; omega
      unfold Builtin.«object.__ne__»
      repeat (first
        | with_reducible refine wpAny_cRoomFor hu' ?_
        | (refine wpAny_bind (m := callSpecialIfBound? (.ref x) (Str.ofString "__eq__") [b])
            (PySem.W.ifBound_K X I hs hf (wpAny_mono h (fun r s' hr => by
              obtain ⟨t, rfl, hq⟩ := hr
              repeat (first | exact ⟨_, rfl, hq⟩ | exact wpAny_pure ⟨_, rfl, hq⟩ | exact wpAny_pure (wpAny_pure ⟨_, rfl, hq⟩) | (refine wpAny_bind (m := truthy (.bool _)) (wpAny_truthy_bool ?_)) | wp_step)) fun _ _ e => e)))
        | wp_step)
    have fin2 := wpAny_mono fin (Q' := fun a s' => wpAny (model prog w) A (match a with
      | some .notImplemented => pure none
      | none => pure none
      | some r => pure (some r)) (fun r s' => ∃ v, r = some v ∧ Q v s') E s') (fun a s' z => by
        obtain ⟨t, rfl, q⟩ := z
        exact wpAny_pure ⟨_, rfl, q⟩) fun _ _ e => e
    split
    · exact wpAny_bind (wpAny_pure (wpAny_pure fin2))
    · exact wpAny_tryCatch (wpAny_bind (wpAny_pure (wpAny_pure fin2)))
  have one : wpAny (model prog w) A (tryCompare (.ref x) (cmpInfo .NotEq).2.1 b) (fun r s' => ∃ v, r = some v ∧ Q v s') E s := one
  unfold richCompare
  simp only [oneThing_ref]
  refine wpAny_holding (wpAny_bind (wpAny_cRoomFor (by omega) ?_))
  refine wpAny_bind (I.type.here (wpAny_bind (hb.here ?_)))
  split
  · rename_i q
    have e : PySem.W.subIn K tb (.ref C) = some false := by
      rcases Bool.or_eq_true_iff.mp hn with e | e
      · rw [beq_iff_eq.mp e] at q; simp at q
      · exact beq_iff_eq.mp e
    refine wpAny_bind ((PySem.W.looks_subIn X e).here ?_)
    simp only [Bool.false_eq_true, if_false]
    refine wpAny_bind (wpAny_mono one (fun r s' z => ?_) fun _ _ e => e)
    obtain ⟨v, rfl, hq⟩ := z
    exact wpAny_pure hq
  · refine wpAny_bind (wpAny_pure ?_)
    simp only [Bool.false_eq_true, if_false]
    refine wpAny_bind (wpAny_mono one (fun r s' z => ?_) fun _ _ e => e)
    obtain ⟨v, rfl, hq⟩ := z
    exact wpAny_pure hq
end
end Vn0
set_option Elab.async false
set_option linter.all false
set_option maxRecDepth 100000
set_option maxHeartbeats 2000000
/-! == and != by an own ==: the interpreter's rule. -/
namespace Vm
open PySem L2
/-- a class with an own == -/
structure OwnC (X : Cx) (D : Wd) (lv : Nat) (c : Str) (C fa : Addr) : Prop where
  mg : X.mg c = some (.ref C)
  cls : Cls X.K C
  mt : Meth X.K C "__eq__" fa
  ne : PySem.W.findIn X.K (.ref C) "__ne__" = some (some (.builtin "object.__ne__"))
  run : ∃ fd ps d F, FnOk X.prog X.w X.K X.mg X.base (L2.CX X.prog X.w) lv fa fd ps (spRun X.K X.mg d.np F) ∧ DefOk X.K fd ps d ∧ d.np = 2 ∧ ∀ ws s, D.fe c "__eq__" ws s = callD d F ws s
section
variable {X : Cx} {D : Wd} {Wx : WX} {lv : Nat} {cn : Str} {C fa : Addr} {io : List Addr} {H : Hp} {S : Vs} {σ : L2.St} {x y : W} {v u : V}
theorem own_run (oc : OwnC X D lv cn C fa) (tk : Takes X Wx) (fw : Flat Wx) {A : Around} (sb : Sub X lv A) {pins : List (Addr × Obj)} {s : Shared} (I : Inv X pins σ H s) (sm : Sim X.K X.mg io H S) (rx : Rep X.K X.mg io H x v) (ry : Rep X.K X.mg io H y u) {v' u' : Value} (hv : RelV v v') (hu : RelV u u')
    {Q : VK} (p : Po X.K X.mg Wx (Rep X.K X.mg) (D.fe cn "__eq__" [x, y] S) io H σ Q) : wpAny (model X.prog X.w) A (call (.ref fa) [v', u']) (EP X pins σ Q) X.xe s := by
  obtain ⟨fd, ps, d, F, FO, dk, hd, hF⟩ := oc.run
  rw [hF] at p
  obtain ⟨us, hu', p⟩ := callD_po (α := W) p
  obtain ⟨h1, h2, e2, e3⟩ := argsOf_some hu'
  obtain ⟨ds, dvs, hbn, hvd, hc⟩ := dk.bind 2 (by omega) (by omega)
  have e4 : us = [x, y] := by
    rw [e2]
    rw [show d.dfl.drop (d.dfl.length - (d.np - [x, y].length)) = [] by rw [List.drop_eq_nil_of_le]; show d.dfl.length ≤ d.dfl.length - (d.np - 2); omega, List.append_nil]
  subst e4
  rw [show d.dfl.drop (d.dfl.length - (d.np - 2)) = [] by rw [List.drop_eq_nil_of_le]; omega] at hc
  cases hc
  cases hvd
  have hsp : spRun X.K X.mg d.np F [v, u] H Q (fun cls d H => ∀ σ, Wx cls d σ H) := by
    refine ⟨io, S, [x, y], sm, .cons rx (.cons ry .nil), hd.symm, ?_⟩
    cases hq : F [x, y] S with
    | ok w S' => rw [hq] at p; exact p
    | exc y S' => rw [hq] at p; exact fun io' H' cls d x' s' r' σ' => fw _ _ _ _ _ (p io' H' cls d x' s' r')
    | err => rw [hq] at p; exact p
  have e0 : Env0 X.prog X.w X.K X.mg X.base A X.stack s H := by
    have e := I.env0
    exact ⟨by rw [sb.fr]; exact e.frames, e.mod, e.bs, e.bsz, e.funs, e.frf, e.hok, e.bare⟩
  have hl := FO.len _ _ _ _ hsp
  have r2 : Vals [v, u] [v', u'] := .cons hv (.cons hu .nil)
  refine wpAny_call (codeAny_mono (FO.run A X.stack s H ⟨[v', u'], []⟩ [v', u'] [v, u] _ _ sb.room e0 (by
    have := hbn s [v', u'] I.kIn (by simpa using hl)
    simpa using this) r2 hsp) fun r s' hq => ?_)
  cases r with
  | error e => exact passFlat tk pins σ H s e s' I hq
  | ok fl =>
    cases fl with
    | ret w => exact I.after hq
    | next => exact False.elim hq
    | brk => exact False.elim hq
    | cont => exact False.elim hq
/-- what the other side may be -/
def TyOk (K : Fg) (C : Addr) (y : V) (H : Hp) : Prop := (∃ b dy gs, y = .ref b ∧ H b = some (.ins C dy gs)) ∨ ∃ t, TyX K H y (.type t) ∧ (t = "NoneType" ∨ t = "bool" ∨ t = "int" ∨ t = "str" ∨ t = "tuple" ∨ t = "list" ∨ t = "dict")
theorem tyOk_looks {A : Around} {pins : List (Addr × Obj)} {s : Shared} (I : Inv X pins σ H s) (t : TyOk X.K C u H) {u' : Value} (hu : RelV u u') : ∃ tb, PySem.W.Looks (model X.prog X.w) s.heap (typeOf u') tb ∧ PySem.W.notFirst X.K C tb = true := by
  rcases t with ⟨b, dy, gs, rfl, hb⟩ | ⟨t, ht, ht2⟩
  · cases hu
    obtain ⟨mB, J, _⟩ := ins_get I.hok hb
    obtain ⟨od, J, _⟩ := J.look
    exact ⟨_, J.type, by simp [PySem.W.notFirst]⟩
  · obtain ⟨P, k, hp, _⟩ := kit_of I hu ht
    refine ⟨_, k.ty _ _ I.kIn hp, ?_⟩
    unfold PySem.W.notFirst PySem.W.subIn
    rcases ht2 with rfl | rfl | rfl | rfl | rfl | rfl | rfl <;> (refine Bool.or_eq_true_iff.mpr (.inr ?_); rfl)
theorem own_eq (oc : OwnC X D lv cn C fa) (tk : Takes X Wx) (fw : Flat Wx) {A : Around} (sb : Sub X lv A) {pins : List (Addr × Obj)} {s : Shared} (I : Inv X pins σ H s) (sm : Sim X.K X.mg io H S) (rx : Rep X.K X.mg io H x v) (ry : Rep X.K X.mg io H y u) {v' u' : Value} (hv : RelV v v') (hu : RelV u u')
    {a dx : Addr} {fs : List (Str × V)} (ha : v = .ref a) (hi : H a = some (.ins C dx fs)) (ty : TyOk X.K C u H) {Q : VK} (p : Po X.K X.mg Wx (Rep X.K X.mg) (D.fe cn "__eq__" [x, y] S) io H σ Q) :
    wpAny (model X.prog X.w) A (richCompare .Eq v' u') (EP X pins σ Q) X.xe s := by
  subst ha
  obtain ⟨tb, lk, nf⟩ := tyOk_looks (A := A) I ty hu
  have r := own_run oc tk fw sb I sm rx ry hv hu p
  cases hv
  obtain ⟨mA, J, _⟩ := ins_get I.hok hi
  obtain ⟨od, J, _⟩ := J.look
  obtain ⟨m, hF⟩ := I.fr
  refine PySem.W.cmp_K (op := .Eq) sb.room.units0 hF I.ok.mod.kin J lk nf oc.mt.at_ oc.mt.fn (wpAny_mono r (fun w s' q => ?_) fun _ _ e => e)
  obtain ⟨z, H', I', rz, q⟩ := q
  unfold PySem.W.CmpBack
  have fin : EP X pins σ Q w s' := ⟨z, H', I', rz, q⟩
  cases w <;> first | exact fin | (exfalso; cases z <;> first | (cases rz; done) | (obtain ⟨_, e⟩ := rz; cases e))
theorem own_ne (oc : OwnC X D lv cn C fa) (tk : Takes X Wx) (fw : Flat Wx) {A : Around} (sb : Sub X (lv + 1) A) {pins : List (Addr × Obj)} {s : Shared} (I : Inv X pins σ H s) (sm : Sim X.K X.mg io H S) (rx : Rep X.K X.mg io H x v) (ry : Rep X.K X.mg io H y u) {v' u' : Value} (hv : RelV v v') (hu : RelV u u')
    {a dx : Addr} {fs : List (Str × V)} (ha : v = .ref a) (hi : H a = some (.ins C dx fs)) (ty : TyOk X.K C u H) {Q : VK} (p : Po X.K X.mg Wx (Rep X.K X.mg) (D.fe cn "__eq__" [x, y] S) io H σ (fun z H' => ∃ t, z = .bl t ∧ Q (.bl (!t)) H')) :
    wpAny (model X.prog X.w) A (richCompare .NotEq v' u') (EP X pins σ Q) X.xe s := by
  subst ha
  obtain ⟨tb, lk, nf⟩ := tyOk_looks (A := A) I ty hu
  have r := own_run oc tk fw sb.in1 I sm rx ry hv hu p
  cases hv
  obtain ⟨mA, J, _⟩ := ins_get I.hok hi
  obtain ⟨od, J, _⟩ := J.look
  obtain ⟨m, hF⟩ := I.fr
  refine Vn0.ne_K (by have := sb.room.un; have : cLine = 9900 := rfl; omega) hF I.ok.mod.kin J lk nf oc.ne oc.mt.at_ oc.mt.fn oc.cls.po (wpAny_mono r (fun w s' q => ?_) fun _ _ e => e)
  obtain ⟨z, H', I', rz, t, ez, q⟩ := q
  subst ez
  cases rz
  exact ⟨t, rfl, .bl (!t), H', I', rfl, q⟩
/-! ### alike -/
def LoopS (X : Cx) (pins : List (Addr × Obj)) (σ : L2.St) (io : List Addr) (H : Hp) (S : Vs) (s' : Shared) : Prop := ∃ io' H', Inv X pins σ H' s' ∧ Ex io H io' H' ∧ Sim X.K X.mg io' H' S
def AlOk (X : Cx) (S : Vs) (n : Nat) (al : W → W → Prop) : Prop := ∀ (A : Around) (pins : List (Addr × Obj)) (s : Shared) (σ : L2.St) (io : List Addr) (H : Hp) (x y : W) (v u : V) (v' u' : Value), Sub X n A → Inv X pins σ H s → Sim X.K X.mg io H S → Rep X.K X.mg io H x v → Rep X.K X.mg io H y u → RelV v v' → RelV u u' → al x y →
  wpAny (model X.prog X.w) A (eqBool v' u') (fun r s' => r = true ∧ LoopS X pins σ io H S s') X.xe s
theorem turnS {al : W → W → Prop} {n : Nat} (h : AlOk X S n al) {A : Around} (sb : Sub X (n + 1) A) {pins : List (Addr × Obj)} {io0 : List Addr} {H0 : Hp} (x0 : Ex io0 H0 io H) {s : Shared} (I : Inv X pins σ H s) (sm : Sim X.K X.mg io H S) {l m : List W} {xs ys : List V} {its its2 : List Value} (ai : alikeI al l m) (r1 : Reps X.K X.mg io H l xs) (r2 : Reps X.K X.mg io H m ys) (r : Vals xs its) (q : Vals ys its2)
    (i : Nat) (h1 : i < its.toArray.size) (h2 : i < its2.toArray.size) :
    wpAny (model X.prog X.w) A.in1 (eqBool its.toArray[i] its2.toArray[i]) (fun r s2 => r = true ∧ LoopS X pins σ io0 H0 S s2) X.xe s := by
  have g1 : its[i]? = some its.toArray[i] := by
    have h1' : i < its.length := by simpa using h1
    rw [List.getElem?_eq_getElem h1'] <;> simp
  have g2 : its2[i]? = some its2.toArray[i] := by
    have h2' : i < its2.length := by simpa using h2
    rw [List.getElem?_eq_getElem h2'] <;> simp
  have k1 : i < l.length := by rw [r1.length, r.length]; simpa using h1
  have k2 : i < m.length := by rw [r2.length, q.length]; simpa using h2
  obtain ⟨a, e1, ra⟩ := r1.get (List.getElem?_eq_getElem k1)
  obtain ⟨b, e2, rb⟩ := r2.get (List.getElem?_eq_getElem k2)
  obtain ⟨a', f1, va⟩ := r.get e1
  obtain ⟨b', f2, vb⟩ := q.get e2
  rw [g1] at f1
  rw [g2] at f2
  rw [Option.some.inj f1, Option.some.inj f2]
  refine wpAny_mono (h A.in1 pins s σ io H _ _ a b a' b' sb.in1 I sm ra rb va vb (ai.2 i _ _ (List.getElem?_eq_getElem k1) (List.getElem?_eq_getElem k2))) (fun r s2 z => ?_) fun _ _ e => e
  obtain ⟨hr, io2, H2, I2, x2, sm2⟩ := z
  exact ⟨hr, io2, H2, I2, x0.trans x2, sm2⟩
/-- two tuples, two lists: == is True, != is False -/
theorem rc_alike {al : W → W → Prop} {n : Nat} (h : AlOk X S n al) {A : Around} (sb : Sub X (n + 1) A) {pins : List (Addr × Obj)} {s : Shared} (I : Inv X pins σ H s) (sm : Sim X.K X.mg io H S) (rx : Rep X.K X.mg io H x v) (ry : Rep X.K X.mg io H y u) {v' u' : Value} (hv : RelV v v') (hu : RelV u u') (ht : alikeT S al x y) :
    wpAny (model X.prog X.w) A (richCompare .Eq v' u') (fun r s' => r = .bool true ∧ LoopS X pins σ io H S s') X.xe s ∧ wpAny (model X.prog X.w) A (richCompare .NotEq v' u') (fun r s' => r = .bool false ∧ LoopS X pins σ io H S s') X.xe s := by
  rcases ht with ⟨l, m, rfl, rfl, ai⟩ | ⟨na, nb, l, m, rfl, rfl, la, lb, ai⟩
  · cases rx with
    | tup ta r1 =>
      cases ry with
      | tup tb r2 =>
        cases hv
        cases hu
        obtain ⟨its, r, e, z⟩ := I.tuple ta
        obtain ⟨its2, q, e2, z2⟩ := I.tuple tb
        have hsz : its.toArray.size = its2.toArray.size := by rw [List.size_toArray, List.size_toArray, ← r.length, ← q.length, ← r1.length, ← r2.length]; exact ai.1
        have turn : ∀ i (h1 : i < its.toArray.size) (h2 : i < its2.toArray.size) (s' : Shared), LoopS X pins σ io H S s' → wpAny (model X.prog X.w) A.in1 (eqBool its.toArray[i] its2.toArray[i]) (fun r s2 => r = true ∧ LoopS X pins σ io H S s2) X.xe s' := fun i h1 h2 s' ⟨io1, H1, I1, x1, sm1⟩ => turnS h sb x1 I1 sm1 ai (r1.mono sm x1) (r2.mono sm x1) r q i h1 h2
        exact ⟨GQ.rc_tupG hsz sb.room.units0 (fun _ s' => LoopS X pins σ io H S s') e e2 turn (fun s' q => ⟨rfl, q⟩) ⟨io, H, I, Ex.refl _ _, sm⟩,
          Vn0.rc_tup_ne hsz sb.room.units0 (fun _ s' => LoopS X pins σ io H S s') e e2 turn (fun s' q => ⟨rfl, q⟩) ⟨io, H, I, Ex.refl _ _, sm⟩⟩
  · cases rx with
    | ref ha =>
      cases ry with
      | ref hb =>
        cases hv
        cases hu
        have hl : GQ.ListI X.prog X.w A X.xe _ _ l.length (fun _ s' => LoopS X pins σ io H S s') := fun i s' q => by
          obtain ⟨io1, H1, I1, x1, sm1⟩ := q
          obtain ⟨xs, hx, r1⟩ := sm1.lst (x1.get ha) (lstAt_of la)
          obtain ⟨ys, hy, r2⟩ := sm1.lst (x1.get hb) (lstAt_of lb)
          obtain ⟨z, its, k, r, e⟩ := I1.hok _ _ hx
          obtain ⟨z2, its2, k2, q2, e2⟩ := I1.hok _ _ hy
          exact ⟨its.toArray, its2.toArray, k, k2, e, e2, by rw [List.size_toArray, ← r.length, ← r1.length], by rw [List.size_toArray, ← q2.length, ← r2.length, ai.1], fun h1 h2 => turnS h sb x1 I1 sm1 ai r1 r2 r q2 i h1 h2⟩
        exact ⟨GQ.rc_listG (N := l.length) sb.room.units0 (fun _ s' => LoopS X pins σ io H S s') hl (fun s' q => ⟨rfl, q⟩) ⟨io, H, I, Ex.refl _ _, sm⟩,
          Vn0.rc_list_ne (N := l.length) sb.room.units0 (fun _ s' => LoopS X pins σ io H S s') hl (fun s' q => ⟨rfl, q⟩) ⟨io, H, I, Ex.refl _ _, sm⟩⟩
/-- from a rich comparison of two references to == inside a list or tuple -/
theorem eqB_of {al : Prop} {A : Around} {pins : List (Addr × Obj)} {s : Shared} (I : Inv X pins σ H s) (sm : Sim X.K X.mg io H S) {a b : Addr} (h : wpAny (model X.prog X.w) A (richCompare .Eq (.ref a) (.ref b)) (fun r s' => r = .bool true ∧ LoopS X pins σ io H S s') X.xe s) :
    wpAny (model X.prog X.w) A (eqBool (.ref a) (.ref b)) (fun r s' => r = true ∧ LoopS X pins σ io H S s') X.xe s := by
  by_cases hab : a = b
  · subst hab
    exact SeqAt.EqAt.same (A := A) (s := s) (.ref a) X.prog X.w X.xe _ ⟨rfl, io, H, I, Ex.refl _ _, sm⟩
  · refine GQ.eqBool_refG hab (wpAny_mono h (fun r s' q => ?_) fun _ _ x => x)
    obtain ⟨hr', q⟩ := q
    exact ⟨true, hr', rfl, q⟩
theorem same_flat (rx : Rep X.K X.mg io H x v) (ry : Rep X.K X.mg io H y u) (h : sameW x y = true) : flatV v = true ∧ flatV u = true ∧ eqV v u = true := by
  cases rx <;> cases ry <;> first | (cases h; done) | skip
  · exact ⟨rfl, rfl, rfl⟩
  · rename_i a b
    have h : (a == b) = true := h
    rw [eq_of_beq h]
    exact ⟨rfl, rfl, by cases b <;> rfl⟩
  · rename_i a b
    have h : decide (a = b) = true := h
    rw [of_decide_eq_true h]
    exact ⟨rfl, rfl, by show decide _ = true; simp⟩
  · rename_i a b
    have h : decide (a = b) = true := h
    rw [of_decide_eq_true h]
    exact ⟨rfl, rfl, by show decide _ = true; simp⟩
theorem alike_ok {cs : List Str} (hc : ∀ c ∈ cs, ∃ C fa, OwnC X D lv c C fa) (tk : Takes X Wx) (fw : Flat Wx) : ∀ k, AlOk X S (lv + k) (alikeW D.fe cs S k)
  | 0 => fun A pins s σ io H x y v u v' u' sb I sm rx ry hv hu h => by
    rcases h with h | ⟨rfl, n, rfl⟩ | ⟨c, a, b, fs, gs, hcs, rfl, rfl, ea, eb, hf⟩
    · obtain ⟨f1, f2, e⟩ := same_flat rx ry h
      have q := eqAt_V (A := A) (s := s) hv hu f1 f2
      rw [e] at q
      exact q X.prog X.w X.xe _ ⟨rfl, io, H, I, Ex.refl _ _, sm⟩
    · cases rx with
      | ref ha =>
        cases ry with
        | ref hb =>
          rw [ha] at hb
          cases hb
          cases hv
          cases hu
          exact SeqAt.EqAt.same (A := A) (s := s) _ X.prog X.w X.xe _ ⟨rfl, io, H, I, Ex.refl _ _, sm⟩
    · obtain ⟨C, fa, oc⟩ := hc c hcs
      have rx' := rx
      have ry' := ry
      have hv' := hv
      have hu' := hu
      cases rx with
      | ref ha =>
        cases ry with
        | ref hb =>
          obtain ⟨C1, dx, f1, h1, h2, _⟩ := sm.ins ha ea
          obtain ⟨C2, dy, f2, h3, h4, _⟩ := sm.ins hb eb
          rw [oc.mg] at h2 h4
          cases h2
          cases h4
          have r := own_eq (Wx := Wx) (Q := fun z H' => z = .bl true ∧ ∃ io', Ex io H io' H' ∧ Sim X.K X.mg io' H' S) oc tk fw (sb.mono (by omega)) I sm rx' ry' hv' hu' rfl h1 (.inl ⟨_, _, _, rfl, h3⟩) (by
            rw [hf]
            exact fun io' z H' x' s' rz => ⟨by cases rz; rfl, io', x', s'⟩)
          cases hv
          cases hu
          refine eqB_of (al := True) I sm (wpAny_mono r (fun w s' q => ?_) fun _ _ e => e)
          obtain ⟨z, H', I', rz, ez, io', x', s''⟩ := q
          subst ez
          cases rz
          exact ⟨rfl, io', H', I', x', s''⟩
  | k + 1 => fun A pins s σ io H x y v u v' u' sb I sm rx ry hv hu h => by
    rcases h with h | h
    · exact alike_ok hc tk fw k A pins s σ io H x y v u v' u' (sb.mono (by omega)) I sm rx ry hv hu h
    · have r := (rc_alike (alike_ok hc tk fw k) (n := lv + k) sb I sm rx ry hv hu h).1
      rcases h with ⟨l, m, rfl, rfl, ai⟩ | ⟨na, nb, l, m, rfl, rfl, la, lb, ai⟩
      · cases rx with
        | tup ta r1 =>
          cases ry with
          | tup tb r2 =>
            cases hv
            cases hu
            exact eqB_of (al := True) I sm r
      · cases rx with
        | ref ha =>
          cases ry with
          | ref hb =>
            cases hv
            cases hu
            exact eqB_of (al := True) I sm r
end
end Vm
namespace Vm
open PySem L2
section
variable {X : Cx} {D : Wd} {Wx : WX} {lv : Nat} {io : List Addr} {H : Hp} {S : Vs} {σ : L2.St} {x y : W} {v u : V}
theorem po_flat {α β : Type} {R : List Addr → Hp → α → β → Prop} {K : Fg} {mg : Mg} {o : Out α} {Q : β → Hp → Prop} (fw : Flat Wx) {σ σ' : L2.St} (p : Po K mg Wx R o io H σ Q) : Po K mg Wx R o io H σ' Q := by
  cases o with
  | ok a S' => exact p
  | exc y S' => exact fun io' H' cls d x s q => fw _ _ _ _ _ (p io' H' cls d x s q)
  | err => exact p
def ngOp : Bool → CmpOp
  | true => .NotEq
  | false => .Eq
def rCeq (X : Cx) (D : Wd) (Wx : WX) (ng : Bool) (cs : List Str) : R2 := fun v u H Q => ∃ io S σ0 x y, Sim X.K X.mg io H S ∧ Rep X.K X.mg io H x v ∧ Rep X.K X.mg io H y u ∧ Po X.K X.mg Wx (Rep X.K X.mg) (eqoV D.fe ng cs x y S) io H σ0 Q
theorem ins_of {cs : List Str} {c : Str} (h : ownC cs x y S = some c) : c ∈ cs ∧ (∃ n fs, x = .ref n ∧ S[n]? = some (.ins c fs)) ∧ ((∃ m gs, y = .ref m ∧ S[m]? = some (.ins c gs)) ∨ ∃ t, tyV y S = some t) := by
  have ins : ∀ {z : W} {c : Str}, insOf S z = some c → ∃ n fs, z = .ref n ∧ S[n]? = some (.ins c fs) := fun {z c} h => by
    unfold insOf at h
    split at h
    · split at h
      · cases h; exact ⟨_, _, rfl, by assumption⟩
      · cases h
    · cases h
  unfold ownC at h
  split at h
  · rename_i c' e
    split at h
    · rename_i hb
      cases h
      rw [Bool.and_eq_true, Bool.or_eq_true] at hb
      refine ⟨by simpa using hb.1, ins e, ?_⟩
      rcases hb.2 with k | k
      · exact .inl (ins (of_decide_eq_true k))
      · exact .inr (Option.isSome_iff_exists.mp k)
    · cases h
  · cases h
theorem op_ceq {cs : List Str} (ng : Bool) (hc : ∀ c ∈ cs, ∃ C fa, OwnC X D lv c C fa) (tk : Takes X Wx) (fw : Flat Wx) (hr : Room (lv + 4) X.A) (hu : X.A.units + 64 < cLine) : OpR X (compareOp (ngOp ng)) (rCeq X D Wx ng cs) := by
  intro pins s σ H v u v' u' Q I rv ru hq
  obtain ⟨io, S, σ0, x, y, sm, rx, ry, p⟩ := hq
  have p := po_flat fw (σ' := σ) p
  have sb : Sub X (lv + 4) X.A := ⟨hr, rfl⟩
  unfold eqoV at p
  split at p
  · rename_i b e
    cases ng with
    | false =>
      obtain ⟨R, o, vo⟩ := cmp_rule (Wx := Wx) hu .eq
      exact o pins s σ H v u v' u' Q I rv ru (vo io H S σ x y v u Q sm rx ry (by
        show Po _ _ _ _ (match eqD S x y with | some b => Out.ok (W.bl b) S | none => .err) _ _ _ _
        rw [e]
        cases b <;> exact p))
    | true =>
      obtain ⟨R, o, vo⟩ := cmp_rule (Wx := Wx) hu .ne
      exact o pins s σ H v u v' u' Q I rv ru (vo io H S σ x y v u Q sm rx ry (by
        show Po _ _ _ _ (match eqD S x y with | some b => Out.ok (W.bl (!b)) S | none => .err) _ _ _ _
        rw [e]
        cases b <;> exact p))
  · split at p
    · rename_i c ho
      obtain ⟨hcs, ⟨n, fs, rfl, e1⟩, hy⟩ := ins_of ho
      obtain ⟨C, fa, oc⟩ := hc c hcs
      have rx' := rx
      cases rx with
      | @ref _ a ha =>
        obtain ⟨C1, dx, f1, h1, h2, _⟩ := sm.ins ha e1
        rw [oc.mg] at h2
        cases h2
        have ty : TyOk X.K C u H := by
          rcases hy with ⟨m, gs, rfl, e2⟩ | ⟨t, ht⟩
          · cases ry with
            | @ref _ b hb =>
              obtain ⟨C2, dy, f2, h3, h4, _⟩ := sm.ins hb e2
              rw [oc.mg] at h4
              cases h4
              exact .inl ⟨b, dy, f2, rfl, h3⟩
          · exact .inr ⟨t, tyV_ok sm ry ht⟩
        have key : ∀ {Q' : VK}, (∀ (b : Bool) io' H' S', Ex io H io' H' → Sim X.K X.mg io' H' S' → D.fe c "__eq__" [W.ref n, y] S = .ok (.bl b) S' → Q' (.bl b) H') → Po X.K X.mg Wx (Rep X.K X.mg) (D.fe c "__eq__" [W.ref n, y] S) io H σ Q' := fun {Q'} hk => by
          cases hf : D.fe c "__eq__" [W.ref n, y] S with
          | ok w S' =>
            rw [hf] at p
            intro io' z H' x' s' rz
            cases w <;> first | exact p.elim | (cases rz; exact hk _ io' H' S' x' s' hf)
          | exc z S' => rw [hf] at p; exact p
          | err => rw [hf] at p; exact p.elim
        cases ng with
        | false =>
          exact own_eq oc tk fw (sb.mono (by omega)) I sm rx' ry rv ru rfl h1 ty (key fun b io' H' S' x' s' hf => by
            rw [hf] at p
            cases b <;> exact p io' _ H' x' s' (.bl _))
        | true =>
          exact own_ne oc tk fw (sb.mono (by omega)) I sm rx' ry rv ru rfl h1 ty (key fun b io' H' S' x' s' hf => ⟨b, rfl, by
            rw [hf] at p
            cases b <;> exact p io' _ H' x' s' (.bl _)⟩)
    · split at p
      · rename_i ht
        obtain ⟨r1, r2⟩ := rc_alike (alike_ok hc tk fw 3) (n := lv + 3) sb I sm rx ry rv ru ht
        cases ng with
        | false =>
          refine wpAny_mono r1 (fun w s' q => ?_) fun _ _ e => e
          obtain ⟨e, io', H', I', x', s''⟩ := q
          subst e
          exact ⟨.bl true, H', I', rfl, p io' _ H' x' s'' (.bl _)⟩
        | true =>
          refine wpAny_mono r2 (fun w s' q => ?_) fun _ _ e => e
          obtain ⟨e, io', H', I', x', s''⟩ := q
          subst e
          exact ⟨.bl false, H', I', rfl, p io' _ H' x' s'' (.bl _)⟩
      · exact p.elim
theorem ceq_ok {cs : List Str} {ng : Bool} : VOk X.K X.mg Wx (eqoV D.fe ng cs) (rCeq X D Wx ng cs) := fun io H S σ x y v u Q s rx ry p => ⟨io, S, σ, x, y, s, rx, ry, p⟩
theorem ptv_ceq_aux : True := trivial
theorem eqoV_bl {ng : Bool} {cs : List Str} {s s' : Vs} {x y w : W} (h : eqoV D.fe ng cs x y s = .ok w s') : ∃ b, w = .bl b := by
  unfold eqoV at h
  split at h
  · cases h; exact ⟨_, rfl⟩
  · split at h
    · obtain ⟨a, s1, _, e⟩ := bind_get h
      split at e
      · cases e; exact ⟨_, rfl⟩
      · cases e
    · split at h
      · cases h; exact ⟨_, rfl⟩
      · cases h
variable {a b : Expr} {ia ib : IE} {pos : Pos}
theorem pv_ceq {cs : List Str} {ng : Bool} (hc : ∀ c ∈ cs, ∃ C fa, OwnC X D lv c C fa) (tk : Takes X Wx) (fw : Flat Wx) (hr : Room (lv + 4) X.A) (hu : X.A.units + 64 < cLine) (hs : notSet b = true) (ha : PV X D Wx a ia) (hb : PV X D Wx b ib) : PV X D Wx (.Compare a [ngOp ng] [b] pos) (.ceq ng cs ia ib) :=
  peMono (pe_cmpR (op_ceq ng hc tk fw hr hu) ha hb (marks_of hs)) fun σ H Q h => two ceq_ok (by
    obtain ⟨io, S, r, s, e, p⟩ := h
    rw [den] at p
    exact ⟨io, S, r, s, e, p⟩)
end
end Vm
namespace Vm
open PySem L2
section
variable {X : Cx} {D : Wd} {Wx : WX} {lv : Nat} {io : List Addr} {H : Hp} {S : Vs} {σ : L2.St} {x y : W} {v u : V} {a b : Expr} {ia ib : IE} {pos : Pos}
theorem ptv_ceq {cs : List Str} {ng : Bool} (hc : ∀ c ∈ cs, ∃ C fa, OwnC X D lv c C fa) (tk : Takes X Wx) (fw : Flat Wx) (hr : Room (lv + 4) X.A) (hu : X.A.units + 64 < cLine) (hs : notSet b = true) (ha : PV X D Wx a ia) (hb : PV X D Wx b ib) : PTV X D Wx (.Compare a [ngOp ng] [b] pos) (.ceq ng cs ia ib) :=
  ptMono (pt_cmpR (op_ceq ng hc tk fw hr hu) ha hb (marks_of hs)) fun σ H Q h => by
    obtain ⟨io, S, r, s, e, p⟩ := h
    have p := test_bl (fun w s' h => by
      rw [den] at h
      obtain ⟨x, s1, _, h⟩ := bind_get h
      obtain ⟨y, s2, _, h⟩ := bind_get h
      exact eqoV_bl h) p
    rw [den] at p
    exact two ceq_ok ⟨io, S, r, s, e, p⟩
/-! ### isinstance with a class of the text's own -/
/-- what is known of the classes cs, asked for the class c -/
structure IsoC (X : Cx) (cs : List Str) (c : Str) (C : Addr) : Prop where
  mg : X.mg c = some (.ref C)
  ha : PySem.W.findIn X.K (.ref C) "__class__" = some (some (.builtin "object.__class__"))
  hn : PySem.W.specialIn X.K (.builtin "object.__class__") "__get__" = some (some (.builtin "getset_descriptor.__get__"))
  tk : PySem.W.takesIn X.K (.builtin "object.__class__") = some true
  ty : ∀ t : String, (t = "NoneType" ∨ t = "bool" ∨ t = "int" ∨ t = "str" ∨ t = "tuple" ∨ t = "list" ∨ t = "dict") → PySem.W.kitOne X.K (.type t) (.ref C) = some false
  pr : ∀ d ∈ cs, ∀ E, X.mg d = some (.ref E) → PySem.W.kitOne X.K (.ref E) (.ref C) = some (decide (d = c))
theorem mro_po {K : Fg} {C : Addr} (hp : PySem.W.plainOver K C = true) : PySem.W.mroIn K C (.type "object") = some true := by
  obtain ⟨cd, hc, ho⟩ := PySem.W.any_some hp
  have ne : cd.mro.isEmpty = false := by cases q : cd.mro with | nil => rw [q] at ho; cases ho | cons _ _ => rfl
  unfold PySem.W.mroIn
  rw [hc, Option.bind_some, if_neg (by rw [ne]; decide), PySem.W.only_has ho]
theorem pv_iso {cs : List Str} {t : Str} {p p2 : Pos} (hc : ∀ c ∈ cs, ∃ C, IsoC X cs c C) (ht : t ∈ cs) (hg : Gl X "isinstance") (hm : X.mg "isinstance" = none) (hg2 : Gl X t) (hd2 : (t == ("__debug__" : Str)) = false) (hs : notStar a = true) (ha : PV X D Wx a ia) :
    PV X D Wx (.Call (.Name "isinstance" p) [a, .Name t p2] [] pos) (.iso ia t cs) := by
  obtain ⟨C, ic⟩ := hc t ht
  refine peMono (pe_callB call_isi hg hm PyProof.Rows.boot_isinstance (pa_cons ha (pa_cons (pe_glob (v := .ref C) hg2 ic.mg rfl hd2) pa_nil) (star_of hs)) (by decide) (by decide) (star_of hs)) fun σ H Q ⟨io, S, r, s, e, p⟩ => ?_
  rw [den] at p
  refine ⟨io, S, r, s, e, p.bind fun x S1 io1 v H1 _ x1 s1 r1 p1 => ?_⟩
  unfold isoV at p1
  split at p1
  · rename_i c ei
    split at p1
    · rename_i hcs
      have hcs : c ∈ cs := by simpa using hcs
      unfold insOf at ei
      split at ei
      · rename_i n
        split at ei
        · rename_i c' fs e1
          cases ei
          cases r1 with
          | ref ha1 =>
            obtain ⟨E, dx, f1, h1, h2, h3, _⟩ := s1.ins ha1 e1
            obtain ⟨E', ie⟩ := hc c hcs
            rw [ie.mg] at h2
            cases h2
            exact ⟨_, .ref C, .ref E, .ref C, _, rfl, .own C, .base (.ins h1 h3 ie.ha ie.hn ie.tk (mro_po h3.po)), ic.pr c hcs E ie.mg, p1.now s1 (.bl _)⟩
        · cases ei
      · cases ei
    · exact p1.elim
  · split at p1
    · rename_i h
      obtain ⟨tn, e1⟩ := Option.isSome_iff_exists.mp h
      obtain ⟨h1, h2⟩ := tyV_ok s1 r1 e1
      exact ⟨_, .ref C, .type tn, .ref C, _, rfl, .own C, h1, ic.ty tn h2, p1.now s1 (.bl _)⟩
    · exact p1.elim
end
end Vm
set_option Elab.async false
set_option linter.all false
set_option maxRecDepth 100000
set_option maxHeartbeats 2000000
/-! zip of two, each a list or a tuple. -/
namespace Vz0
open PySem PySem.Spec PyProof.Rows L2
def SqB (t : Bool) (h : Heap) (l : Addr) (xs : Array Value) : Prop := match t with
  | true => h.IsTuple l xs
  | false => h.IsList l xs
def ItB (t : Bool) (h : Heap) (i l : Addr) (k : Nat) : Prop := match t with
  | true => h.IsTupleIter i l k
  | false => h.IsListIter i l k
def nmB (t : Bool) : String := match t with
  | true => "tuple_iterator"
  | false => "list_iterator"
theorem SqB.but {t : Bool} {h h' : Heap} {a b : Addr} {xs : Array Value} (x : SqB t h a xs) (e : Heap.ExtBut b h h') (n : a ≠ b) : SqB t h' a xs := by
  cases t
  · exact Heap.IsList.extBut x e n
  · exact Heap.IsTuple.extBut x e n
theorem ItB.but {t : Bool} {h h' : Heap} {a b l : Addr} {k : Nat} (x : ItB t h a l k) (e : Heap.ExtBut b h h') (n : a ≠ b) : ItB t h' a l k := by
  cases t
  · exact Heap.IsListIter.extBut x e n
  · exact Heap.IsTupleIter.extBut x e n
theorem ItB.at' {t : Bool} {h h' : Heap} {a l : Addr} {k : Nat} (x : ItB t h a l k) (e : ∀ o, h.get? a = some o → h'.get? a = some o) : ItB t h' a l k := by
  cases t
  · exact Heap.IsListIter.at x e
  · exact Heap.IsTupleIter.at x e
theorem ItB.lt {t : Bool} {h : Heap} {a l : Addr} {k : Nat} (x : ItB t h a l k) : a < h.objs.size := by
  cases t <;> (obtain ⟨_, e, _⟩ := x; exact Heap.lt_size e)
theorem ItB.obj {t : Bool} {h : Heap} {a l : Addr} {k : Nat} (x : ItB t h a l k) : ∃ o vs, h.get? a = some o ∧ o.data = .fields vs := by
  cases t <;> (obtain ⟨o, e, _, d⟩ := x; exact ⟨o, _, e, d⟩)
section
variable {prog : Program} {w : World} {A : Around} {E : Value → Shared → Prop} {s : Shared}
theorem nx_item {t : Bool} {i l : Addr} {k : Nat} {xs : Array Value} {x : Value} {Q : Value → Shared → Prop} (a : ItB t s.heap i l k) (b : SqB t s.heap l xs) (hx : xs[k]? = some x)
    (q : ∀ h', ItB t h' i l (k + 1) → Heap.SameBut i s.heap h' → Q x { s with heap := h' }) : wpAny (model prog w) A (Builtin.SmallTypes.nextOf (.ref i)) Q E s := by
  cases t
  · exact PySem.wpAny_nextOf_list_item a b hx q
  · exact RZ.nextOf_tuple_item a b hx q
theorem nx_end {t : Bool} {i l : Addr} {k : Nat} {xs : Array Value} {Q : Value → Shared → Prop} (hh : A.handled = none) (a : ItB t s.heap i l k) (b : SqB t s.heap l xs) (hx : xs[k]? = none)
    (q : ∀ h' e, Heap.ExtBut i s.heap h' → (∃ o, h'.get? e = some o ∧ o.cls = .type "StopIteration") → E (.ref e) { s with heap := h' }) : wpAny (model prog w) A (Builtin.SmallTypes.nextOf (.ref i)) Q E s := by
  cases t
  · exact PySem.wpAny_nextOf_list_end hh a b hx q
  · exact RZ.nextOf_tuple_end hh a b hx q
theorem zb_item {t u : Bool} {z TI TO i1 i2 l1 l2 : Addr} {k1 k2 : Nat} {xs ys : Array Value} {x y a b : Value} {Q : Value → Shared → Prop} (d : ZipApart z TI TO i1 i2 l1 l2) (z0 : IsZip s.heap z TI TO .none) (p0 : IsPair s.heap TI (.ref i1) (.ref i2)) (r0 : IsPair s.heap TO a b)
    (a1 : ItB t s.heap i1 l1 k1) (a2 : ItB u s.heap i2 l2 k2) (b1 : SqB t s.heap l1 xs) (b2 : SqB u s.heap l2 ys) (hx : xs[k1]? = some x) (hy : ys[k2]? = some y)
    (q : ∀ h', IsZip h' z TI TO (rawInt s.heap.objs.size) → IsPair h' TO x y → ItB t h' i1 l1 (k1 + 1) → ItB u h' i2 l2 (k2 + 1) → IsPair h' s.heap.objs.size x y → h'.objs.size = s.heap.objs.size + 1 → (∀ c o, c ≠ z → c ≠ TO → c ≠ i1 → c ≠ i2 → s.heap.get? c = some o → h'.get? c = some o) → Q (.ref s.heap.objs.size) { s with heap := h' }) :
    wpAny (model prog w) A (Builtin.«zip.__next__» ⟨[.ref z], []⟩) (fun fin s' => ∃ v, fin = .done (.ret v) ∧ Q v s') E s := by
  show wpAny _ _ (field (.ref z) 2 >>= _) _ _ _; refine wpAny_bind (wpAny_field z0 rfl (x := .bool false) rfl ?_)
  show wpAny _ _ (field (.ref z) 3 >>= _) _ _ _; refine wpAny_bind (wpAny_field z0 rfl (x := .ref TI) rfl ?_); refine wpAny_bind (wpAny_seqItems p0 rfl ?_)
  show wpAny _ _ (Builtin.SmallTypes.ownedTupleIsFree (.ref z) >>= _) _ _ _; refine wpAny_bind ?_; unfold Builtin.SmallTypes.ownedTupleIsFree
  refine wpAny_bind (wpAny_field z0 rfl (x := .none) rfl (wpAny_pure ?_)); simp only [if_true]; refine wpAny_bind (wpAny_rule ?_)
  refine wpAny_bind (wpAny_field z0 rfl (x := .ref TO) rfl ?_); refine wpAny_bind (wpAny_setField_rec z0 (by simp) fun h₁ z1 e1 => ?_)
  replace z1 : IsZip h₁ z TI TO .ellipsis := z1
  refine wpAny_bind ?_; simp only [List.zipIdx_cons, List.zipIdx_nil, List.forIn_cons, List.forIn_nil]; refine wpAny_bind (wpAny_bind (wpAny_onRaise ?_))
  show wpAny _ _ (Builtin.SmallTypes.nextOf (.ref i1) >>= _) _ _ _; refine wpAny_bind (nx_item (a1.but e1.extBut d.i1z) (b1.but e1.extBut d.l1z) hx fun h₂ c1 e2 => wpAny_pure ?_)
  have r2 : IsPair h₂ TO a b := e2.extBut _ _ d.TOi1 (e1.extBut _ _ d.TOz r0)
  refine wpAny_bind (wpAny_seqItems r2 rfl ?_); refine wpAny_bind (wpAny_updateSeq_pair r2 fun h₃ r3 e3 => ?_)
  replace r3 : IsPair h₃ TO x b := r3
  refine wpAny_bind (wpAny_letGo (wpAny_pure ?_)); refine wpAny_bind (wpAny_bind (wpAny_onRaise ?_))
  show wpAny _ _ (Builtin.SmallTypes.nextOf (.ref i2) >>= _) _ _ _; refine wpAny_bind (nx_item (((a2.but e1.extBut d.i2z).but e2.extBut d.i12.symm).but e3.extBut d.TOi2.symm) (((b2.but e1.extBut d.l2z).but e2.extBut d.l2i1).but e3.extBut d.l2TO) hy fun h₄ c2 e4 => wpAny_pure ?_)
  have r4 : IsPair h₄ TO x b := e4.extBut _ _ d.TOi2 r3
  refine wpAny_bind (wpAny_seqItems r4 rfl ?_); refine wpAny_bind (wpAny_updateSeq_pair r4 fun h₅ r5 e5 => ?_)
  replace r5 : IsPair h₅ TO x y := r5
  refine wpAny_bind (wpAny_letGo (wpAny_pure (wpAny_pure ?_))); refine wpAny_bind (wpAny_seqItems r5 rfl ?_); refine wpAny_bind (wpAny_newTuple ?_)
  have sz : h₅.objs.size = s.heap.objs.size := by rw [e5.1, e4.1, e3.1, e2.1, e1.1]
  have z5 : IsZip h₅ z TI TO .ellipsis := e5.extBut _ _ d.TOz.symm (e4.extBut _ _ d.i2z.symm (e3.extBut _ _ d.TOz.symm (e2.extBut _ _ d.i1z.symm z1)))
  have k5 : ∀ c o, c ≠ z → c ≠ TO → c ≠ i1 → c ≠ i2 → s.heap.get? c = some o → h₅.get? c = some o := fun c o n1 n2 n3 n4 e => e5.extBut _ _ n2 (e4.extBut _ _ n4 (e3.extBut _ _ n2 (e2.extBut _ _ n3 (e1.extBut _ _ n1 e))))
  have f1 : ItB t h₅ i1 l1 (k1 + 1) := ((c1.but e3.extBut d.TOi1.symm).but e4.extBut d.i12).but e5.extBut d.TOi1.symm
  have f2 : ItB u h₅ i2 l2 (k2 + 1) := c2.but e5.extBut d.TOi2.symm
  have zl : z < h₅.objs.size := Heap.lt_size z5
  show wpAny _ _ (Builtin.SmallTypes.ownedTupleHandOut (.ref z) (.ref h₅.objs.size) >>= _) _ _ _; refine wpAny_bind ?_; unfold Builtin.SmallTypes.ownedTupleHandOut
  have z6 : IsZip (h₅.push { cls := .type "tuple", data := .seq #[x, y] }) z TI TO .ellipsis := Heap.get?_push_of_some _ z5
  refine wpAny_bind (wpAny_setField_rec z6 (by simp) fun h₇ z7 e7 => ?_)
  replace z7 : IsZip h₇ z TI TO (rawInt h₅.objs.size) := z7
  refine wpAny_setField_rec z7 (by simp) fun h₈ z8 e8 => ?_
  replace z8 : IsZip h₈ z TI TO (rawInt h₅.objs.size) := z8
  have up : ∀ c o, c ≠ z → h₅.get? c = some o → h₈.get? c = some o := fun c o n1 e => e8.extBut _ _ n1 (e7.extBut _ _ n1 (Heap.get?_push_of_some _ e))
  have t8 : IsPair h₈ h₅.objs.size x y := e8.extBut _ _ (Nat.ne_of_gt zl) (e7.extBut _ _ (Nat.ne_of_gt zl) (Heap.get?_push_size _ rfl))
  have s8 : h₈.objs.size = h₅.objs.size + 1 := by rw [e8.1, e7.1, Heap.size_push]
  rw [sz] at z8 t8 s8
  refine wpAny_pure ⟨_, rfl, ?_⟩; show Q (.ref h₅.objs.size) _; rw [sz]
  exact q h₈ z8 (up _ _ d.TOz r5) (f1.at' fun o e => up _ o d.i1z e) (f2.at' fun o e => up _ o d.i2z e) t8 s8 fun c o n1 n2 n3 n4 e => up c o n1 (k5 c o n1 n2 n3 n4 e)
theorem zb_end {t u : Bool} {z TI TO i1 i2 l1 l2 : Addr} {k1 k2 : Nat} {xs ys : Array Value} {a b : Value} {Q : Fin → Shared → Prop} (hh : A.handled = none) (d : ZipApart z TI TO i1 i2 l1 l2) (z0 : IsZip s.heap z TI TO .none) (p0 : IsPair s.heap TI (.ref i1) (.ref i2)) (r0 : IsPair s.heap TO a b)
    (a1 : ItB t s.heap i1 l1 k1) (a2 : ItB u s.heap i2 l2 k2) (b1 : SqB t s.heap l1 xs) (b2 : SqB u s.heap l2 ys) (ho : xs[k1]? = none ∨ ys[k2]? = none)
    (q : ∀ h' e, (∀ c o, c ≠ z → c ≠ TO → c ≠ i1 → c ≠ i2 → s.heap.get? c = some o → h'.get? c = some o) → (∃ o, h'.get? e = some o ∧ o.cls = .type "StopIteration") → E (.ref e) { s with heap := h' }) : wpAny (model prog w) A (Builtin.«zip.__next__» ⟨[.ref z], []⟩) Q E s := by
  show wpAny _ _ (field (.ref z) 2 >>= _) _ _ _; refine wpAny_bind (wpAny_field z0 rfl (x := .bool false) rfl ?_)
  show wpAny _ _ (field (.ref z) 3 >>= _) _ _ _; refine wpAny_bind (wpAny_field z0 rfl (x := .ref TI) rfl ?_); refine wpAny_bind (wpAny_seqItems p0 rfl ?_)
  show wpAny _ _ (Builtin.SmallTypes.ownedTupleIsFree (.ref z) >>= _) _ _ _; refine wpAny_bind ?_; unfold Builtin.SmallTypes.ownedTupleIsFree
  refine wpAny_bind (wpAny_field z0 rfl (x := .none) rfl (wpAny_pure ?_)); simp only [if_true]; refine wpAny_bind (wpAny_rule ?_)
  refine wpAny_bind (wpAny_field z0 rfl (x := .ref TO) rfl ?_); refine wpAny_bind (wpAny_setField_rec z0 (by simp) fun h₁ z1 e1 => ?_)
  replace z1 : IsZip h₁ z TI TO .ellipsis := z1
  refine wpAny_bind ?_; simp only [List.zipIdx_cons, List.zipIdx_nil, List.forIn_cons, List.forIn_nil]; refine wpAny_bind (wpAny_bind (wpAny_onRaise ?_))
  show wpAny _ _ (Builtin.SmallTypes.nextOf (.ref i1) >>= _) _ _ _
  cases hx : xs[k1]? with
  | none =>
    refine wpAny_bind (nx_end hh (a1.but e1.extBut d.i1z) (b1.but e1.extBut d.l1z) hx fun h₂ e e2 he => ?_)
    obtain ⟨oe, g1, g2⟩ := he
    have z2 : IsZip h₂ z TI TO .ellipsis := e2 _ _ d.i1z.symm z1
    have ne : e ≠ z := fun v => by subst v; rw [z2] at g1; cases g1; simp at g2
    exact wpAny_setField_rec z2 (by simp) fun h₃ _ e3 => q h₃ e (fun c o n1 _ n3 _ v => e3.extBut _ _ n1 (e2 _ _ n3 (e1.extBut _ _ n1 v))) ⟨oe, e3.extBut _ _ ne g1, g2⟩
  | some x =>
    have hy : ys[k2]? = none := ho.elim (fun v => by rw [hx] at v; cases v) id
    refine wpAny_bind (nx_item (a1.but e1.extBut d.i1z) (b1.but e1.extBut d.l1z) hx fun h₂ c1 e2 => wpAny_pure ?_)
    have r2 : IsPair h₂ TO a b := e2.extBut _ _ d.TOi1 (e1.extBut _ _ d.TOz r0)
    refine wpAny_bind (wpAny_seqItems r2 rfl ?_); refine wpAny_bind (wpAny_updateSeq_pair r2 fun h₃ r3 e3 => ?_); refine wpAny_bind (wpAny_letGo (wpAny_pure ?_)); refine wpAny_bind (wpAny_bind (wpAny_onRaise ?_))
    show wpAny _ _ (Builtin.SmallTypes.nextOf (.ref i2) >>= _) _ _ _; refine wpAny_bind (nx_end hh (((a2.but e1.extBut d.i2z).but e2.extBut d.i12.symm).but e3.extBut d.TOi2.symm) (((b2.but e1.extBut d.l2z).but e2.extBut d.l2i1).but e3.extBut d.l2TO) hy fun h₄ e e4 he => ?_)
    obtain ⟨oe, g1, g2⟩ := he
    have z4 : IsZip h₄ z TI TO .ellipsis := e4 _ _ d.i2z.symm (e3.extBut _ _ d.TOz.symm (e2.extBut _ _ d.i1z.symm z1))
    have ne : e ≠ z := fun v => by subst v; rw [z4] at g1; cases g1; simp at g2
    exact wpAny_setField_rec z4 (by simp) fun h₅ _ e5 => q h₅ e (fun c o n1 n2 n3 n4 v => e5.extBut _ _ n1 (e4 _ _ n4 (e3.extBut _ _ n2 (e2.extBut _ _ n3 (e1.extBut _ _ n1 v))))) ⟨oe, e5.extBut _ _ ne g1, g2⟩
theorem nz_item {t u : Bool} {z TI TO i1 i2 l1 l2 : Addr} {k1 k2 : Nat} {xs ys : Array Value} {x y a b : Value} {Q : Option Value → Shared → Prop} (d : ZipApart z TI TO i1 i2 l1 l2) (z0 : IsZip s.heap z TI TO .none) (p0 : IsPair s.heap TI (.ref i1) (.ref i2)) (r0 : IsPair s.heap TO a b)
    (a1 : ItB t s.heap i1 l1 k1) (a2 : ItB u s.heap i2 l2 k2) (b1 : SqB t s.heap l1 xs) (b2 : SqB u s.heap l2 ys) (hx : xs[k1]? = some x) (hy : ys[k2]? = some y)
    (q : ∀ h', IsZip h' z TI TO (rawInt s.heap.objs.size) → IsPair h' TO x y → ItB t h' i1 l1 (k1 + 1) → ItB u h' i2 l2 (k2 + 1) → IsPair h' s.heap.objs.size x y → h'.objs.size = s.heap.objs.size + 1 → (∀ c o, c ≠ z → c ≠ TO → c ≠ i1 → c ≠ i2 → s.heap.get? c = some o → h'.get? c = some o) → Q (some (.ref s.heap.objs.size)) { s with heap := h' }) :
    wpAny (model prog w) A (pyNext (.ref z)) Q E s := by
  have ty : s.TypeIs (.ref z) "zip" := ⟨_, z0, rfl⟩
  unfold pyNext; exact wpAny_bind (wpAny_attempt (wpAny_callSpecial?_slot (name := Str.ofString "__next__") ty F.slot_zip_next (wpAny_call_entry F.slot_zip_next ty F.entry_zip_next (zb_item d z0 p0 r0 a1 a2 b1 b2 hx hy fun h' v1 v2 v3 v4 v5 v6 v7 => wpAny_pure (q h' v1 v2 v3 v4 v5 v6 v7)) (F.args_zip_next_1 _))))
theorem nz_end {t u : Bool} {z TI TO i1 i2 l1 l2 : Addr} {k1 k2 : Nat} {xs ys : Array Value} {a b : Value} {Q : Option Value → Shared → Prop} (hh : A.handled = none) (d : ZipApart z TI TO i1 i2 l1 l2) (z0 : IsZip s.heap z TI TO .none) (p0 : IsPair s.heap TI (.ref i1) (.ref i2)) (r0 : IsPair s.heap TO a b)
    (a1 : ItB t s.heap i1 l1 k1) (a2 : ItB u s.heap i2 l2 k2) (b1 : SqB t s.heap l1 xs) (b2 : SqB u s.heap l2 ys) (ho : xs[k1]? = none ∨ ys[k2]? = none)
    (q : ∀ h', (∀ c o, c ≠ z → c ≠ TO → c ≠ i1 → c ≠ i2 → s.heap.get? c = some o → h'.get? c = some o) → Q none { s with heap := h' }) : wpAny (model prog w) A (pyNext (.ref z)) Q E s := by
  have ty : s.TypeIs (.ref z) "zip" := ⟨_, z0, rfl⟩
  unfold pyNext; refine wpAny_bind (wpAny_attempt (wpAny_callSpecial?_slot (name := Str.ofString "__next__") ty F.slot_zip_next (wpAny_call_entry F.slot_zip_next ty F.entry_zip_next (zb_end hh d z0 p0 r0 a1 a2 b1 b2 ho fun h' e hk he => ?_) (F.args_zip_next_1 _))))
  obtain ⟨o, g1, g2⟩ := he
  exact wpAny_bind (wpAny_isInstance (T := "StopIteration") (b := true) ⟨o, g1, g2⟩ isSubtype_stop (wpAny_pure (q _ hk)))
end
/-! the call -/
abbrev g1 (t : Bool) (h : Heap) (a : Addr) : Heap := h.push { cls := .type (nmB t), data := .fields #[.ref a, .int 0 0] }
abbrev g2 (t u : Bool) (h : Heap) (a b : Addr) : Heap := (g1 t h a).push { cls := .type (nmB u), data := .fields #[.ref b, .int 0 0] }
abbrev g3 (t u : Bool) (h : Heap) (a b : Addr) : Heap := (g2 t u h a b).push { cls := .type "tuple", data := .seq #[.ref h.objs.size, .ref (g1 t h a).objs.size] }
abbrev g4 (t u : Bool) (h : Heap) (a b : Addr) : Heap := (g3 t u h a b).push { cls := .type "tuple", data := .seq #[.none, .none] }
abbrev g5 (t u : Bool) (h : Heap) (a b : Addr) : Heap := (g4 t u h a b).push { cls := .type "zip", data := .fields #[.none, .bool false, .bool false, .ref (g2 t u h a b).objs.size, .ref (g3 t u h a b).objs.size] }
theorem meets_z (t u : Bool) (a b : Addr) (xs ys : Array Value) :
    Meets (Builtin.«zip.__new__» ⟨[.type "zip", .ref a, .ref b], []⟩) (fun _ R s => SqB t s.heap a xs ∧ SqB u s.heap b ys ∧ R (.ok (.ret (.ref (g4 t u s.heap a b).objs.size))) { s with heap := g5 t u s.heap a b }) :=
  .of_wp fun prog w A R s h => by
    obtain ⟨hp, gn, dd, tk, os⟩ := s; obtain ⟨ha, hb, h⟩ := h
    have hsub := sub_zip
    cases t <;> cases u
    · have m1 : Heap.IsList (Shared.heap ⟨hp, gn, dd, tk, os⟩) a xs := ha
      have m2 : Heap.IsList (Shared.heap ⟨hp.push { cls := .type "list_iterator", data := .fields #[.ref a, .int 0 0] }, gn, dd, tk, os⟩) b ys := Heap.IsList.push hb _
      wp_walk using wpAny_pyIter_list m1, wpAny_pyIter_list m2
      exact ⟨_, rfl, h⟩
    · have m1 : Heap.IsList (Shared.heap ⟨hp, gn, dd, tk, os⟩) a xs := ha
      have m2 : Heap.IsTuple (Shared.heap ⟨hp.push { cls := .type "list_iterator", data := .fields #[.ref a, .int 0 0] }, gn, dd, tk, os⟩) b ys := Heap.IsTuple.push hb _
      wp_walk using wpAny_pyIter_list m1, wpAny_pyIter_tuple m2
      exact ⟨_, rfl, h⟩
    · have m1 : Heap.IsTuple (Shared.heap ⟨hp, gn, dd, tk, os⟩) a xs := ha
      have m2 : Heap.IsList (Shared.heap ⟨hp.push { cls := .type "tuple_iterator", data := .fields #[.ref a, .int 0 0] }, gn, dd, tk, os⟩) b ys := Heap.IsList.push hb _
      wp_walk using wpAny_pyIter_tuple m1, wpAny_pyIter_list m2
      exact ⟨_, rfl, h⟩
    · have m1 : Heap.IsTuple (Shared.heap ⟨hp, gn, dd, tk, os⟩) a xs := ha
      have m2 : Heap.IsTuple (Shared.heap ⟨hp.push { cls := .type "tuple_iterator", data := .fields #[.ref a, .int 0 0] }, gn, dd, tk, os⟩) b ys := Heap.IsTuple.push hb _
      wp_walk using wpAny_pyIter_tuple m1, wpAny_pyIter_tuple m2
      exact ⟨_, rfl, h⟩
theorem it0 {t : Bool} {h : Heap} {i a : Addr} (e : h.get? i = some { cls := .type (nmB t), data := .fields #[.ref a, .int 0 0] }) : ItB t h i a 0 := by
  cases t <;> exact ⟨_, e, rfl, rfl⟩
section
variable {prog : Program} {w : World} {A : Around} {E : Value → Shared → Prop} {s : Shared}
theorem call_z {t u : Bool} {a b : Addr} {xs ys : Array Value} {Q : Value → Shared → Prop} (ha : SqB t s.heap a xs) (hb : SqB u s.heap b ys)
    (q : ∀ h', IsZip h' (s.heap.objs.size + 4) (s.heap.objs.size + 2) (s.heap.objs.size + 3) .none → IsPair h' (s.heap.objs.size + 2) (.ref s.heap.objs.size) (.ref (s.heap.objs.size + 1)) → IsPair h' (s.heap.objs.size + 3) .none .none →
      ItB t h' s.heap.objs.size a 0 → ItB u h' (s.heap.objs.size + 1) b 0 → (∀ c o, s.heap.get? c = some o → h'.get? c = some o) → Q (.ref (s.heap.objs.size + 4)) { s with heap := h' }) : wpAny (model prog w) A (call (.type "zip") [.ref a, .ref b]) Q E s := by
  refine callType_new F.called_zip (by decide) (F.typeCall_zip_2 _ _) (F.newCall_zip_2 _ _) (fun obj => F.args_object_init_3 obj _ _) F.entry_zip_new (meets_z t u a b xs ys) ⟨ha, hb, ?_⟩
  have n1 : (g1 t s.heap a).objs.size = s.heap.objs.size + 1 := Heap.size_push ..
  have n2 : (g2 t u s.heap a b).objs.size = s.heap.objs.size + 2 := by rw [Heap.size_push, n1]
  have n3 : (g3 t u s.heap a b).objs.size = s.heap.objs.size + 3 := by rw [Heap.size_push, n2]
  have n4 : (g4 t u s.heap a b).objs.size = s.heap.objs.size + 4 := by rw [Heap.size_push, n3]
  have e5 : (g5 t u s.heap a b).get? (g4 t u s.heap a b).objs.size = some _ := Heap.get?_push_size _ rfl
  have e4 : (g5 t u s.heap a b).get? (g3 t u s.heap a b).objs.size = some _ := Heap.get?_push_of_some _ (Heap.get?_push_size _ rfl)
  have e3 : (g5 t u s.heap a b).get? (g2 t u s.heap a b).objs.size = some _ := Heap.get?_push_of_some _ (Heap.get?_push_of_some _ (Heap.get?_push_size _ rfl))
  have e2 : (g5 t u s.heap a b).get? (g1 t s.heap a).objs.size = some { cls := .type (nmB u), data := .fields #[.ref b, .int 0 0] } := Heap.get?_push_of_some _ (Heap.get?_push_of_some _ (Heap.get?_push_of_some _ (Heap.get?_push_size _ rfl)))
  have e1 : (g5 t u s.heap a b).get? s.heap.objs.size = some { cls := .type (nmB t), data := .fields #[.ref a, .int 0 0] } := Heap.get?_push_of_some _ (Heap.get?_push_of_some _ (Heap.get?_push_of_some _ (Heap.get?_push_of_some _ (Heap.get?_push_size _ rfl))))
  show _ ∧ _
  rw [n2, n3, n4] at e5; rw [n1, n2] at e3; rw [n3] at e4; rw [n1] at e2; rw [n4]
  exact ⟨⟨_, e5, rfl⟩, q _ e5 e3 e4 (it0 e1) (it0 e2) fun c o x => Heap.get?_push_of_some _ (Heap.get?_push_of_some _ (Heap.get?_push_of_some _ (Heap.get?_push_of_some _ (Heap.get?_push_of_some _ x))))⟩
end
/-! the layer's rule -/
def SqX (t : Bool) (K : PySem.W.Frag) (H : Hp) (a : Addr) (xs : List V) : Prop := match t with
  | true => SqT K H a xs
  | false => SqL K H a xs
theorem SqX.get {X : Cx} {t : Bool} {pins : List (Addr × Obj)} {σ : L2.St} {H : Hp} {s : Shared} {a : Addr} {xs : List V} (I : Inv X pins σ H s) (h : SqX t X.K H a xs) : ∃ its, Vals xs its ∧ SqB t s.heap a its.toArray ∧ a < s.heap.objs.size := by
  cases t
  · obtain ⟨its, rv, p, _⟩ := I.list h
    exact ⟨its, rv, p.isList, p.lt⟩
  · obtain ⟨its, rv, p, _⟩ := I.tuple h
    obtain ⟨o, ho, _⟩ := id p
    exact ⟨its, rv, p, Heap.lt_size ho⟩
theorem SqX.inj {X : Cx} {t : Bool} {pins : List (Addr × Obj)} {σ : L2.St} {H : Hp} {s : Shared} {a : Addr} {xs ys : List V} (I : Inv X pins σ H s) (h : SqX t X.K H a xs) (k : SqX t X.K H a ys) : xs = ys := by
  cases t
  · exact I.list_inj h k
  · exact I.tuple_inj h k
def ItzB (t u : Bool) (K : PySem.W.Frag) (a b : Addr) : It :=
  ⟨fun i H => ∃ (xs ys : List V) (x y : V), SqX t K H a xs ∧ SqX u K H b ys ∧ xs[i]? = some x ∧ ys[i]? = some y,
    fun i H v H' => ∃ T x y, v = .ref T ∧ H T = none ∧ H' = upd H T (.tup [x, y]) ∧ (∀ xs, SqX t K H a xs → xs[i]? = some x) ∧ ∀ ys, SqX u K H b ys → ys[i]? = some y,
    fun i H => ∃ xs ys : List V, SqX t K H a xs ∧ SqX u K H b ys ∧ (xs.length ≤ i ∨ ys.length ≤ i)⟩
theorem five {α : Type} {c z a b d e : α} (h : c ∈ [z, a, b, d, e]) : c = z ∨ c = a ∨ c = b ∨ c = d ∨ c = e := by simpa using h
theorem turn_zB {t u : Bool} {P : Program} {w : World} {K : PySem.W.Frag} {elts : List Expr} {kk : Nat} {tp : Pos} {a b z TI TO i1 i2 : Addr} (d : ZipApart z TI TO i1 i2 a b) :
    Turn P w K (.Tuple elts kk tp) (ItzB t u K a b) [z, TI, TO, i1, i2] z (fun i h => IsZip h z TI TO .none ∧ IsPair h TI (.ref i1) (.ref i2) ∧ (∃ x y, IsPair h TO x y) ∧ ItB t h i1 a i ∧ ItB u h i2 b i) where
  mem := List.mem_cons_self ..
  obj := fun i h st c hc => by
    obtain ⟨m1, m2, ⟨x, y, m3⟩, m4, m5⟩ := st
    obtain ⟨o4, _, r4, d4⟩ := m4.obj
    obtain ⟨o5, _, r5, d5⟩ := m5.obj
    rcases five hc with rfl | rfl | rfl | rfl | rfl
    · exact ⟨_, m1, fun v q => nomatch q⟩
    · exact ⟨_, m2, fun v q => nomatch q⟩
    · exact ⟨_, m3, fun v q => nomatch q⟩
    · exact ⟨o4, r4, fun v q => by rw [d4] at q; cases q⟩
    · exact ⟨o5, r5, fun v q => by rw [d5] at q; cases q⟩
  keep := fun i h h' st k => by
    obtain ⟨m1, m2, ⟨x, y, m3⟩, m4, m5⟩ := st
    exact ⟨k z (by simp) _ m1, k TI (by simp) _ m2, ⟨x, y, k TO (by simp) _ m3⟩, m4.at' fun o q => k i1 (by simp) o q, m5.at' fun o q => k i2 (by simp) o q⟩
  item := by
    intro X hP hw hK hc i pins s σ H E I hf st hg
    subst hP hw hK
    obtain ⟨m1, m2, ⟨x0, y0, m3⟩, m4, m5⟩ := st
    obtain ⟨xs, ys, x, y, qx, qy, hx, hy⟩ := hg
    obtain ⟨its, rv, p, _⟩ := qx.get I
    obtain ⟨its2, rv2, p2, _⟩ := qy.get I
    obtain ⟨v, hv, r1⟩ := rv.get hx
    obtain ⟨v2, hv2, r2⟩ := rv2.get hy
    have zl : z < s.heap.objs.size := Heap.lt_size m1
    refine nz_item d m1 m2 m3 m4 m5 p p2 (x := v) (y := v2) (by simpa using hv) (by simpa using hv2) fun h' z' o' f1 f2 hT _ hk => ?_
    refine ⟨_, rfl, wpAny_letOwnedTupleGo_zip (s := { s with heap := h' }) z' fun h'' z'' sb => ?_⟩
    have T2 : h''.get? s.heap.objs.size = some { cls := .type "tuple", data := .seq #[v, v2] } := (sb.2 _ (Nat.ne_of_gt zl)).trans hT
    have new : ObjOk X.prog X.w (upd H s.heap.objs.size (.tup [x, y])) h'' s.heap.objs.size (.tup [x, y]) := ⟨by show 2 ≤ sizeLine; decide, [v, v2], .cons r1 (.cons r2 .nil), ⟨_, T2, rfl, _, rfl⟩⟩
    have J : Inv X pins σ (upd H s.heap.objs.size (.tup [x, y])) { s with heap := h'' } :=
      I.turnedNew (t' := s.toks) (ch := [z, TI, TO, i1, i2]) (fun c o hb q => (sb.2 c (fun w' => hb (by simp [w']))).trans (hk c o (fun w' => hb (by simp [w'])) (fun w' => hb (by simp [w'])) (fun w' => hb (by simp [w'])) (fun w' => hb (by simp [w'])) q)) hf (Nat.le_refl _) new
    refine ⟨.ref s.heap.objs.size, _, J, rfl, ⟨_, x, y, rfl, I.hok.fresh (Nat.le_refl _), rfl, fun l hl => by rw [SqX.inj I hl qx]; exact hx, fun l hl => by rw [SqX.inj I hl qy]; exact hy⟩, ⟨z'', ?_, ⟨v, v2, ?_⟩, ?_, ?_⟩, fun c hm => ?_⟩
    · exact (sb.2 _ d.TIz).trans (hk _ _ d.TIz d.TITO d.TIi1 d.TIi2 m2)
    · exact (sb.2 _ d.TOz).trans o'
    · exact f1.at' fun o q => (sb.2 _ d.i1z).trans q
    · exact f2.at' fun o q => (sb.2 _ d.i2z).trans q
    · have lt : c < s.heap.objs.size := by
        rcases five hm with rfl | rfl | rfl | rfl | rfl
        · exact zl
        · exact Heap.lt_size m2
        · exact Heap.lt_size m3
        · exact m4.lt
        · exact m5.lt
      rw [upd_ne (Nat.ne_of_lt lt)]; exact (hf c hm).1
  done := by
    intro X hP hw hK hc i pins s σ H E I hf st hg
    subst hP hw hK
    obtain ⟨m1, m2, ⟨x0, y0, m3⟩, m4, m5⟩ := st
    obtain ⟨xs, ys, qx, qy, ho⟩ := hg
    obtain ⟨its, rv, p, _⟩ := qx.get I
    obtain ⟨its2, rv2, p2, _⟩ := qy.get I
    have e1 := rv.length
    have e2 := rv2.length
    have he : its.toArray[i]? = none ∨ its2.toArray[i]? = none := ho.elim (fun q => .inl (by simp; omega)) fun q => .inr (by simp; omega)
    exact nz_end (I.ok.hd hc) d m1 m2 m3 m4 m5 p p2 he fun h' hk => ⟨rfl, I.turnedL (t' := s.toks) (ch := [z, TI, TO, i1, i2]) (fun c o hb q => hk c o (fun w' => hb (by simp [w'])) (fun w' => hb (by simp [w'])) (fun w' => hb (by simp [w'])) (fun w' => hb (by simp [w'])) q) hf⟩
  self := fun A i s Q E st h => wpAny_pyIter_zip st.1 h
def iZB (t u : Bool) (K : PySem.W.Frag) (ta : TA) : TI := fun σ H R => ta σ H fun vs H1 => ∃ a b xs ys, vs = [.ref a, .ref b] ∧ SqX t K H1 a xs ∧ SqX u K H1 b ys ∧ R (ItzB t u K a b) H1
theorem pi_zB {t u : Bool} {X : Cx} {e e2 : Expr} {ta : TA} {p pos tp : Pos} {elts : List Expr} {kk : Nat} (hg : Gl X "zip") (hm : X.mg "zip" = none) (ha : PA X [e, e2] ta)
    (hs : starEach [e, e2] X.env = (false, eval e X.env) :: starEach [e2] X.env) (hpl : (backTo pos (starEach [e2] X.env)).any (·.1) = false) : PI X (.Tuple elts kk tp) (.Call (.Name "zip" p) [e, e2] [] pos) (iZB t u X.K ta) := by
  refine ⟨fun pins s σ H R I h => Call_ (ld_blt I hg hm PyProof.Rows.boot_zip (PyProof.Rows.callWith_type1 (thn (ha.run pos pins s σ H _ I h) fun us s1 ⟨vs, H1, J, r1, q1⟩ => ?_) hs hpl))⟩
  obtain ⟨a, b, xs, ys, ex, qx, qy, q⟩ := q1
  subst ex
  cases r1 with
  | cons r rr =>
    cases rr with
    | cons r' rr =>
      cases rr; cases r; cases r'
      have fresh : ∀ c, c ∈ [s1.heap.objs.size + 4, s1.heap.objs.size + 2, s1.heap.objs.size + 3, s1.heap.objs.size, s1.heap.objs.size + 1] → FpOk X pins H1 c := fun c hm2 => by
        have le : s1.heap.objs.size ≤ c := by rcases five hm2 with v | v | v | v | v <;> omega
        exact J.fpOk le (J.hok.fresh le)
      obtain ⟨its, rv, p1, l1⟩ := qx.get J
      obtain ⟨its2, rv2, p2, l2⟩ := qy.get J
      refine call_z p1 p2 fun h' z' o1 o2 f1 f2 hk => wpAny_pyIter_zip z' ?_
      have J2 : Inv X pins σ H1 { s1 with heap := h' } := J.kept (t' := s1.toks) hk
      exact ⟨s1.heap.objs.size + 4, _, _, _, H1, rfl, J2, turn_zB (PySem.W.ktu_apart s1.heap.objs.size a b l1 l2), ⟨z', o1, ⟨_, _, o2⟩, f1, f2⟩, fresh, q⟩
end Vz0
set_option Elab.async false
set_option linter.all false
set_option maxRecDepth 100000
set_option maxHeartbeats 2000000
/-! zip, as the interpreter has it. -/
namespace Vm
open PySem L2
section
variable {X : Cx} {D : Wd} {Wx : WX} {io jo : List Addr} {H J : Hp} {S S' : Vs} {a b : Expr} {ia ib : IE} {pos : Pos}
theorem seqW_ref {x : W} {v : V} {t : Bool} {l : List W} {c : List (Nat × List W)} (r : Rep X.K X.mg io H x v) (h : seqW x S = some (t, l, c)) : ∃ q, v = .ref q := by
  unfold seqW at h
  split at h
  · cases r with
    | @tup l q xs h r1 => exact ⟨q, rfl⟩
  · cases r with
    | @ref n q h => exact ⟨q, rfl⟩
  · cases h
theorem seqW_later {x : W} {q : Addr} {t : Bool} {l : List W} {c : List (Nat × List W)} (s : Sim X.K X.mg io H S) (r : Rep X.K X.mg io H x (.ref q)) (h : seqW x S = some (t, l, c)) (xx : Ex io H jo J) (sj : Sim X.K X.mg jo J S') (ok : ∀ p ∈ c, lstAt S' p.1 = some p.2) :
    ∃ xs, Vz0.SqX t X.K J q xs ∧ Reps X.K X.mg jo J l xs := by
  unfold seqW at h
  split at h
  · cases h
    cases r with
    | @tup l q xs h r1 => exact ⟨xs, sqT_mono s xx h, Reps.mono s xx r1⟩
  · rename_i n
    split at h
    · rename_i l' e
      cases h
      cases r with
      | @ref n q h =>
        obtain ⟨xs, hx, r1⟩ := sj.lst (xx.get h) (lstAt_of (ok (n, l) (List.mem_cons_self ..)))
        exact ⟨xs, SqL.of hx, r1⟩
    · cases h
  · cases h
theorem seqW_ok {x : W} {t : Bool} {l : List W} {c : List (Nat × List W)} (h : seqW x S = some (t, l, c)) : ∀ p ∈ c, lstAt S p.1 = some p.2 := by
  unfold seqW at h
  split at h
  · cases h
    intro p hp
    cases hp
  · split at h
    · cases h
      intro p hp
      rw [List.mem_singleton.mp hp]
      assumption
    · cases h
  · cases h
theorem it_zip {x y : W} {q1 q2 : Addr} {t u : Bool} {l m : List W} {c d : List (Nat × List W)} (s : Sim X.K X.mg io H S) (r1 : Rep X.K X.mg io H x (.ref q1)) (r2 : Rep X.K X.mg io H y (.ref q2)) (h1 : seqW x S = some (t, l, c)) (h2 : seqW y S = some (u, m, d)) :
    ItOk X.K X.mg (Vz0.ItzB t u X.K q1 q2) ⟨zipL l m, c ++ d⟩ io H := fun i jo J S' xx sj ok => by
  obtain ⟨xs, a1, b1⟩ := seqW_later s r1 h1 xx sj fun p hp => ok p (List.mem_append_left _ hp)
  obtain ⟨ys, a2, b2⟩ := seqW_later s r2 h2 xx sj fun p hp => ok p (List.mem_append_right _ hp)
  have zl : (zipL l m).length = min l.length m.length := by unfold zipL; rw [List.length_map, List.length_zip]
  have l1 := b1.length
  have l2 := b2.length
  refine ⟨fun hi => ?_, fun hi => ⟨xs, ys, a1, a2, ?_⟩⟩
  · have hi : i < (zipL l m).length := hi
    rw [zl] at hi
    obtain ⟨w1, y1, e1, e2, e3⟩ := reps_at b1 (show i < l.length by omega)
    obtain ⟨w2, y2, k1, k2, k3⟩ := reps_at b2 (show i < m.length by omega)
    refine ⟨⟨xs, ys, y1, y2, a1, a2, e2, k2⟩, fun z H' ⟨T, z1, z2, ez, hT, eH, f1, f2⟩ => ?_⟩
    subst ez eH
    have g1 := f1 xs a1
    have g2 := f2 ys a2
    rw [e2] at g1
    rw [k2] at g2
    cases g1
    cases g2
    refine ⟨Ex.new hT, sj.new hT, .tup [w1, w2], ?_, .tup (SqT.of upd_same) (.cons (e3.mono sj (Ex.new hT)) (.cons (k3.mono sj (Ex.new hT)) .nil))⟩
    show (zipL l m)[i]? = _
    unfold zipL
    rw [List.getElem?_map, (List.getElem?_zip_eq_some (z := (w1, w2))).mpr ⟨e1, k1⟩]
    rfl
  · have hi : i = (zipL l m).length := hi
    rw [zl] at hi
    omega
theorem piEx {α : Type} {tg e : Expr} {f : α → TI} (h : ∀ z, PI X tg e (f z)) : PI X tg e (fun σ H R => ∃ z, f z σ H R) := ⟨fun pins s σ H R I ⟨z, q⟩ => (h z).run pins s σ H R I q⟩
theorem piv_zip {es : List Expr} {kk : Nat} {tp p : Pos} (hg : Gl X "zip") (hm : X.mg "zip" = none) (sa : notStar a = true) (sb : notStar b = true) (ha : PV X D Wx a ia) (hb : PV X D Wx b ib) : PIV X D Wx (.Tuple es kk tp) (.Call (.Name "zip" p) [a, b] [] pos) (.zip ia ib) :=
  piMono (piEx (α := Bool × Bool) fun tu => Vz0.pi_zB (t := tu.1) (u := tu.2) hg hm (pa_cons ha (pa_cons hb pa_nil (star_of sb)) (star_of sa)) (star_of sa) (by unfold backTo; rw [List.any_map, one_star sb]; rfl)) fun σ H R ⟨io, S, r, s, e, p⟩ => by
    rw [denI] at p
    cases hx : den D ia r S with
    | ok x S1 =>
      rw [hx, bind_ok] at p
      cases hy : den D ib r S1 with
      | ok y S2 =>
        rw [hy, bind_ok] at p
        unfold zipV at p
        cases hp : seqW x S2 with
        | none => rw [hp] at p; exact p.elim
        | some z1 =>
          cases hq : seqW y S2 with
          | none => rw [hp, hq] at p; exact p.elim
          | some z2 =>
            rw [hp, hq] at p
            obtain ⟨t, l, c⟩ := z1
            obtain ⟨u, m, d⟩ := z2
            refine ⟨(t, u), io, S, r, s, e, ?_⟩
            rw [hx]
            intro io' v H' x' s' r'
            refine ⟨io', S1, r, s', e.mono s x', ?_⟩
            rw [hy]
            intro io2 v2 H2 x2 s2 r2
            have r1 := r'.mono s' x2
            obtain ⟨q1, rfl⟩ := seqW_ref r1 hp
            obtain ⟨q2, rfl⟩ := seqW_ref r2 hq
            obtain ⟨xs, a1, _⟩ := seqW_later s2 r1 hp (Ex.refl _ _) s2 (seqW_ok hp)
            obtain ⟨ys, a2, _⟩ := seqW_later s2 r2 hq (Ex.refl _ _) s2 (seqW_ok hq)
            exact ⟨q1, q2, xs, ys, rfl, a1, a2, p io2 H2 (x'.trans x2) s2 _ (it_zip s2 r1 r2 hp hq)⟩
      | exc z S2 =>
        rw [hy] at p
        refine ⟨(true, true), io, S, r, s, e, ?_⟩
        rw [hx]
        intro io' v H' x' s' r'
        refine ⟨io', S1, r, s', e.mono s x', ?_⟩
        rw [hy]
        exact fun io2 H2 cls d x2 s2 q => p io2 H2 cls d (x'.trans x2) s2 q
      | err => rw [hy] at p; exact p.elim
    | exc z S1 =>
      rw [hx] at p
      refine ⟨(true, true), io, S, r, s, e, ?_⟩
      rw [hx]
      exact p
    | err => rw [hx] at p; exact p.elim
end
end Vm
set_option Elab.async false
set_option linter.all false
set_option maxRecDepth 100000
set_option maxHeartbeats 1000000
/-! Targets, comprehensions. -/
namespace Vm
open PySem L2
/-! ### targets -/
/-- the slots but those of P -/
structure RepQ (K : Fg) (mg : Mg) (io : List Addr) (H : Hp) (P : Nat → Prop) (r : Rho) (σ : L2.St) : Prop where
  len : r.length = σ.length
  at_ : ∀ (i : Nat) (w : W), ¬ P i → r[i]? = some (some w) → ∃ v, σ[i]? = some (some v) ∧ Rep K mg io H w v
def tgSlots : Tg → List Nat
  | .nm i => [i]
  | .tp l => l
def setAll (r : Rho) (l : List Nat) (ws : List W) : Rho := (l.zip ws).foldl (fun r p => r.set p.1 (some p.2)) r
def setAllV (σ : L2.St) (l : List Nat) (vs : List V) : L2.St := (l.zip vs).foldl (fun r p => r.set p.1 (some p.2)) σ
section
variable {K : Fg} {mg : Mg} {io : List Addr} {H : Hp} {r : Rho} {σ : L2.St}
theorem RepQ.set {P : Nat → Prop} (e : RepQ K mg io H P r σ) {w : W} {v : V} (h : Rep K mg io H w v) (i : Nat) : RepQ K mg io H (fun j => P j ∧ j ≠ i) (r.set i (some w)) (σ.set i (some v)) := by
  refine ⟨by rw [List.length_set, List.length_set, e.len], fun j u hp hj => ?_⟩
  by_cases hij : i = j
  · subst hij
    by_cases hl : i < r.length
    · rw [List.getElem?_set_self hl] at hj
      cases hj
      exact ⟨v, List.getElem?_set_self (by rw [← e.len]; exact hl), h⟩
    · rw [List.getElem?_eq_none (by simpa using hl)] at hj
      cases hj
  · rw [List.getElem?_set_ne hij] at hj
    obtain ⟨x, h1, h2⟩ := e.at_ j u (fun z => hp ⟨z, fun q => hij q.symm⟩) hj
    exact ⟨x, by rw [List.getElem?_set_ne hij]; exact h1, h2⟩
theorem RepQ.setAll : ∀ {l : List Nat} {ws : List W} {vs : List V} {P : Nat → Prop} {r : Rho} {σ : L2.St}, l.length = ws.length → Reps K mg io H ws vs → RepQ K mg io H P r σ → RepQ K mg io H (fun j => P j ∧ j ∉ l) (setAll r l ws) (setAllV σ l vs)
  | [], [], [], P, r, σ, hl, .nil, e => ⟨e.len, fun i w hp h => e.at_ i w (fun z => hp ⟨z, by simp⟩) h⟩
  | i :: l, w :: ws, v :: vs, P, r, σ, hl, .cons q t, e => by
    have := RepQ.setAll (l := l) (by simpa using hl) t (e.set q i)
    exact ⟨this.len, fun j u hp h => this.at_ j u (fun ⟨⟨h1, h2⟩, h3⟩ => hp ⟨h1, by simp only [List.mem_cons, not_or]; exact ⟨h2, h3⟩⟩) h⟩
theorem RepE.q (e : RepE K mg io H r σ) : RepQ K mg io H (fun _ => False) r σ := ⟨e.len, fun i w _ h => e.at_ i w h⟩
theorem RepQ.e {P : Nat → Prop} (e : RepQ K mg io H P r σ) (h : ∀ i, ¬ P i) : RepE K mg io H r σ := ⟨e.len, fun i w q => e.at_ i w (h i) q⟩
theorem wipe_get (σ : L2.St) (j : Nat) : ∀ vs : List Nat, j ∉ vs → (wipe σ vs)[j]? = σ[j]?
  | [], _ => rfl
  | v :: vs, h => by
    simp only [List.mem_cons, not_or] at h
    unfold wipe
    rw [List.getElem?_set_ne (fun z => h.1 z.symm)]
    exact wipe_get σ j vs h.2
theorem wipe_in (σ : L2.St) (j : Nat) : ∀ vs : List Nat, j ∈ vs → (wipe σ vs)[j]? = if j < σ.length then some none else none
  | v :: vs, h => by
    unfold wipe
    by_cases e : v = j
    · subst e
      rw [List.getElem?_set]
      simp [wipe_length]
    · rw [List.getElem?_set_ne e]
      rcases List.mem_cons.mp h with z | z
      · exact absurd z.symm e
      · exact wipe_in σ j vs z
theorem wipe_eq {σ τ : L2.St} {vs : List Nat} (hl : σ.length = τ.length) (h : ∀ j, j ∉ vs → σ[j]? = τ[j]?) : wipe σ vs = wipe τ vs := List.ext_getElem? fun j => by
  by_cases hj : j ∈ vs
  · rw [wipe_in σ j vs hj, wipe_in τ j vs hj, hl]
  · rw [wipe_get σ j vs hj, wipe_get τ j vs hj]
    exact h j hj
theorem RepE.wiped (e : RepE K mg io H r σ) (vs : List Nat) : RepQ K mg io H (fun j => j ∈ vs) r (wipe σ vs) := ⟨by rw [wipe_length]; exact e.len, fun i w hp h => by
  obtain ⟨v, h1, h2⟩ := e.at_ i w h
  exact ⟨v, by rw [wipe_get σ i vs hp]; exact h1, h2⟩⟩
theorem setAllV_len : ∀ (l : List Nat) (vs : List V) (σ : L2.St), (setAllV σ l vs).length = σ.length
  | [], _, _ => rfl
  | _ :: _, [], _ => rfl
  | i :: l, v :: vs, σ => by
    show (setAllV (σ.set i (some v)) l vs).length = _
    rw [setAllV_len l vs, List.length_set]
theorem setAllV_out {j : Nat} : ∀ (l : List Nat) (vs : List V) (σ : L2.St), j ∉ l → (setAllV σ l vs)[j]? = σ[j]?
  | [], _, _, _ => rfl
  | _ :: _, [], _, _ => rfl
  | i :: l, v :: vs, σ, h => by
    simp only [List.mem_cons, not_or] at h
    show (setAllV (σ.set i (some v)) l vs)[j]? = _
    rw [setAllV_out l vs _ h.2, List.getElem?_set_ne (fun z => h.1 z.symm)]
end
/-- what a store at tg does: gT v σ H Q -/
def gAll : List Nat → TGs
  | [] => gNil
  | i :: l => gCons (gName i) (gAll l)
def gTg (K : Fg) : Tg → TG
  | .nm i => gName i
  | .tp l => gTup K l.length (gAll l)
theorem gAll_ok {H : Hp} {Q : L2.St → Hp → Prop} : ∀ {l : List Nat} {vs : List V} {σ : L2.St}, l.length = vs.length → Q (setAllV σ l vs) H → gAll l vs σ H Q
  | [], [], σ, _, q => ⟨rfl, q⟩
  | i :: l, v :: vs, σ, h, q => ⟨v, vs, rfl, gAll_ok (l := l) (by simpa using h) q⟩
section
variable {X : Cx} {D : Wd} {Wx : WX} {io : List Addr} {H : Hp} {S : Vs} {σ : L2.St} {x y : W} {v u : V}
/-- the store's end -/
theorem gTg_ok {tg : Tg} {r r' : Rho} {P : Nat → Prop} {Q : L2.St → Hp → Prop} (s : Sim X.K X.mg io H S) (e : RepQ X.K X.mg io H P r σ) (rx : Rep X.K X.mg io H x v) (h : setT tg x r = some r')
    (q : ∀ σ', RepQ X.K X.mg io H (fun j => P j ∧ j ∉ tgSlots tg) r' σ' → σ'.length = σ.length → (∀ j, j ∉ tgSlots tg → σ'[j]? = σ[j]?) → Q σ' H) : gTg X.K tg v σ H Q := by
  cases tg with
  | nm i =>
    cases h
    refine q _ ?_ (List.length_set ..) fun j hj => ?_
    · have := e.set rx i
      exact ⟨this.len, fun j w hp hh => this.at_ j w (fun ⟨h1, h2⟩ => hp ⟨h1, by simpa [tgSlots] using h2⟩) hh⟩
    · rw [List.getElem?_set_ne]
      intro z
      exact hj (by simp [tgSlots, z])
  | tp l =>
    cases rx with
    | @tup ws a xs h1 r1 =>
      have h : (if l.length = ws.length then some (setAll r l ws) else none) = some r' := h
      split at h
      · rename_i hl
        cases h
        refine ⟨a, xs, rfl, h1, by rw [← r1.length, hl], gAll_ok (by rw [hl, r1.length]) (q _ (RepQ.setAll hl r1 e) (setAllV_len _ _ _) fun j hj => setAllV_out _ _ _ hj)⟩
      · cases h
    | _ => cases h
/-- the target is the interpreter's tg -/
abbrev PGV (X : Cx) (e : Expr) (tg : Tg) : Prop := PG X e (gTg X.K tg)
theorem pgv_nm {i : Nat} {n : Str} {pos : Pos} (hN : X.N.Nodup) (hi : X.N[i]? = some n) (hx : Loc X.env.scope n) (hf : X.fn n = true ∨ X.env.scope.names.lookup n = some .local) : PGV X (.Name n pos) (.nm i) := pg_name hN hi hx hf
theorem assign_of {env : Env} : ∀ {es : List Expr}, noStars es = true → assignEach es env = es.map fun e => (false, assign e env)
  | [], _ => rfl
  | e :: es, h => by
    unfold noStars at h
    rw [List.all_cons, Bool.and_eq_true] at h
    have ih := assign_of (env := env) (es := es) h.2
    cases e <;> first | (cases h.1; done) | (show _ :: assignEach es env = _; rw [ih]; rfl)
theorem pgv_tp {es : List Expr} {l : List Nat} {k : Nat} {pos : Pos} (hc : X.calm = true) (hs : noStars es = true) (hl : es.length = l.length) (h : PGs X es (gAll l)) : PGV X (.Tuple es k pos) (.tp l) :=
  pg_tup hc h (by rw [assign_of hs, List.length_map, hl]) (by rw [assign_of hs]; exact List.findIdx?_eq_none_iff.mpr fun x hx => by obtain ⟨e, _, rfl⟩ := List.mem_map.mp hx; rfl)
theorem pgsv_cons {e : Expr} {es : List Expr} {i : Nat} {l : List Nat} {n : Str} {pos : Pos} (hs : noStars (.Name n pos :: es) = true) (hN : X.N.Nodup) (hi : X.N[i]? = some n) (hx : Loc X.env.scope n) (hf : X.fn n = true ∨ X.env.scope.names.lookup n = some .local) (h : PGs X es (gAll l)) : PGs X (.Name n pos :: es) (gAll (i :: l)) :=
  pgs_cons (pg_name hN hi hx hf) h (by rw [assign_of hs, assign_of (by unfold noStars at hs; rw [List.all_cons, Bool.and_eq_true] at hs; exact hs.2)]; rfl)
/-! ### comprehensions -/
/-- one turn -/
noncomputable def lcF (D : Wd) (e : IE) (tg : Tg) (c : IE) (r : Rho) (x : W) (s2 : Vs) : Out (Option W) := match setT tg x r with
  | some r' => (den D c r' s2).bind fun t s3 => (truth t s3).bind fun b s4 => if b then (den D e r' s4).bind fun y s5 => .ok (some y) s5 else .ok none s4
  | none => .err
theorem lcL_nil {ok : Vs → Prop} {f : W → Vs → Out (Option W)} {s s' : Vs} {ys : List W} (h : lcL ok f [] s = .ok ys s') : ok s ∧ ys = [] ∧ s' = s := by
  unfold lcL at h
  split at h
  · cases h; exact ⟨by assumption, rfl, rfl⟩
  · cases h
theorem lcL_cons {ok : Vs → Prop} {f : W → Vs → Out (Option W)} {x : W} {l : List W} {s s' : Vs} {ys : List W} (h : lcL ok f (x :: l) s = .ok ys s') : ok s ∧ ∃ y s1 ys', f x s = .ok y s1 ∧ lcL ok f l s1 = .ok ys' s' ∧ ys = (match y with | some y => y :: ys' | none => ys') := by
  unfold lcL at h
  split at h
  · refine ⟨by assumption, ?_⟩
    cases e : f x s with
    | ok y s1 =>
      rw [e] at h
      obtain ⟨ys', s2, e2, h⟩ := bind_get h
      cases h
      exact ⟨y, s1, ys', rfl, e2, rfl⟩
    | exc z s1 => rw [e] at h; cases h
    | err => rw [e] at h; cases h
  · cases h
theorem lcL_noexc {ok : Vs → Prop} {f : W → Vs → Out (Option W)} : ∀ {l : List W} {s s' : Vs} {z : Exn}, lcL ok f l s ≠ .exc z s'
  | [], s, s', z, h => by unfold lcL at h; split at h <;> cases h
  | x :: l, s, s', z, h => by
    unfold lcL at h
    split at h
    · split at h
      · rename_i y s1 e
        cases e2 : lcL ok f l s1 with
        | ok ys s2 => rw [e2] at h; cases h
        | exc z2 s2 => exact lcL_noexc e2
        | err => rw [e2] at h; cases h
      · cases h
    · cases h
abbrev WxF : WX := fun _ _ _ _ => False
variable {elt te ti : Expr} {ifs : List Expr} {scope : Scope} {own : List (Str × Nat)} {pos : Pos} {ie ic : IE} {tg : Tg} {it : II}
theorem po_of_ok {α β : Type} {K : Fg} {mg : Mg} {R : List Addr → Hp → α → β → Prop} {w : α} {S' : Vs} {Q : β → Hp → Prop} {Wy : WX} {o : Out α} (h : o = .ok w S') (q : ∀ io' b H', Ex io H io' H' → Sim K mg io' H' S' → R io' H' w b → Q b H') : Po K mg Wy R o io H σ Q := by
  rw [h]
  exact q
theorem lc_rd (ho : own.map (·.2) = tgSlots tg) {Q : VK} (h : tr X.K X.mg Wx (den D (.lc ie tg it ic)) σ H Q) : tLc (trI X.K X.mg Wx (denI D it)) (gTg X.K tg) (trT X.K X.mg WxF (test D ic)) (tr X.K X.mg WxF (den D ie)) (own.map (·.2)) σ H Q := by
  obtain ⟨io, S, r, s, e, p⟩ := h
  rw [den] at p
  refine ⟨io, S, r, s, e, ?_⟩
  cases hq : denI D it r S with
  | exc z S1 => rw [hq] at p; exact p
  | err => rw [hq] at p; exact p
  | ok q S1 =>
    rw [hq] at p
    intro io1 H1 x1 s1 J hJ
    have p : Po X.K X.mg Wx (Rep X.K X.mg) (if !fits q.items.length then .err else (lcL q.ok (lcF D ie tg ic r) q.items S1).bind fun ys s6 => newL ys s6) io H σ Q := p
    by_cases hf : (!fits q.items.length) = true
    · rw [if_pos hf] at p; exact p.elim
    rw [if_neg hf] at p
    have hf : fits q.items.length = true := by simpa using hf
    cases hl : lcL q.ok (lcF D ie tg ic r) q.items S1 with
    | exc z S2 => exact absurd hl lcL_noexc
    | err => rw [hl] at p; exact p.elim
    | ok ys S2 =>
      rw [hl] at p
      intro D1 hD1
      have e1 := e.mono s x1
      refine ⟨fun i m H2 => m = q.items.length - i ∧ i ≤ q.items.length ∧ ∃ io2 S3 acc accW rest, Ex io1 H1 io2 H2 ∧ Sim X.K X.mg io2 H2 S3 ∧ H2 D1 = some (.lst acc) ∧ D1 ∉ io2 ∧ Reps X.K X.mg io2 H2 accW acc ∧ accW.length ≤ i ∧ RepE X.K X.mg io2 H2 r σ ∧
        lcL q.ok (lcF D ie tg ic r) (q.items.drop i) S3 = .ok rest S2 ∧ accW ++ rest = ys, ⟨q.items.length, by simp, Nat.zero_le _, io1, S1, [], [], ys, Ex.new hD1, s1.new hD1, upd_same, s1.fresh hD1, .nil, Nat.le_refl _, e1.mono s1 (Ex.new hD1), hl, rfl⟩, ?_⟩
      rintro i m H2 ⟨rfl, hi2, io2, S3, acc, accW, rest, x2, s2, hD, nD, ra, hla, e2, hrun, hys⟩
      by_cases hlt : i < q.items.length
      · rw [List.drop_eq_getElem_cons hlt] at hrun
        obtain ⟨hok, y, S4, rest', hf1, hrun', hrest⟩ := lcL_cons hrun
        obtain ⟨hgo, hyl⟩ := (hJ i io2 H2 S3 x2 s2 hok).1 hlt
        refine .inr ⟨hgo, fun H' => ∃ m', m' = q.items.length - (i + 1) ∧ i + 1 ≤ q.items.length ∧ ∃ io2 S3 acc accW rest, Ex io1 H1 io2 H' ∧ Sim X.K X.mg io2 H' S3 ∧ H' D1 = some (.lst acc) ∧ D1 ∉ io2 ∧ Reps X.K X.mg io2 H' accW acc ∧ accW.length ≤ i + 1 ∧ RepE X.K X.mg io2 H' r σ ∧
          lcL q.ok (lcF D ie tg ic r) (q.items.drop (i + 1)) S3 = .ok rest S2 ∧ accW ++ rest = ys, fun H' ⟨m', hm, hw⟩ => ⟨m', by omega, hm, hw⟩, fun x H3 hy => ?_⟩
        obtain ⟨x3, s3, w, hw, rw3⟩ := hyl x H3 hy
        have hw' : w = q.items[i] := by rw [List.getElem?_eq_getElem hlt] at hw; exact (Option.some.inj hw).symm
        subst hw'
        unfold lcF at hf1
        cases hst : setT tg q.items[i] r with
        | none => rw [hst] at hf1; cases hf1
        | some r' =>
          rw [hst] at hf1
          obtain ⟨t, S5, ht1, hf1⟩ := bind_get hf1
          obtain ⟨b, S6, hb1, hf1⟩ := bind_get hf1
          have e3 := e2.mono s2 x3
          refine gTg_ok s3 (e3.wiped (own.map (·.2))) rw3 hst fun σ' eq' hlen hout => ⟨?_, ?_⟩
          · rw [ho]
            refine wipe_eq (by rw [hlen, wipe_length]) fun j hj => ?_
            rw [hout j hj, wipe_get _ _ _ (by rw [ho]; exact hj)]
          have eσ : RepE X.K X.mg io2 H3 r' σ' := eq'.e fun j ⟨h1, h2⟩ => h2 (by rw [← ho]; exact h1)
          refine ⟨io2, S3, r', s3, eσ, po_of_ok (w := b) (S' := S6) (by unfold test; rw [ht1]; exact hb1) fun io4 b' H4 x4 s4 hb => ?_⟩
          subst hb
          have hD4 := x4.fr D1 _ nD (x3.fr D1 _ nD hD).1
          have x14 := (x2.trans x3).trans x4
          cases b with
          | true =>
            have hf1 : ((den D ie r' S6).bind fun y s5 => .ok (some y) s5) = .ok y S4 := hf1
            obtain ⟨y', S7, hy1, hf1⟩ := bind_get hf1
            cases hf1
            refine ⟨io4, S6, r', s4, eσ.mono s3 x4, po_of_ok hy1 fun io5 v5 H5 x5 s5 r5 => ?_⟩
            have hD5 := x5.fr D1 _ hD4.2 hD4.1
            have x15 := x14.trans x5
            have ra5 := ((ra.mono s2 x3).mono s3 x4).mono s4 x5
            refine ⟨acc, hD5.1, ?_, _, rfl, hlt, io5, S4, acc ++ [v5], accW ++ [y'], rest', ?_, s5.side hD5.1 hD5.2, upd_same, hD5.2, (ra5.append (.cons r5 .nil)).keep (Kt.side hD5.1), ?_, ?_, hrun', ?_⟩
            · rw [← ra.length]
              have := fits_le hf
              omega
            · exact ⟨x15.pre, fun a o ha ho' => by
                obtain ⟨z1, z2⟩ := x15.fr a o ha ho'
                refine ⟨?_, z2⟩
                rw [upd_ne]
                exact z1
                intro z
                subst z
                rw [hD1] at ho'
                cases ho'⟩
            · rw [List.length_append]
              simp
              omega
            · have e5 := ((e3.mono s3 x4).mono s4 x5)
              exact ⟨e5.len, fun i w h => let ⟨v, h1, h2⟩ := e5.at_ i w h; ⟨v, h1, h2.keep (Kt.side hD5.1)⟩⟩
            · rw [List.append_assoc]
              rw [hrest] at hys
              exact hys
          | false =>
            cases hf1
            show ∃ m', _
            refine ⟨_, rfl, hlt, io4, _, acc, accW, rest', x14, s4, hD4.1, hD4.2, (ra.mono s2 x3).mono s3 x4, by omega, e3.mono s3 x4, hrun', ?_⟩
            rw [hrest] at hys
            exact hys
      · have hi3 : i = q.items.length := by omega
        subst hi3
        rw [List.drop_length] at hrun
        obtain ⟨hok, rfl, rfl⟩ := lcL_nil hrun
        refine .inl ⟨(hJ q.items.length io2 H2 _ x2 s2 hok).2 rfl, ?_⟩
        rw [List.append_nil] at hys
        subst hys
        have xD : Ex io H (io2 ++ [D1]) H2 := ⟨by obtain ⟨l, hl⟩ := (x1.trans x2).pre; exact ⟨l ++ [D1], by rw [hl, List.append_assoc]⟩, fun a o ha ho' => by
          obtain ⟨z1, z2⟩ := (x1.trans x2).fr a o ha ho'
          refine ⟨z1, fun z => ?_⟩
          rcases List.mem_append.mp z with z | z
          · exact z2 z
          · rw [List.mem_singleton.mp z] at ho'
            obtain ⟨z3, z4⟩ := x1.fr D1 o (by rw [← List.mem_singleton.mp z]; exact ha) ho'
            rw [hD1] at z3
            cases z3⟩
        have sD := s2.adopt2 (o := .lst accW) hD nD (.lst ra)
        exact p _ _ _ xD sD (.ref (by rw [← s2.len]; simp))
theorem pv_lc (hc : X.calm = true) (hN : X.N.Nodup) (hi : PIV X D Wx te ti it) (ok : BlkOk X.N X.env.scope scope own) (ho : own.map (·.2) = tgSlots tg)
    (hg : ∀ (s : Shared) (H : Hp) (C : Addr) (cl : List (Str × Addr)) (fp : List Addr), PGV (X.blk s H scope (compEnvC scope cl C X.env) fp) te tg)
    (ht : ∀ (s : Shared) (H : Hp) (C : Addr) (cl : List (Str × Addr)) (fp : List Addr), PTs (X.blk s H scope (compEnvC scope cl C X.env) fp) ifs (trT X.K X.mg WxF (test D ic)))
    (he : ∀ (s : Shared) (H : Hp) (C : Addr) (cl : List (Str × Addr)) (fp : List Addr), PV (X.blk s H scope (compEnvC scope cl C X.env) fp) D WxF elt ie) (hs : notSet ti = true) :
    PV X D Wx (.ListComp elt [⟨te, ti, ifs, 0⟩] scope pos) (.lc ie tg it ic) :=
  peMono (pe_lc (g := gTg X.K tg) (tt := trT X.K X.mg WxF (test D ic)) (te := tr X.K X.mg WxF (den D ie)) hc hN hi ok hg ht he (set_of hs)) fun σ H Q h => lc_rd ho h
end
end Vm
set_option Elab.async false
set_option linter.all false
set_option maxRecDepth 100000
set_option maxHeartbeats 1000000
/-! Statements. -/
namespace Vm
open PySem L2
def PoS (K : Fg) (mg : Mg) (Wx : WX) (o : Fin) (io : List Addr) (H : Hp) (E : Ends) : Prop := match o with
  | .nx r S' => ∀ io' σ' H', Ex io H io' H' → Sim K mg io' H' S' → RepE K mg io' H' r σ' → E.nx σ' H'
  | .rt w S' => ∀ io' v H', Ex io H io' H' → Sim K mg io' H' S' → Rep K mg io' H' w v → E.rt v H'
  | .bk r S' => ∀ io' σ' H', Ex io H io' H' → Sim K mg io' H' S' → RepE K mg io' H' r σ' → E.bk σ' H'
  | .ct r S' => ∀ io' σ' H', Ex io H io' H' → Sim K mg io' H' S' → RepE K mg io' H' r σ' → E.ct σ' H'
  | .exc x r S' => ∀ io' σ' H' cls d, Ex io H io' H' → Sim K mg io' H' S' → RepE K mg io' H' r σ' → RepX K mg io' H' x cls d → Wx cls d σ' H'
  | .err => False
def trS (K : Fg) (mg : Mg) (Wx : WX) (m : Rho → Vs → Fin) : TS := fun E σ H => ∃ io S r, Sim K mg io H S ∧ RepE K mg io H r σ ∧ PoS K mg Wx (m r S) io H E
section
variable {K : Fg} {mg : Mg} {Wx : WX} {io jo : List Addr} {H J : Hp} {S : Vs} {σ : L2.St} {r : Rho} {E : Ends}
theorem PoS.ext {o : Fin} (x : Ex io H jo J) (p : PoS K mg Wx o io H E) : PoS K mg Wx o jo J E := by
  cases o with
  | nx r S' => exact fun io' σ' H' x' => p io' σ' H' (x.trans x')
  | rt w S' => exact fun io' v H' x' => p io' v H' (x.trans x')
  | bk r S' => exact fun io' σ' H' x' => p io' σ' H' (x.trans x')
  | ct r S' => exact fun io' σ' H' x' => p io' σ' H' (x.trans x')
  | exc y r S' => exact fun io' σ' H' cls d x' => p io' σ' H' cls d (x.trans x')
  | err => exact p
/-- an expression's answer, then the rest -/
theorem PoS.fin {α β : Type} {R : List Addr → Hp → α → β → Prop} {o : Out α} {f : α → Vs → Fin} {Y : β → Hp → Prop} (s : Sim K mg io H S) (e : RepE K mg io H r σ) (p : PoS K mg Wx (o.fin r f) io H E)
    (h : ∀ a S1 io1 b H1, o = .ok a S1 → Ex io H io1 H1 → Sim K mg io1 H1 S1 → R io1 H1 a b → PoS K mg Wx (f a S1) io1 H1 E → Y b H1) : Po K mg Wx R o io H σ Y := by
  cases o with
  | ok a S' => exact fun io' b H' x s' q => h a S' io' b H' rfl x s' q (PoS.ext x p)
  | exc y S' => exact fun io' H' cls d x s' q => p io' σ H' cls d x s' (e.mono s x) q
  | err => exact p
end
section
variable {X : Cx} {D : Wd} {Wx : WX} {a b c e : Expr} {ia ib ic ie : IE} {pos : Pos}
abbrev PSV (X : Cx) (D : Wd) (Wx : WX) (st : Stmt) (i : IS) : Prop := PS X st (trS X.K X.mg Wx (denS D i))
abbrev PSVs (X : Cx) (D : Wd) (Wx : WX) (st : List Stmt) (i : IB) : Prop := PSs X st (trS X.K X.mg Wx (denB D i))
theorem psMono {st : Stmt} {t t' : TS} (h : PS X st t) (k : ∀ E σ H, t' E σ H → t E σ H) : PS X st t' := ⟨fun pins s σ H E I q => h.run pins s σ H E I (k E σ H q)⟩
theorem pssMono {st : List Stmt} {t t' : TS} (h : PSs X st t) (k : ∀ E σ H, t' E σ H → t E σ H) : PSs X st t' := ⟨fun pins s σ H E I q => h.run pins s σ H E I (k E σ H q)⟩
theorem psv_nil : PSVs X D Wx [] .nil := pssMono pss_nil fun E σ H ⟨io, S, r, s, e, p⟩ => by
  rw [denB] at p
  exact p io σ H (Ex.refl _ _) s e
theorem psv_cons {st : Stmt} {l : List Stmt} {i : IS} {il : IB} (h : PSV X D Wx st i) (hl : PSVs X D Wx l il) : PSVs X D Wx (st :: l) (.cons i il) := pssMono (pss_cons h hl) fun E σ H ⟨io, S, r, s, e, p⟩ => ⟨io, S, r, s, e, by
  rw [denB] at p
  cases ho : denS D i r S with
  | nx r' S' =>
    rw [ho] at p
    exact fun io' σ' H' x s' e' => ⟨io', S', r', s', e', PoS.ext x p⟩
  | rt w S' => rw [ho] at p; exact p
  | bk r' S' => rw [ho] at p; exact p
  | ct r' S' => rw [ho] at p; exact p
  | exc y r' S' => rw [ho] at p; exact p
  | err => rw [ho] at p; exact p⟩
theorem psv_pass : PSV X D Wx (.Pass pos) .pass := psMono ps_pass fun E σ H ⟨io, S, r, s, e, p⟩ => by
  rw [denS] at p
  exact p io σ H (Ex.refl _ _) s e
/-- what is not reached -/
theorem psv_rse {st : Stmt} {cl : Str} {l : IL} : PSV X D Wx st (.rse cl l) := psMono ps_never fun E σ H ⟨io, S, r, s, e, p⟩ => by
  rw [denS] at p
  exact p
theorem asg_rd {i : Nat} {te : TE} {E : Ends} {σ : L2.St} {H : Hp} (hte : ∀ Q, tr X.K X.mg Wx (den D ie) σ H Q → te σ H Q) (h : trS X.K X.mg Wx (denS D (.asg i ie)) E σ H) : tAsg te (gName i) E σ H := by
  obtain ⟨io, S, r, s, e, p⟩ := h
  rw [denS] at p
  exact hte _ ⟨io, S, r, s, e, p.fin s e fun w S1 io1 v H1 _ x1 s1 r1 p1 => p1 io1 _ H1 (Ex.refl _ _) s1 ((e.mono s x1).set r1 i)⟩
theorem psv_asg {i : Nat} {n : Str} {p2 : Pos} (hN : X.N.Nodup) (hi : X.N[i]? = some n) (hx : Loc X.env.scope n) (hf : X.fn n = true ∨ X.env.scope.names.lookup n = some .local) (hs : swapsWith e (some (.Name n p2)) pos.line X.env = pure false) (he : PV X D Wx e ie) :
    PSV X D Wx (.Assign [.Name n p2] e pos) (.asg i ie) := psMono (ps_set hN hi hx he hs hf) fun E σ H h => asg_rd (fun _ q => q) h
theorem psv_exp (hs : notComp e = true) (he : PV X D Wx e ie) : PSV X D Wx (.Expr e pos) (.exp ie) := psMono (ps_expr he (comp_of hs)) fun E σ H ⟨io, S, r, s, e, p⟩ => by
  rw [denS] at p
  exact ⟨io, S, r, s, e, p.fin s e fun w S1 io1 v H1 _ x1 s1 r1 p1 => p1 io1 σ H1 (Ex.refl _ _) s1 (e.mono s x1)⟩
theorem psv_ret (he : PV X D Wx e ie) : PSV X D Wx (.Return (some e) pos) (.ret ie) := psMono (ps_ret he) fun E σ H ⟨io, S, r, s, e, p⟩ => by
  rw [denS] at p
  exact ⟨io, S, r, s, e, p.fin s e fun w S1 io1 v H1 _ x1 s1 r1 p1 => p1 io1 v H1 (Ex.refl _ _) s1 r1⟩
theorem psv_retN : PSV X D Wx (.Return none pos) .retN := psMono ps_retN fun E σ H ⟨io, S, r, s, e, p⟩ => by
  rw [denS] at p
  exact p io .non H (Ex.refl _ _) s .non
theorem psv_ifs {l m : List Stmt} {il im : IB} (hc : PTV X D Wx c ic) (hl : PSVs X D Wx l il) (hm : PSVs X D Wx m im) : PSV X D Wx (.If c l m pos) (.ifs ic il im) := psMono (ps_if hc hl hm) fun E σ H ⟨io, S, r, s, e, p⟩ => by
  rw [denS] at p
  refine ⟨io, S, r, s, e, p.fin s e fun t S1 io1 t' H1 _ x1 s1 ht p1 => ?_⟩
  subst ht
  cases t with
  | true => exact ⟨io1, S1, r, s1, e.mono s x1, p1⟩
  | false => exact ⟨io1, S1, r, s1, e.mono s x1, p1⟩
/-! ### stores to fields, items; several targets -/
theorem putW_rep {K : Fg} {mg : Mg} {io : List Addr} {H : Hp} {f : Str} {w : W} {v : V} (q : Rep K mg io H w v) {l : List (Str × W)} {xs : List (Str × V)} (r : RepP K mg io H l xs) : RepP K mg io H (putW f w l) (putF f v xs) := by
  induction r with
  | nil => exact .cons q .nil
  | cons q' t ih =>
    rename_i k w' v' l xs
    show RepP K mg io H (if k = f then (k, w) :: l else (k, w') :: putW f w l) (if k = f then (k, v) :: xs else (k, v') :: putF f v xs)
    by_cases h : k = f
    · rw [if_pos h, if_pos h]; exact .cons q t
    · rw [if_neg h, if_neg h]; exact .cons q' ih
theorem putW_keys {f g : Str} {w : W} : ∀ {l : List (Str × W)}, g ∈ (putW f w l).map (·.1) → g = f ∨ g ∈ l.map (·.1)
  | [], h => by simp [putW] at h; exact .inl h
  | (k, x) :: l, h => by
    unfold putW at h
    split at h
    · exact .inr (by simpa using h)
    · rw [List.map_cons] at h
      rcases List.mem_cons.mp h with h | h
      · exact .inr (by rw [h]; simp)
      · rcases putW_keys h with h | h
        · exact .inl h
        · exact .inr (List.mem_cons_of_mem _ h)
/-- the fields that may be stored are no attributes of their class -/
def FlOk (K : Fg) (mg : Mg) (fl : Str → List Str) : Prop := ∀ c f, f ∈ fl c → ∀ C, mg c = some (.ref C) → NoAttr K C f
theorem sole_fld {o : Expr} {f : Str} {p : Pos} {l : Nat} {env : Env} : swapsWith e (some (.Attribute o f p)) l env = pure false := by cases e <;> rfl
theorem psv_sfld {f : Str} {p2 : Pos} (fk : FlOk X.K X.mg D.fl) (ha : PV X D Wx a ia) (he : PV X D Wx e ie) : PSV X D Wx (.Assign [.Attribute a f p2] e pos) (.sfld ia f ie) := psMono (ps_fld ha he sole_fld) fun E σ H ⟨io, S, r, s, e, p⟩ => by
  rw [denS] at p
  refine ⟨io, S, r, s, e, p.fin s e fun y S1 io1 u H1 _ x1 s1 r1 p1 => ⟨io1, S1, r, s1, e.mono s x1, p1.fin s1 (e.mono s x1) fun x S2 io2 v H2 _ x2 s2 r2 p2 => ?_⟩⟩
  cases r2 with
  | @ref n q h =>
    have p2 : PoS X.K X.mg Wx (match (match S2[n]? with
      | some (.ins c fs) => if decide (fs.length < 1000) && (D.fl c).contains f then some (S2.set n (.ins c (putW f y fs))) else none
      | _ => none) with
      | some s3 => .nx r s3
      | none => .err) io2 H2 E := p2
    split at p2
    · rename_i s3 e3
      split at e3
      · rename_i c fs e1
        split at e3
        · rename_i hf
          cases e3
          rw [Bool.and_eq_true] at hf
          obtain ⟨C, dx, fv, h1, h2, h3, h4, h5⟩ := s2.ins h e1
          have hcf : f ∈ D.fl c := by simpa using hf.2
          have na := fk c f hcf C h2
          have hm : q ∈ io2 := List.mem_iff_getElem?.mpr ⟨n, h⟩
          exact ⟨q, C, dx, fv, rfl, h1, h3, na, by rw [← repP_len h5]; exact of_decide_eq_true hf.1, p2 io2 σ _ (Ex.write hm) (s2.write h (.ins h2 h3 (fun g hg => by rcases putW_keys hg with z | z; (rw [z]; exact na); exact h4 g z) (putW_rep (r1.mono s1 x2) h5))) (((e.mono s x1).mono s1 x2).mono s2 (Ex.write hm))⟩
        · cases e3
      · cases e3
    · exact p2.elim
  | _ => exact p2.elim
theorem set_ok {io : List Addr} {H : Hp} {S S' : Vs} {x k w : W} {v i u : V} (s : Sim X.K X.mg io H S) (rx : Rep X.K X.mg io H x v) (rk : Rep X.K X.mg io H k i) (rw' : Rep X.K X.mg io H w u) (h : setV x k w S = some S') {Q : Hp → Prop}
    (q : ∀ H', Ex io H io H' → Sim X.K X.mg io H' S' → Q H') : rSetL v i u H Q := by
  cases rx with
  | @ref n a ha =>
    cases rk with
    | int j =>
      have h : (match S[n]? with
        | some (.lst l) => (match ixN l.length j with
          | some m => some (S.set n (.lst (l.set m w)))
          | none => none)
        | _ => none) = some S' := h
      split at h
      · rename_i l e1
        split at h
        · rename_i m e2
          cases h
          obtain ⟨xs, hx, r⟩ := s.lst ha e1
          exact ⟨a, xs, j, m, rfl, rfl, hx, by rw [← r.length]; exact e2, q _ (Ex.write (List.mem_iff_getElem?.mpr ⟨n, ha⟩)) (s.write ha (.lst (Reps.set rw' m r)))⟩
        · cases h
      · cases h
    | _ => cases h
  | _ => cases h
theorem sub_sole {o i : Expr} {p : Pos} {l : Nat} {env : Env} : swapsWithSole [.Subscript o i p] e l env = pure false := by cases e <;> rfl
theorem sub_sw {o i : Expr} {p : Pos} {env : Env} : swappedStores [.Subscript o i p] e env = pure none := by cases e <;> rfl
theorem psv_ssub {o i : Expr} {io' ii : IE} {p2 : Pos} (hns : notSlice i = true) (ho : PV X D Wx o io') (hi : PV X D Wx i ii) (he : PV X D Wx e ie) : PSV X D Wx (.Assign [.Subscript o i p2] e pos) (.ssub io' ii ie) :=
  psMono (ps_asg he (pg_sub ho hi set_list (fun v => by cases i <;> first | rfl | (cases hns; done))) sub_sole sub_sw rfl) fun E σ H ⟨io, S, r, s, e, p⟩ => by
    rw [denS] at p
    refine ⟨io, S, r, s, e, p.fin s e fun y S1 io1 u H1 _ x1 s1 r1 p1 => ⟨io1, S1, r, s1, e.mono s x1, p1.fin s1 (e.mono s x1) fun x S2 io2 v H2 _ x2 s2 r2 p2 => ⟨io2, S2, r, s2, (e.mono s x1).mono s1 x2, p2.fin s2 ((e.mono s x1).mono s1 x2) fun k S3 io3 iv H3 _ x3 s3 r3 p3 => ?_⟩⟩⟩
    split at p3
    · rename_i s4 e4
      exact set_ok s3 (r2.mono s2 x3) r3 ((r1.mono s1 x2).mono s2 x3) e4 fun H' x4 s5 => p3 io3 σ H' x4 s5 ((((e.mono s x1).mono s1 x2).mono s2 x3).mono s3 x4)
    · exact p3.elim
def notTup : Expr → Bool | .Tuple _ _ _ => false | _ => true
theorem tup_sole {ts : List Expr} {k : Nat} {p : Pos} {l : Nat} {env : Env} : swapsWithSole [.Tuple ts k p] e l env = pure false := by cases e <;> rfl
theorem tup_sw {ts : List Expr} {k : Nat} {p : Pos} {env : Env} (h : notTup e = true) : swappedStores [.Tuple ts k p] e env = pure none := by cases e <;> first | rfl | cases h
theorem pgOr {tg : Expr} {t u : TG} (h : PG X tg t) (g : PG X tg u) : PG X tg (fun v σ H Q => t v σ H Q ∨ u v σ H Q) := ⟨fun pins s σ H v u' Q I r q => q.elim (h.run pins s σ H v u' Q I r) (g.run pins s σ H v u' Q I r)⟩
theorem psv_asgT {es : List Expr} {l : List Nat} {k : Nat} {p2 : Pos} (hc : X.calm = true) (ht : notTup e = true) (hs : noStars es = true) (hl : es.length = l.length) (h : PGs X es (gAll l)) (he : PV X D Wx e ie) : PSV X D Wx (.Assign [.Tuple es k p2] e pos) (.asgT l ie) := by
  have h1 : (assignEach es X.env).length = l.length := by rw [assign_of hs, List.length_map, hl]
  have h2 : (assignEach es X.env).findIdx? (·.1) = none := by rw [assign_of hs]; exact List.findIdx?_eq_none_iff.mpr fun x hx => by obtain ⟨e, _, rfl⟩ := List.mem_map.mp hx; rfl
  refine psMono (ps_asg he (pgOr (pg_tup hc h h1 h2) (pg_lst hc h h1 h2)) tup_sole (tup_sw ht) rfl) fun E σ H ⟨io, S, r, s, e, p⟩ => ?_
  rw [denS] at p
  refine ⟨io, S, r, s, e, p.fin s e fun w S1 io1 v H1 _ x1 s1 r1 p1 => ?_⟩
  have e1 := e.mono s x1
  cases r1 with
  | @tup ws a xs h3 r2 =>
    have p1 : PoS X.K X.mg Wx (match (if l.length = ws.length then some (setAll r l ws) else none) with
      | some r' => .nx r' S1
      | none => .err) io1 H1 E := p1
    by_cases hw : l.length = ws.length
    · rw [if_pos hw] at p1
      exact .inl ⟨a, xs, rfl, h3, by rw [← r2.length, hw], gAll_ok (by rw [hw, r2.length]) (p1 io1 _ H1 (Ex.refl _ _) s1 ((RepQ.setAll hw r2 e1.q).e fun i h => h.1))⟩
    · rw [if_neg hw] at p1; exact p1.elim
  | @ref n a h3 =>
    have p1 : PoS X.K X.mg Wx (match (match lstAt S1 n with
      | some ws => if l.length = ws.length then some (setAll r l ws) else none
      | none => none) with
      | some r' => .nx r' S1
      | none => .err) io1 H1 E := p1
    cases el : lstAt S1 n with
    | none => rw [el] at p1; exact p1.elim
    | some ws =>
      rw [el] at p1
      obtain ⟨xs, hx, r2⟩ := s1.lst h3 (lstAt_of el)
      have p1 : PoS X.K X.mg Wx (match (if l.length = ws.length then some (setAll r l ws) else none) with
        | some r' => .nx r' S1
        | none => .err) io1 H1 E := p1
      by_cases hw : l.length = ws.length
      · rw [if_pos hw] at p1
        exact .inr ⟨a, xs, rfl, SqL.of hx, by rw [← r2.length, hw], gAll_ok (by rw [hw, r2.length]) (p1 io1 _ H1 (Ex.refl _ _) s1 ((RepQ.setAll hw r2 e1.q).e fun i h => h.1))⟩
      · rw [if_neg hw] at p1; exact p1.elim
  | _ => exact p1.elim
/-- a, b = x, y with two local names on one line -/
theorem par_sw {x y : Str} {px py pt : Pos} {kt k2 : Nat} {pt2 : Pos} {env : Env} (hk : env.scope.kind = .function) (hx : env.scope.names.lookup x = some .local) (hy : env.scope.names.lookup y = some .local) (hxy : x ≠ y) (hl : (py.line == px.line) = true)
    (ha : notStar a = true) (hb : notStar b = true) (hf : (foldedForSure 8 a && foldedForSure 8 b) = false) (hc : (constantsAlone 8 a && constantsAlone 8 b) = false) :
    swappedStores [.Tuple [.Name x px, .Name y py] kt pt] (.Tuple [a, b] k2 pt2) env = pure (some [x, y]) := by
  have e1 : env.blockKind = .function := by unfold Env.blockKind; rw [hk]; rfl
  have kx : env.kindOf x = some .local := hx
  have ky : env.kindOf y = some .local := hy
  have hl' : py.line = px.line := by simpa using hl
  have n1 : ([x, y] : List Str).eraseDups = [x, y] := by
    rw [List.eraseDups_cons]
    have : ([y].filter fun b => !b == x) = [y] := by simp [Ne.symm hxy]
    rw [this]
    rfl
  have n2 : ([x, y] : List Str).eraseDups.length = 2 := by rw [n1]; rfl
  unfold swappedStores
  simp only [List.length_cons, List.length_nil, e1, List.head?_cons, Option.map_some, Option.getD_some, Expr.pos, List.filterMap_cons, List.filterMap_nil, kx, ky, hl', List.all_cons, List.all_nil, Bool.and_true, hf, hc, n1]
  simp [n2]
  intro h
  exfalso
  rcases h with h | h
  · cases a <;> first | (cases ha; done) | (cases h; done)
  · cases b <;> first | (cases hb; done) | (cases h; done)
theorem psv_par {i j : Nat} {x y : Str} {px py pt : Pos} {kt k2 : Nat} {pt2 : Pos} (hc : X.calm = true) (hk : X.env.scope.kind = .function) (hN : X.N.Nodup) (hi : X.N[i]? = some x) (hj : X.N[j]? = some y) (hij : i ≠ j) (hx : X.env.scope.names.lookup x = some .local) (hy : X.env.scope.names.lookup y = some .local) (hxy : x ≠ y) (hl : (py.line == px.line) = true)
    (sa : notStar a = true) (sb : notStar b = true) (hf : (foldedForSure 8 a && foldedForSure 8 b) = false) (hcn : (constantsAlone 8 a && constantsAlone 8 b) = false) (ha : PV X D Wx a ia) (hb : PV X D Wx b ib) :
    PSV X D Wx (.Assign [.Tuple [.Name x px, .Name y py] kt pt] (.Tuple [a, b] k2 pt2) pos) (.par i j ia ib) :=
  psMono (ps_par hc hN hi hj hij hx hy (pa_cons ha (pa_cons hb pa_nil (star_of sb)) (star_of sa)) (par_sw hk hx hy hxy hl sa sb hf hcn) rfl) fun E σ H ⟨io, S, r, s, e, p⟩ => by
    rw [denS] at p
    exact ⟨io, S, r, s, e, p.fin s e fun x S1 io1 v H1 _ x1 s1 r1 p1 => ⟨io1, S1, r, s1, e.mono s x1, p1.fin s1 (e.mono s x1) fun y S2 io2 u H2 _ x2 s2 r2 p2 => ⟨v, u, rfl, p2 io2 _ H2 (Ex.refl _ _) s2 ((((e.mono s x1).mono s1 x2).set (r1.mono s1 x2) i).set r2 j)⟩⟩⟩
/-- name = [..] on one line, the name a local that the block has not -/
theorem psv_lc {elt te ti : Expr} {ifs : List Expr} {scope : Scope} {own : List (Str × Nat)} {lpos : Pos} {ie ic : IE} {tg : Tg} {it : II} {i : Nat} {n : Str} {p2 : Pos}
    (hc : X.calm = true) (hk : X.env.scope.kind = .function) (hN : X.N.Nodup) (hy : X.N[i]? = some n) (hyl : X.env.scope.names.lookup n = some .local) (hl1 : (p2.line == lpos.line) = true) (hnb : (scope.names.any fun (m, k) => m == n && (k == .local || k == .cell)) = false)
    (hi : PIV X D Wx te ti it) (ok : BlkOk X.N X.env.scope scope own) (ho : own.map (·.2) = tgSlots tg)
    (hg : ∀ (s : Shared) (H : Hp) (C : Addr) (cl : List (Str × Addr)) (fp : List Addr), PGV (X.blk s H scope (compEnvC scope cl C X.env) fp) te tg)
    (ht : ∀ (s : Shared) (H : Hp) (C : Addr) (cl : List (Str × Addr)) (fp : List Addr), PTs (X.blk s H scope (compEnvC scope cl C X.env) fp) ifs (trT X.K X.mg WxF (test D ic)))
    (he : ∀ (s : Shared) (H : Hp) (C : Addr) (cl : List (Str × Addr)) (fp : List Addr), PV (X.blk s H scope (compEnvC scope cl C X.env) fp) D WxF elt ie) (hs : notSet ti = true) :
    PSV X D Wx (.Assign [.Name n p2] (.ListComp elt [⟨te, ti, ifs, 0⟩] scope lpos) pos) (.asg i (.lc ie tg it ic)) :=
  psMono (ps_setLc (g := gTg X.K tg) (tt := trT X.K X.mg WxF (test D ic)) (te := tr X.K X.mg WxF (den D ie)) hc hN hy hyl (sw_true hk hyl hl1 hnb) hi ok hg ht he (set_of hs)) fun E σ H h => asg_rd (fun Q q => lc_rd ho q) h
/-- the name is no plain local (a comprehension reads it) -/
theorem sw_cell {elt : Expr} {gs : List Comprehension} {scope : Scope} {lpos py : Pos} {y : Str} {l : Nat} {env : Env} (hy : env.scope.names.lookup y = some .cell) : swapsWith (.ListComp elt gs scope lpos) (some (.Name y py)) l env = pure false := by
  have ky : env.kindOf y = some .cell := hy
  have kk : (NameKind.cell == NameKind.local) = false := by decide
  unfold swapsWith
  simp only [ky]
  simp [kk]
/-! ### loops -/
theorem whl_mono {c : Rho → Vs → Out Bool} {f : Rho → Vs → Fin} : ∀ {n : Nat} {r : Rho} {s : Vs}, iter c f n r s ≠ .err → ∀ m, n ≤ m → iter c f m r s = iter c f n r s
  | 0, r, s, h, _, _ => absurd rfl h
  | n + 1, r, s, h, m + 1, hm => by
    unfold iter at h ⊢
    cases hc : c r s with
    | exc x s1 => simp only [hc]
    | err => simp only [hc]
    | ok b s1 =>
      cases b with
      | false => simp only [hc]; rfl
      | true =>
        cases hf : f r s1 with
        | nx r' s' =>
          simp only [hc, hf, if_true] at h ⊢
          exact whl_mono h m (by omega)
        | ct r' s' =>
          simp only [hc, hf, if_true] at h ⊢
          exact whl_mono h m (by omega)
        | bk r' s' => simp only [hc, hf]
        | rt w s' => simp only [hc, hf]
        | exc x r' s' => simp only [hc, hf]
        | err => simp only [hc, hf]
  | n + 1, r, s, h, 0, hm => by omega
/-- so many turns are enough -/
theorem whl_eq {c : Rho → Vs → Out Bool} {f : Rho → Vs → Fin} {n : Nat} {r : Rho} {s : Vs} (h : iter c f n r s ≠ .err) : whlL c f r s = iter c f n r s := by
  unfold whlL
  have hx : ∃ n, iter c f n r s ≠ .err := ⟨n, h⟩
  rw [dif_pos hx]
  have h2 := Classical.choose_spec hx
  rcases Nat.le_total (Classical.choose hx) n with hle | hle
  · exact (whl_mono h2 n hle).symm
  · exact whl_mono h _ hle
theorem whl_some {c : Rho → Vs → Out Bool} {f : Rho → Vs → Fin} {r : Rho} {s : Vs} (h : whlL c f r s ≠ .err) : ∃ n, iter c f n r s = whlL c f r s ∧ iter c f n r s ≠ .err := by
  unfold whlL at h ⊢
  split
  · rename_i hx
    rw [dif_pos hx] at h
    exact ⟨_, rfl, h⟩
  · rename_i hx
    rw [dif_neg hx] at h
    exact absurd rfl h
theorem psv_whl {b : List Stmt} {ib : IB} (hp : PassesOwn (model X.prog X.w) X.A X.env X.xe) (hc : PTV X D Wx c ic) (hb : PSVs X D Wx b ib) : PSV X D Wx (.While c b [] pos) (.whl ic ib) := psMono (ps_while hp hc hb) fun E σ H ⟨io, S, r, s, e, p⟩ => by
  rw [denS] at p
  by_cases hn : whlL (test D ic) (denB D ib) r S = .err
  · rw [hn] at p; exact p.elim
  obtain ⟨n, h1, h2⟩ := whl_some hn
  rw [← h1] at p
  refine ⟨fun m σ H => ∃ io S r, Sim X.K X.mg io H S ∧ RepE X.K X.mg io H r σ ∧ PoS X.K X.mg Wx (iter (test D ic) (denB D ib) m r S) io H E, ⟨n, io, S, r, s, e, p⟩, ?_⟩
  rintro m σ H ⟨io, S, r, s, e, p⟩
  cases m with
  | zero => exact p.elim
  | succ m =>
    refine ⟨io, S, r, s, e, ?_⟩
    unfold iter at p
    cases ht : test D ic r S with
    | exc x S1 =>
      rw [ht] at p
      exact fun io' H' cls d x' s' q => p io' σ H' cls d x' s' (e.mono s x') q
    | err => rw [ht] at p; exact p
    | ok t S1 =>
      rw [ht] at p
      intro io1 t' H1 x1 s1 hb'
      subst hb'
      have e1 := e.mono s x1
      cases t with
      | false => exact p io1 σ H1 x1 s1 e1
      | true =>
        refine ⟨fun σ' H' => ∃ io S r, Sim X.K X.mg io H' S ∧ RepE X.K X.mg io H' r σ' ∧ PoS X.K X.mg Wx (iter (test D ic) (denB D ib) m r S) io H' E, fun σ' H' h => ⟨m, Nat.lt_succ_self m, h⟩, io1, S1, r, s1, e1, ?_⟩
        have p := PoS.ext x1 p
        simp only [if_true] at p
        cases hf : denB D ib r S1 with
        | nx r' S' =>
          rw [hf] at p
          exact fun io' σ' H' x' s' e' => ⟨io', S', r', s', e', PoS.ext x' p⟩
        | ct r' S' =>
          rw [hf] at p
          exact fun io' σ' H' x' s' e' => ⟨io', S', r', s', e', PoS.ext x' p⟩
        | bk r' S' => rw [hf] at p; exact p
        | rt w S' => rw [hf] at p; exact p
        | exc x r' S' => rw [hf] at p; exact p
        | err => rw [hf] at p; exact p
theorem psv_fors {tge it : Expr} {tg : Tg} {ii : II} {b : List Stmt} {ib : IB} (hp : PassesOwn (model X.prog X.w) X.A X.env X.xe) (hc : X.calm = true) (hs : notSet it = true) (hi : PIV X D Wx tge it ii) (hg : PGV X tge tg) (hb : PSVs X D Wx b ib) :
    PSV X D Wx (.For tge it b [] pos) (.fors tg ii ib) := psMono (ps_for hp hc hi hg hb (set_of hs)) fun E σ H ⟨io, S, r, s, e, p⟩ => by
  rw [denS] at p
  refine ⟨io, S, r, s, e, ?_⟩
  cases hq : denI D ii r S with
  | exc z S1 =>
    rw [hq] at p
    exact fun io' H' cls d x' s' q => p io' σ H' cls d x' s' (e.mono s x') q
  | err => rw [hq] at p; exact p
  | ok q S1 =>
    rw [hq] at p
    intro io1 H1 x1 s1 J hJ
    have p := PoS.ext x1 (show PoS X.K X.mg Wx (forL q.ok (fun x r' s2 => match setT tg x r' with
      | some r2 => denB D ib r2 s2
      | none => .err) q.items r S1) io H E from p)
    refine ⟨fun i m σ H => m = q.items.length - i ∧ i ≤ q.items.length ∧ ∃ io S r, Ex io1 H1 io H ∧ Sim X.K X.mg io H S ∧ RepE X.K X.mg io H r σ ∧ PoS X.K X.mg Wx (forL q.ok (fun x r' s2 => match setT tg x r' with
      | some r2 => denB D ib r2 s2
      | none => .err) (q.items.drop i) r S) io H E, ⟨q.items.length, by simp, Nat.zero_le _, io1, S1, r, Ex.refl _ _, s1, e.mono s x1, p⟩, ?_⟩
    rintro i m σ H ⟨rfl, hi2, io, S, r, x2, s2, e2, p⟩
    by_cases hlt : i < q.items.length
    · rw [List.drop_eq_getElem_cons hlt] at p
      unfold forL at p
      by_cases hok : q.ok S
      · rw [if_pos hok] at p
        obtain ⟨hgo, hyl⟩ := (hJ i io H S x2 s2 hok).1 hlt
        refine .inr ⟨hgo, fun σ' H' => ∃ m', m' = q.items.length - (i + 1) ∧ i + 1 ≤ q.items.length ∧ ∃ io S r, Ex io1 H1 io H' ∧ Sim X.K X.mg io H' S ∧ RepE X.K X.mg io H' r σ' ∧ PoS X.K X.mg Wx (forL q.ok (fun x r' s2 => match setT tg x r' with
          | some r2 => denB D ib r2 s2
          | none => .err) (q.items.drop (i + 1)) r S) io H' E, fun σ' H' ⟨m', hm, hw⟩ => ⟨m', by omega, hm, hw⟩, fun x H3 hy => ?_⟩
        obtain ⟨x3, s3, w, hw, rw3⟩ := hyl x H3 hy
        have hw' : w = q.items[i] := by rw [List.getElem?_eq_getElem hlt] at hw; exact (Option.some.inj hw).symm
        subst hw'
        have e3 := e2.mono s2 x3
        have p := PoS.ext x3 p
        cases hst : setT tg q.items[i] r with
        | none => simp only [hst] at p; exact p.elim
        | some r' =>
          simp only [hst] at p
          refine gTg_ok s3 e3.q rw3 hst fun σ' eq' hlen hout => ⟨io, S, r', s3, eq'.e fun j h => h.1, ?_⟩
          cases hf : denB D ib r' S with
          | nx r2 S' =>
            rw [hf] at p
            exact fun io' σ' H' x' s' e' => ⟨_, rfl, hlt, io', S', r2, (x2.trans x3).trans x', s', e', PoS.ext x' p⟩
          | ct r2 S' =>
            rw [hf] at p
            exact fun io' σ' H' x' s' e' => ⟨_, rfl, hlt, io', S', r2, (x2.trans x3).trans x', s', e', PoS.ext x' p⟩
          | bk r2 S' => rw [hf] at p; exact p
          | rt w S' => rw [hf] at p; exact p
          | exc x r2 S' => rw [hf] at p; exact p
          | err => rw [hf] at p; exact p.elim
      · rw [if_neg hok] at p; exact p.elim
    · have hi3 : i = q.items.length := by omega
      subst hi3
      rw [List.drop_length] at p
      unfold forL at p
      by_cases hok : q.ok S
      · rw [if_pos hok] at p
        exact .inl ⟨(hJ q.items.length io H S x2 s2 hok).2 rfl, p io σ H (Ex.refl _ _) s2 e2⟩
      · rw [if_neg hok] at p; exact p.elim
end
end Vm
set_option Elab.async false
set_option linter.all false
set_option maxRecDepth 100000
set_option maxHeartbeats 1000000
/-! That a text is the interpreter's: a check, and what it shows. -/
namespace Vm
open PySem L2
/-- what is known of the module: constants, defs, classes by their __init__, methods, names that it does not bind -/
structure Tb where
  gl : Str → Option W
  fn : Str → Option Fd
  cl : Str → Option Fd
  mt : Str → Str → Option Fd
  bi : List Str
  eq : List Str
  isc : List Str
def visB (sc : Scope) (x : Str) : Bool := match sc.names.lookup x with
  | some .local => true | some .cell => true | some .free => true | _ => false
def locB (sc : Scope) (x : Str) : Bool := match sc.names.lookup x with
  | some .local => true | some .cell => true | _ => false
def glB (sc : Scope) (x : Str) : Bool := match sc.names.lookup x with
  | some .globalImplicit => true | _ => false
def lclB (sc : Scope) (x : Str) : Bool := match sc.names.lookup x with
  | some .local => true | _ => false
def celB (sc : Scope) (x : Str) : Bool := match sc.names.lookup x with
  | some .cell => true | _ => false
def nmOk (x : Str) : Bool := !(x == ("__debug__" : Str)) && !(x == ("__classdict__" : Str)) && !(x == ("__name__" : Str))
def conB : Const → W → Bool
  | .none, .non => true
  | .bool a, .bl b => decide (a = b)
  | .int a, .int b => decide (a = b)
  | .str a, .str b => decide (a = b)
  | _, _ => false
/-- the target's names and their slots -/
def tgB (N : List Str) (sc : Scope) : Expr → Tg → Bool
  | .Name x _, .nm i => decide (N[i]? = some x) && locB sc x
  | .Tuple es _ _, .tp l => noStars es && decide (es.length = l.length) && (es.zip l).all fun p => match p.1 with
    | .Name x _ => decide (N[p.2]? = some x) && locB sc x
    | _ => false
  | _, _ => false
def tgNames : Expr → Tg → List (Str × Nat)
  | .Name x _, .nm i => [(x, i)]
  | .Tuple es _ _, .tp l => (es.zip l).map fun p => (match p.1 with
    | .Name x _ => x
    | _ => Str.empty, p.2)
  | _, _ => []
def argB (d : Fd) (k : Nat) : Bool := decide (k ≤ d.np ∧ d.np - k ≤ d.dfl.length)
variable (T : Tb)
mutual
def chkE : Nat → List Str → Scope → Expr → IE → Bool
  | 0, _, _, _, _ => false
  | n + 1, N, sc, e, i => match i with
    | .var k => (match e with
      | .Name x _ => decide (N[k]? = some x) && visB sc x && nmOk x
      | _ => false)
    | .con w => (match e with
      | .Constant c _ _ => conB c w
      | _ => false)
    | .glo x => (match e with
      | .Name y _ => decide (y = x) && glB sc x && (T.gl x).isSome && nmOk x
      | _ => false)
    | .bin o a b => (match e with
      | .BinOp a' op b' _ => decide (op = opOf o) && chkE n N sc a' a && chkE n N sc b' b
      | _ => false)
    | .not a => (match e with
      | .UnaryOp .Not a' _ => chkE n N sc a' a
      | _ => false)
    | .neg a => (match e with
      | .UnaryOp .USub a' _ => chkE n N sc a' a
      | _ => false)
    | .and a b => (match e with
      | .BoolOp .And [x, y] _ => chkE n N sc x a && chkE n N sc y b
      | .BoolOp .And (x :: y :: r) p => chkE n N sc x a && chkE n N sc (.BoolOp .And (y :: r) p) b
      | _ => false)
    | .or a b => (match e with
      | .BoolOp .Or [x, y] _ => chkE n N sc x a && chkE n N sc y b
      | .BoolOp .Or (x :: y :: r) p => chkE n N sc x a && chkE n N sc (.BoolOp .Or (y :: r) p) b
      | _ => false)
    | .ite c a b => (match e with
      | .IfExp c' a' b' _ => chkT n N sc c' c && chkE n N sc a' a && chkE n N sc b' b
      | _ => false)
    | .cmp o a b => (match e with
      | .Compare a' [op] [b'] _ => decide (op = cmpOf o) && notSet b' && chkE n N sc a' a && chkE n N sc b' b
      | _ => false)
    | .chn o p a b c => (match e with
      | .Compare a' [op, op'] [b', c'] _ => decide (op = cmpOf o) && decide (op' = cmpOf p) && notSet c' && chkE n N sc a' a && chkE n N sc b' b && chkE n N sc c' c
      | _ => false)
    | .tup l => (match e with
      | .Tuple es _ _ => chkL n N sc es l
      | _ => false)
    | .lst l => (match e with
      | .List es _ => chkL n N sc es l
      | _ => false)
    | .idx a b => (match e with
      | .Subscript a' b' _ => notSlice b' && chkE n N sc a' a && chkE n N sc b' b
      | _ => false)
    | .slc a lo hi => (match e with
      | .Subscript a' (.Slice l h none _) _ => chkE n N sc a' a && chkO n N sc l lo && chkO n N sc h hi
      | _ => false)
    | .fld a f => (match e with
      | .Attribute a' g _ => decide (g = f) && baseOk a' && chkE n N sc a' a
      | _ => false)
    | .call f l => (match e with
      | .Call (.Name g _) (a' :: es) [] _ => decide (g = f) && glB sc f && nmOk f && noStars (a' :: es) && chkL n N sc (a' :: es) l && (match T.fn f with
        | some d => argB d (lenL l)
        | none => (match T.cl f with
          | some d => argB d (lenL l + 1)
          | none => false))
      | _ => false)
    | .bi f l => (match e with
      | .Call (.Name g _) (a' :: es) [] _ => decide (g = biName f) && biHas f && glB sc g && T.bi.contains g && noStars (a' :: es) && chkL n N sc (a' :: es) l
      | _ => false)
    | .isi a t => (match e with
      | .Call (.Name g _) [a', .Name t' _] [] _ => decide (g = "isinstance") && decide (t' = t) && (isBase t).isSome && glB sc g && T.bi.contains g && glB sc t && T.bi.contains t && notStar a' && chkE n N sc a' a
      | _ => false)
    | .meth a m l => (match e with
      | .Call (.Attribute a' g ap) (b' :: es) [] p => decide (g = m) && (decide (m = "append") || decide (m = "insert")) && baseOk a' && (ap.endLine == p.line) && noStars (b' :: es) && decide ((b' :: es).length < 29) && chkE n N sc a' a && chkL n N sc (b' :: es) l
      | _ => false)
    | .omt c m a l => (match e with
      | .Call (.Attribute a' g ap) es [] p => decide (g = m) && baseOk a' && (ap.endLine == p.line) && noStars es && decide (es.length < 29) && chkE n N sc a' a && chkL n N sc es l && (match T.mt c m with
        | some d => argB d (lenL l + 1)
        | none => false)
      | _ => false)
    | .ceq ng cs a b => (match e with
      | .Compare a' [op] [b'] _ => decide (op = ngOp ng) && cs.all T.eq.contains && notSet b' && chkE n N sc a' a && chkE n N sc b' b
      | _ => false)
    | .iso a t cs => (match e with
      | .Call (.Name g _) [a', .Name t' _] [] _ => decide (g = "isinstance") && decide (t' = t) && decide (cs = T.isc) && cs.contains t && glB sc g && T.bi.contains g && glB sc t && nmOk t && notStar a' && chkE n N sc a' a
      | _ => false)
    | .lc ie tg it ic => (match e with
      | .ListComp elt [⟨te, ti, ifs, 0⟩] scope _ => chkC n N sc elt te ti ifs scope ie tg it ic
      | _ => false)
    | _ => false
def chkC : Nat → List Str → Scope → Expr → Expr → Expr → List Expr → Scope → IE → Tg → II → IE → Bool
  | 0, _, _, _, _, _, _, _, _, _, _, _ => false
  | n + 1, N, sc, elt, te, ti, ifs, scope, ie, tg, it, ic => blkC N sc scope (tgNames te tg) && tgB N scope te tg && decide ((tgNames te tg).map (·.2) = tgSlots tg) && notSet ti && chkI n N sc te ti it && chkE n N scope elt ie && (match ifs with
    | [] => (match ic with
      | .con (.bl true) => true
      | _ => false)
    | [c] => chkT n N scope c ic
    | _ => false)
def chkL : Nat → List Str → Scope → List Expr → IL → Bool
  | 0, _, _, _, _ => false
  | n + 1, N, sc, es, l => match es, l with
    | [], .nil => true
    | e :: es, .cons i l => notStar e && chkE n N sc e i && chkL n N sc es l
    | _, _ => false
def chkO : Nat → List Str → Scope → Option Expr → IE → Bool
  | 0, _, _, _, _ => false
  | n + 1, N, sc, o, i => match o with
    | none => (match i with
      | .con .non => true
      | _ => false)
    | some e => !miss i && chkE n N sc e i
def chkI : Nat → List Str → Scope → Expr → Expr → II → Bool
  | 0, _, _, _, _, _ => false
  | n + 1, N, sc, te, e, i => match i with
    | .val a => chkE n N sc e a
    | .rng1 a => (match e with
      | .Call (.Name g _) [a'] [] _ => decide (g = "range") && glB sc g && T.bi.contains g && notStar a' && chkE n N sc a' a
      | _ => false)
    | .zip a b => (match e with
      | .Call (.Name g _) [a', b'] [] _ => (match te with
        | .Tuple _ _ _ => true
        | _ => false) && decide (g = "zip") && glB sc g && T.bi.contains g && notStar a' && notStar b' && chkE n N sc a' a && chkE n N sc b' b
      | _ => false)
    | .enum a => (match e with
      | .Call (.Name g _) [a'] [] _ => (match te with
        | .Tuple _ _ _ => true
        | _ => false) && decide (g = "enumerate") && glB sc g && T.bi.contains g && notStar a' && chkE n N sc a' a
      | _ => false)
    | _ => false
def chkT : Nat → List Str → Scope → Expr → IE → Bool
  | 0, _, _, _, _ => false
  | n + 1, N, sc, e, i => match e with
    | .UnaryOp .Not a' _ => (match i with
      | .not a => chkT n N sc a' a
      | _ => false)
    | .BoolOp op es _ => chkW n N sc op es i
    | .Compare a' [op] [b'] _ => (match i with
      | .cmp o a b => decide (op = cmpOf o) && notSet b' && chkE n N sc a' a && chkE n N sc b' b
      | .ceq ng cs a b => decide (op = ngOp ng) && cs.all T.eq.contains && notSet b' && chkE n N sc a' a && chkE n N sc b' b
      | _ => false)
    | .Compare a' [op, op'] [b', c'] _ => (match i with
      | .chn o p a b c => decide (op = cmpOf o) && decide (op' = cmpOf p) && notSet c' && chkE n N sc a' a && chkE n N sc b' b && chkE n N sc c' c
      | _ => false)
    | e => plainT e && chkE n N sc e i
def chkW : Nat → List Str → Scope → BoolOp → List Expr → IE → Bool
  | 0, _, _, _, _, _ => false
  | n + 1, N, sc, op, es, i => match es with
    | [x] => chkT n N sc x i
    | x :: y :: r => (match op, i with
      | .And, .and a b => chkT n N sc x a && chkW n N sc .And (y :: r) b
      | .Or, .or a b => chkT n N sc x a && chkW n N sc .Or (y :: r) b
      | _, _ => false)
    | _ => false
end
mutual
def chkS : Nat → List Str → Scope → Stmt → IS → Bool
  | 0, _, _, _, _ => false
  | n + 1, N, sc, st, i => match i with
    | .asg k ie => (match st with
      | .Assign [.Name x p2] e pos => decide (N[k]? = some x) && locB sc x && ((notComp e && chkE T n N sc e ie) || (match e with
        | .ListComp elt [⟨te, ti, ifs, 0⟩] scope lpos => (celB sc x && chkE T n N sc e ie) || (lclB sc x && (p2.line == lpos.line) && !(scope.names.any fun (m, k) => m == x && (k == .local || k == .cell)) && (match ie with
          | .lc ie tg it ic => chkC T n N sc elt te ti ifs scope ie tg it ic
          | _ => false))
        | _ => false))
      | _ => false)
    | .asgT l ie => (match st with
      | .Assign [.Tuple es k p2] e pos => notTup e && tgB N sc (.Tuple es k p2) (.tp l) && chkE T n N sc e ie
      | _ => false)
    | .par i j ia ib => (match st with
      | .Assign [.Tuple [.Name x px, .Name y py] _ _] (.Tuple [a, b] _ _) _ => decide (N[i]? = some x) && decide (N[j]? = some y) && decide (i ≠ j) && lclB sc x && lclB sc y && decide (x ≠ y) && (py.line == px.line) && notStar a && notStar b
        && !(foldedForSure 8 a && foldedForSure 8 b) && !(constantsAlone 8 a && constantsAlone 8 b) && chkE T n N sc a ia && chkE T n N sc b ib
      | _ => false)
    | .sfld o f ie => (match st with
      | .Assign [.Attribute a' g _] e _ => decide (g = f) && chkE T n N sc a' o && chkE T n N sc e ie
      | _ => false)
    | .ssub o k ie => (match st with
      | .Assign [.Subscript a' b' _] e _ => notSlice b' && chkE T n N sc a' o && chkE T n N sc b' k && chkE T n N sc e ie
      | _ => false)
    | .exp ie => (match st with
      | .Expr e _ => notComp e && chkE T n N sc e ie
      | _ => false)
    | .ret ie => (match st with
      | .Return (some e) _ => chkE T n N sc e ie
      | _ => false)
    | .retN => (match st with
      | .Return none _ => true
      | _ => false)
    | .ifs c a b => (match st with
      | .If c' a' b' _ => chkT T n N sc c' c && chkB n N sc a' a && chkB n N sc b' b
      | _ => false)
    | .whl c b => (match st with
      | .While c' b' [] _ => chkT T n N sc c' c && chkB n N sc b' b
      | _ => false)
    | .fors tg it b => (match st with
      | .For te ti b' [] _ => tgB N sc te tg && notSet ti && chkI T n N sc te ti it && chkB n N sc b' b
      | _ => false)
    | .rse _ _ => (match st with
      | .Raise _ _ _ => true
      | _ => false)
    | .pass => (match st with
      | .Pass _ => true
      | _ => false)
    | _ => false
def chkB : Nat → List Str → Scope → List Stmt → IB → Bool
  | 0, _, _, _, _ => false
  | n + 1, N, sc, l, b => match l, b with
    | [], .nil => true
    | st :: l, .cons i b => chkS n N sc st i && chkB n N sc l b
    | _, _ => false
end
end Vm
set_option Elab.async false
set_option linter.all false
set_option maxRecDepth 100000
set_option maxHeartbeats 4000000
/-! The check is right. -/
namespace Vm
open PySem L2
structure CtF (X : Cx) (D : Wd) (T : Tb) (lv : Nat) : Prop where
  bi : ∀ x, T.bi.contains x = true → X.mg x = none
  gl : ∀ x w, T.gl x = some w → ∃ v u, X.mg x = some u ∧ RelV v u ∧ (∀ io H, Rep X.K X.mg io H w v) ∧ D.gl x = some w
  fn : ∀ f d, T.fn f = some d → ∃ fa fd ps F, X.mg f = some (.ref fa) ∧ PySem.W.keepIn X.K (.ref fa) = true ∧ FnOk X.prog X.w X.K X.mg X.base (L2.CX X.prog X.w) lv fa fd ps (spRun X.K X.mg d.np F) ∧ DefOk X.K fd ps d ∧ ∀ ws s, D.fe Str.empty f ws s = callD d F ws s
  cl : ∀ c d, T.cl c = some d → ∃ C fa fd ps F, X.mg c = some (.ref C) ∧ Mk X.K C fa ∧ Cls X.K C ∧ FnOk X.prog X.w X.K X.mg X.base (L2.CX X.prog X.w) lv fa fd ps (spRun X.K X.mg d.np F) ∧ DefOk X.K fd ps d ∧ ∀ ws s, D.fe Str.empty c ws s = clsD c (callD d F) ws s
  mt : ∀ c m d, T.mt c m = some d → ∃ C fa fd ps F, X.mg c = some (.ref C) ∧ Cls X.K C ∧ Meth X.K C m fa ∧ FnOk X.prog X.w X.K X.mg X.base (L2.CX X.prog X.w) lv fa fd ps (spRun X.K X.mg d.np F) ∧ DefOk X.K fd ps d ∧ ∀ ws s, D.fe c m ws s = callD d F ws s
  fl : FlOk X.K X.mg D.fl
  eq : ∀ c, T.eq.contains c = true → ∃ C fa, OwnC X D lv c C fa
  isc : ∀ c, T.isc.contains c = true → ∃ C, IsoC X T.isc c C
structure ScR (E sc : Scope) : Prop where
  lo : ∀ x, sc.names.lookup x = some .local → E.names.lookup x = some .local
  ce : ∀ x, sc.names.lookup x = some .cell → E.names.lookup x = some .cell
  gi : ∀ x, sc.names.lookup x = some .globalImplicit → E.names.lookup x = some .globalImplicit
  fr : ∀ x, sc.names.lookup x = some .free → E.names.lookup x = some .cell ∨ E.names.lookup x = some .free
theorem relab_look0 {g : Str × NameKind → Str × NameKind} (hg : ∀ p, (g p).1 = p.1 ∧ ((g p).2 = p.2 ∨ (p.2 = .free ∧ (g p).2 = .cell))) {k0 : NameKind} : ∀ {names : List (Str × NameKind)} {x : Str}, names.lookup x = some k0 →
    (names.map g).lookup x = some k0 ∨ (k0 = .free ∧ (names.map g).lookup x = some .cell)
  | [], _, h => by cases h
  | (m, k) :: names, x, h => by
    have hp := hg (m, k)
    rw [List.map_cons]
    generalize g (m, k) = q at hp ⊢
    obtain ⟨m', k'⟩ := q
    obtain ⟨h1, h2⟩ := hp
    cases h1
    rw [List.lookup_cons] at h
    cases hx : x == m with
    | true =>
      rw [hx] at h
      cases h
      have h2 : k' = k0 ∨ k0 = .free ∧ k' = .cell := h2
      rcases h2 with h2 | h2
      · left; rw [List.lookup_cons, hx, h2]
      · right; refine ⟨h2.1, ?_⟩; rw [List.lookup_cons, hx, h2.2]
    | false =>
      rw [hx] at h
      have ih := relab_look0 hg h
      rw [List.lookup_cons, hx]
      exact ih
theorem relab_look {env : Env} {sc : Scope} {k0 : NameKind} {x : Str} (h : sc.names.lookup x = some k0) : (relabel sc env).names.lookup x = some k0 ∨ (k0 = .free ∧ (relabel sc env).names.lookup x = some .cell) := by
  unfold relabel
  refine relab_look0 (fun p => ?_) h
  obtain ⟨m, k⟩ := p
  show (ite _ _ _ : Str × NameKind).1 = m ∧ ((ite _ _ _ : Str × NameKind).2 = k ∨ (k = .free ∧ (ite _ _ _ : Str × NameKind).2 = .cell))
  by_cases hk : (k == .free && env.scope.kind == .function && env.kindOf m == some .cell) = true
  · rw [if_pos hk]
    rw [Bool.and_eq_true, Bool.and_eq_true] at hk
    exact ⟨rfl, .inr ⟨eq_of_beq hk.1.1, rfl⟩⟩
  · rw [if_neg hk]
    exact ⟨rfl, .inl rfl⟩
theorem scr_relab {env : Env} {sc : Scope} : ScR (relabel sc env) sc where
  lo := fun x h => (relab_look h).elim id fun k => by cases k.1
  ce := fun x h => (relab_look h).elim id fun k => by cases k.1
  gi := fun x h => (relab_look h).elim id fun k => by cases k.1
  fr := fun x h => (relab_look h).elim .inr fun k => .inl k.2
structure Ct (X : Cx) (D : Wd) (Wx : WX) (T : Tb) (lv : Nat) (N : List Str) (sc : Scope) : Prop where
  hN : X.N = N
  nd : X.N.Nodup
  hsc : ScR X.env.scope sc
  kind : X.env.scope.kind = .function
  calm : X.calm = true
  tk : Takes X Wx
  fw : Flat Wx
  po : PassesOwn (model X.prog X.w) X.A X.env X.xe
  hu : X.A.units + 64 < cLine
  room : Room (lv + 5) X.A
  fn_ : ∀ x, sc.names.lookup x = some .cell → X.fn x = true
  f : CtF X D T lv
section
variable {X : Cx} {D : Wd} {Wx : WX} {T : Tb} {lv : Nat} {N : List Str} {sc : Scope}
theorem Ct.ix (c : Ct X D Wx T lv N sc) {k : Nat} {x : Str} (h : N[k]? = some x) : X.N[k]? = some x := by rw [c.hN]; exact h
theorem Ct.vis (c : Ct X D Wx T lv N sc) {x : Str} (h : visB sc x = true) : Vis X.env.scope x := by
  unfold visB at h
  split at h
  · exact .inl (c.hsc.lo _ (by assumption))
  · exact .inr (.inl (c.hsc.ce _ (by assumption)))
  · rcases c.hsc.fr _ (by assumption) with k | k
    · exact .inr (.inl k)
    · exact .inr (.inr k)
  · cases h
theorem Ct.loc (c : Ct X D Wx T lv N sc) {x : Str} (h : locB sc x = true) : Loc X.env.scope x := by
  unfold locB at h
  split at h
  · exact .inl (c.hsc.lo _ (by assumption))
  · exact .inr (c.hsc.ce _ (by assumption))
  · cases h
theorem Ct.locF (c : Ct X D Wx T lv N sc) {x : Str} (h : locB sc x = true) : X.fn x = true ∨ X.env.scope.names.lookup x = some .local := by
  unfold locB at h
  split at h
  · exact .inr (c.hsc.lo _ (by assumption))
  · exact .inl (c.fn_ x (by assumption))
  · cases h
theorem Ct.glb (c : Ct X D Wx T lv N sc) {x : Str} (h : glB sc x = true) : Gl X x := by
  show X.env.scope.names.lookup x = some .globalImplicit
  unfold glB at h
  split at h
  · exact c.hsc.gi _ (by assumption)
  · cases h
theorem Ct.blkOk (c : Ct X D Wx T lv N sc) {scope : Scope} {own : List (Str × Nat)} (h : BlkOk N sc scope own) : BlkOk X.N X.env.scope scope own := by
  rw [c.hN]
  exact ⟨h.kind, h.uniq, h.ix, fun y hy hf => by
    rcases h.free y hy hf with k | k
    · exact .inl (c.hsc.ce _ k)
    · exact c.hsc.fr _ k, h.own⟩
theorem lcl_of {x : Str} (h : lclB sc x = true) : sc.names.lookup x = some .local := by
  unfold lclB at h
  split at h
  · assumption
  · cases h
theorem cel_of {x : Str} (h : celB sc x = true) : sc.names.lookup x = some .cell := by
  unfold celB at h
  split at h
  · assumption
  · cases h
theorem nm_of {x : Str} (h : nmOk x = true) : (x == ("__debug__" : Str)) = false ∧ (x == ("__classdict__" : Str)) = false ∧ x ≠ "__name__" := by
  unfold nmOk at h
  simp only [Bool.and_eq_true, Bool.not_eq_true'] at h
  exact ⟨h.1.1, h.1.2, by simpa using h.2⟩
theorem arg_of {d : Fd} {k : Nat} (h : argB d k = true) : k ≤ d.np ∧ d.np - k ≤ d.dfl.length := of_decide_eq_true h
/-- a comprehension's block -/
theorem Ct.blk (c : Ct X D Wx T lv N sc) {scope : Scope} (hk : scope.kind = .function) (s : Shared) (H : Hp) (C : Addr) (cl : List (Str × Addr)) (fp : List Addr) : Ct (X.blk s H scope (compEnvC scope cl C X.env) fp) D WxF T lv N scope where
  hN := c.hN
  nd := c.nd
  hsc := scr_relab
  kind := hk
  calm := c.calm
  tk := takes0
  fw := fun _ _ _ _ _ h => h
  po := PassesOwn.never
  hu := c.hu
  room := c.room
  fn_ := fun x h => by
    show (scope.names.lookup x == some .cell) = true
    rw [h]
    rfl
  f := ⟨c.f.bi, c.f.gl, c.f.fn, c.f.cl, c.f.mt, c.f.fl, fun k h => let ⟨C, fa, o⟩ := c.f.eq k h; ⟨C, fa, o.mg, o.cls, o.mt, o.ne, o.run⟩, fun k h => let ⟨C, o⟩ := c.f.isc k h; ⟨C, o.mg, o.ha, o.hn, o.tk, o.ty, o.pr⟩⟩
theorem con_pe {c : Const} {w : W} {k : Nat} {pos : Pos} (h : conB c w = true) : PV X D Wx (.Constant c k pos) (.con w) := by
  unfold conB at h
  split at h
  · exact pv_con pe_non fun _ _ => .non
  · cases of_decide_eq_true h; exact pv_con pe_bl fun _ _ => .bl _
  · cases of_decide_eq_true h; exact pv_con pe_int fun _ _ => .int _
  · cases of_decide_eq_true h; exact pv_con pe_str fun _ _ => .str _
  · cases h
theorem pv_neg {a : Expr} {ia : IE} {pos : Pos} (h : PV X D Wx a ia) : PV X D Wx (.UnaryOp .USub a pos) (.neg ia) :=
  peMono (pe_un un_neg h) fun σ H Q ⟨io, S, r, s, e, p⟩ => by
    rw [den] at p
    refine ⟨io, S, r, s, e, p.bind fun x S1 io1 v H1 _ x1 s1 r1 p1 => ?_⟩
    cases r1 with
    | int i => exact ⟨i, rfl, p1.now s1 (.int _)⟩
    | _ => exact p1.elim
theorem tgs_ok (c : Ct X D Wx T lv N sc) : ∀ {es : List Expr} {l : List Nat}, noStars es = true → es.length = l.length → ((es.zip l).all fun p => match p.1 with
    | .Name x _ => decide (N[p.2]? = some x) && locB sc x
    | _ => false) = true → PGs X es (gAll l)
  | [], [], _, _, _ => pgs_nil
  | e :: es, k :: l, hs, hl, h => by
    rw [List.zip_cons_cons, List.all_cons, Bool.and_eq_true] at h
    obtain ⟨h1, h2⟩ := h
    have hs2 : noStars es = true := by unfold noStars at hs ⊢; rw [List.all_cons, Bool.and_eq_true] at hs; exact hs.2
    have ih := tgs_ok c hs2 (by simpa using hl) h2
    cases e with
    | Name x p =>
      have h1 : (decide (N[k]? = some x) && locB sc x) = true := h1
      rw [Bool.and_eq_true] at h1
      exact pgsv_cons (e := .Name x p) hs c.nd (c.ix (of_decide_eq_true h1.1)) (c.loc h1.2) (c.locF h1.2) ih
    | _ => cases h1
theorem tg_ok (c : Ct X D Wx T lv N sc) {e : Expr} {tg : Tg} (h : tgB N sc e tg = true) : PGV X e tg := by
  unfold tgB at h
  split at h
  · rw [Bool.and_eq_true] at h
    exact pgv_nm c.nd (c.ix (of_decide_eq_true h.1)) (c.loc h.2) (c.locF h.2)
  · simp only [Bool.and_eq_true] at h
    exact pgv_tp c.calm h.1.1 (of_decide_eq_true h.1.2) (tgs_ok c h.1.1 (of_decide_eq_true h.1.2) h.2)
  · cases h
theorem len_cons {l : IL} {e : Expr} {es : List Expr} : True := trivial
end
section
variable {T : Tb} {lv : Nat}
def OkE (T : Tb) (lv n : Nat) : Prop := ∀ N sc e i, chkE T n N sc e i = true → ∀ X D Wx, Ct X D Wx T lv N sc → PV X D Wx e i
def OkL (T : Tb) (lv n : Nat) : Prop := ∀ N sc es l, chkL T n N sc es l = true → ∀ X D Wx, Ct X D Wx T lv N sc → PVs X D Wx es l ∧ (es = [] → l = .nil)
def OkO (T : Tb) (lv n : Nat) : Prop := ∀ N sc o i, chkO T n N sc o i = true → ∀ X D Wx, Ct X D Wx T lv N sc → POV X D Wx o i
def OkI (T : Tb) (lv n : Nat) : Prop := ∀ N sc te e i, chkI T n N sc te e i = true → ∀ X D Wx, Ct X D Wx T lv N sc → PIV X D Wx te e i
def OkT (T : Tb) (lv n : Nat) : Prop := ∀ N sc e i, chkT T n N sc e i = true → ∀ X D Wx, Ct X D Wx T lv N sc → PTV X D Wx e i
def OkW (T : Tb) (lv n : Nat) : Prop := ∀ N sc op es i, chkW T n N sc op es i = true → ∀ X D Wx pos, Ct X D Wx T lv N sc → PWV X D Wx (.BoolOp op es pos) i
structure OkC (X : Cx) (D : Wd) (N : List Str) (elt te ti : Expr) (ifs : List Expr) (scope : Scope) (ie : IE) (tg : Tg) (it : II) (ic : IE) : Prop where
  own : ∃ own, BlkOk X.N X.env.scope scope own ∧ own.map (·.2) = tgSlots tg
  set : notSet ti = true
  hg : ∀ (s : Shared) (H : Hp) (C : Addr) (cl : List (Str × Addr)) (fp : List Addr), PGV (X.blk s H scope (compEnvC scope cl C X.env) fp) te tg
  ht : ∀ (s : Shared) (H : Hp) (C : Addr) (cl : List (Str × Addr)) (fp : List Addr), PTs (X.blk s H scope (compEnvC scope cl C X.env) fp) ifs (trT X.K X.mg WxF (test D ic))
  he : ∀ (s : Shared) (H : Hp) (C : Addr) (cl : List (Str × Addr)) (fp : List Addr), PV (X.blk s H scope (compEnvC scope cl C X.env) fp) D WxF elt ie
def OkCs (T : Tb) (lv n : Nat) : Prop := ∀ N sc elt te ti ifs scope ie tg it ic, chkC T n N sc elt te ti ifs scope ie tg it ic = true → ∀ X D Wx, Ct X D Wx T lv N sc → OkC X D N elt te ti ifs scope ie tg it ic ∧ PIV X D Wx te ti it
theorem blk_kind {N : List Str} {sc scope : Scope} {own : List (Str × Nat)} (h : blkC N sc scope own = true) : scope.kind = .function := (blkOk_by h).kind
theorem true_pts {X : Cx} {D : Wd} : PTs X [] (trT X.K X.mg WxF (test D (.con (.bl true)))) := ⟨fun pins s σ H Q I ⟨io, S, r, sm, e, p⟩ => pts_nil.run pins s σ H Q I (by
  unfold test at p
  rw [den] at p
  exact p.now sm rfl)⟩
theorem step_C {n : Nat} (hE : OkE T lv n) (hI : OkI T lv n) (hT : OkT T lv n) : OkCs T lv (n + 1) := fun N sc elt te ti ifs scope ie tg it ic h X D Wx c => by
  unfold chkC at h
  simp only [Bool.and_eq_true] at h
  obtain ⟨⟨⟨⟨⟨⟨h1, h2⟩, h3⟩, h4⟩, h5⟩, h6⟩, h7⟩ := h
  have hk := blk_kind h1
  refine ⟨⟨⟨_, c.blkOk (blkOk_by h1), of_decide_eq_true h3⟩, h4, fun s H C cl fp => tg_ok (c.blk hk s H C cl fp) h2, fun s H C cl fp => ?_, fun s H C cl fp => hE _ _ _ _ h6 _ D _ (c.blk hk s H C cl fp)⟩, hI _ _ _ _ _ h5 X D Wx c⟩
  split at h7
  · split at h7
    · exact true_pts
    · cases h7
  · exact pts_one (hT _ _ _ _ h7 _ D _ (c.blk hk s H C cl fp))
  · cases h7
theorem step_L {n : Nat} (hE : OkE T lv n) (hL : OkL T lv n) : OkL T lv (n + 1) := fun N sc es l h X D Wx c => by
  unfold chkL at h
  split at h
  · exact ⟨pvs_nil, fun _ => rfl⟩
  · simp only [Bool.and_eq_true] at h
    exact ⟨pvs_cons h.1.1 (hE _ _ _ _ h.1.2 X D Wx c) (hL _ _ _ _ h.2 X D Wx c).1, fun z => by cases z⟩
  · cases h
theorem step_O {n : Nat} (hE : OkE T lv n) : OkO T lv (n + 1) := fun N sc o i h X D Wx c => by
  unfold chkO at h
  split at h
  · split at h
    · exact pov_none
    · cases h
  · simp only [Bool.and_eq_true, Bool.not_eq_true'] at h
    exact pov_some h.1 (hE _ _ _ _ h.2 X D Wx c)
theorem step_I {n : Nat} (hE : OkE T lv n) : OkI T lv (n + 1) := fun N sc te e i h X D Wx c => by
  unfold chkI at h
  split at h
  · exact piv_val (hE _ _ _ _ h X D Wx c)
  · split at h
    · simp only [Bool.and_eq_true] at h
      obtain ⟨⟨⟨⟨h1, h2⟩, h3⟩, h4⟩, h5⟩ := h
      cases of_decide_eq_true h1
      exact piv_rng1 (c.glb h2) (c.f.bi _ h3) h4 (hE _ _ _ _ h5 X D Wx c)
    · cases h
  · split at h
    · simp only [Bool.and_eq_true] at h
      obtain ⟨⟨⟨⟨⟨⟨⟨h0, h1⟩, h2⟩, h3⟩, h4⟩, h5⟩, h6⟩, h7⟩ := h
      cases of_decide_eq_true h1
      cases te <;> first | (cases h0; done) | exact piv_zip (c.glb h2) (c.f.bi _ h3) h4 h5 (hE _ _ _ _ h6 X D Wx c) (hE _ _ _ _ h7 X D Wx c)
    · cases h
  · split at h
    · simp only [Bool.and_eq_true] at h
      obtain ⟨⟨⟨⟨⟨h0, h1⟩, h2⟩, h3⟩, h4⟩, h5⟩ := h
      cases of_decide_eq_true h1
      cases te <;> first | (cases h0; done) | exact piv_enum (c.glb h2) (c.f.bi _ h3) h4 (hE _ _ _ _ h5 X D Wx c)
    · cases h
  · cases h
theorem step_T {n : Nat} (hE : OkE T lv n) (hT : OkT T lv n) (hW : OkW T lv n) : OkT T lv (n + 1) := fun N sc e i h X D Wx c => by
  unfold chkT at h
  split at h
  · split at h
    · exact ptv_not (hT _ _ _ _ h X D Wx c)
    · cases h
  · exact PW.pt (hW _ _ _ _ _ h X D Wx _ c)
  · split at h
    · simp only [Bool.and_eq_true] at h
      obtain ⟨⟨⟨h1, h2⟩, h3⟩, h4⟩ := h
      cases of_decide_eq_true h1
      exact ptv_cmp c.hu h2 (hE _ _ _ _ h3 X D Wx c) (hE _ _ _ _ h4 X D Wx c)
    · simp only [Bool.and_eq_true] at h
      obtain ⟨⟨⟨⟨h1, h0⟩, h2⟩, h3⟩, h4⟩ := h
      cases of_decide_eq_true h1
      exact ptv_ceq (fun k hk => c.f.eq k (List.all_eq_true.mp h0 k hk)) c.tk c.fw (c.room.mono (by omega)) c.hu h2 (hE _ _ _ _ h3 X D Wx c) (hE _ _ _ _ h4 X D Wx c)
    · cases h
  · split at h
    · simp only [Bool.and_eq_true] at h
      obtain ⟨⟨⟨⟨⟨h1, h1b⟩, h2⟩, h3⟩, h4⟩, h5⟩ := h
      cases of_decide_eq_true h1
      cases of_decide_eq_true h1b
      exact ptv_chn c.hu h2 (hE _ _ _ _ h3 X D Wx c) (hE _ _ _ _ h4 X D Wx c) (hE _ _ _ _ h5 X D Wx c)
    · cases h
  · simp only [Bool.and_eq_true] at h
    exact ptv_plain (hE _ _ _ _ h.2 X D Wx c) (plain_of h.1)
theorem step_W {n : Nat} (hT : OkT T lv n) (hW : OkW T lv n) : OkW T lv (n + 1) := fun N sc op es i h X D Wx pos c => by
  unfold chkW at h
  split at h
  · cases op with
    | And => exact pwv_and1 (hT _ _ _ _ h X D Wx c)
    | Or => exact pwv_or1 (hT _ _ _ _ h X D Wx c)
  · split at h
    · simp only [Bool.and_eq_true] at h
      exact pwv_and (hT _ _ _ _ h.1 X D Wx c) (hW _ _ _ _ _ h.2 X D Wx _ c)
    · simp only [Bool.and_eq_true] at h
      exact pwv_or (hT _ _ _ _ h.1 X D Wx c) (hW _ _ _ _ _ h.2 X D Wx _ c)
    · cases h
  · cases h
theorem step_E {n : Nat} (hE : OkE T lv n) (hL : OkL T lv n) (hO : OkO T lv n) (hT : OkT T lv n) (hC : OkCs T lv n) : OkE T lv (n + 1) := fun N sc e i h X D Wx c => by
  unfold chkE at h
  split at h
  · -- var
    split at h
    · simp only [Bool.and_eq_true] at h
      exact pv_var (c.ix (of_decide_eq_true h.1.1)) (c.vis h.1.2) (nm_of h.2).1 (nm_of h.2).2.1
    · cases h
  · -- con
    split at h
    · exact con_pe h
    · cases h
  · -- glo
    split at h
    · simp only [Bool.and_eq_true] at h
      obtain ⟨⟨⟨h1, h2⟩, h3⟩, h4⟩ := h
      cases of_decide_eq_true h1
      obtain ⟨w, hw⟩ := Option.isSome_iff_exists.mp h3
      obtain ⟨v, u, g1, g2, g3, g4⟩ := c.f.gl _ w hw
      exact pv_glo (pe_glob (c.glb h2) g1 g2 (nm_of h4).1) fun w' hw' io H => by rw [g4] at hw'; cases hw'; exact g3 io H
    · cases h
  · -- bin
    split at h
    · simp only [Bool.and_eq_true] at h
      cases of_decide_eq_true h.1.1
      exact pv_bin (hE _ _ _ _ h.1.2 X D Wx c) (hE _ _ _ _ h.2 X D Wx c)
    · cases h
  · -- not
    split at h
    · exact pv_not (hE _ _ _ _ h X D Wx c)
    · cases h
  · -- neg
    split at h
    · exact pv_neg (hE _ _ _ _ h X D Wx c)
    · cases h
  · -- and
    split at h
    · simp only [Bool.and_eq_true] at h
      exact pv_and (hE _ _ _ _ h.1 X D Wx c) (pv_one (hE _ _ _ _ h.2 X D Wx c))
    · simp only [Bool.and_eq_true] at h
      exact pv_and (hE _ _ _ _ h.1 X D Wx c) (hE _ _ _ _ h.2 X D Wx c)
    · cases h
  · -- or
    split at h
    · simp only [Bool.and_eq_true] at h
      exact pv_or (hE _ _ _ _ h.1 X D Wx c) (pv_one (hE _ _ _ _ h.2 X D Wx c))
    · simp only [Bool.and_eq_true] at h
      exact pv_or (hE _ _ _ _ h.1 X D Wx c) (hE _ _ _ _ h.2 X D Wx c)
    · cases h
  · -- ite
    split at h
    · simp only [Bool.and_eq_true] at h
      exact pv_ite (hT _ _ _ _ h.1.1 X D Wx c) (hE _ _ _ _ h.1.2 X D Wx c) (hE _ _ _ _ h.2 X D Wx c)
    · cases h
  · -- cmp
    split at h
    · simp only [Bool.and_eq_true] at h
      obtain ⟨⟨⟨h1, h2⟩, h3⟩, h4⟩ := h
      cases of_decide_eq_true h1
      exact pv_cmp c.hu h2 (hE _ _ _ _ h3 X D Wx c) (hE _ _ _ _ h4 X D Wx c)
    · cases h
  · -- chn
    split at h
    · simp only [Bool.and_eq_true] at h
      obtain ⟨⟨⟨⟨⟨h1, h1b⟩, h2⟩, h3⟩, h4⟩, h5⟩ := h
      cases of_decide_eq_true h1
      cases of_decide_eq_true h1b
      exact pv_chn c.hu h2 (hE _ _ _ _ h3 X D Wx c) (hE _ _ _ _ h4 X D Wx c) (hE _ _ _ _ h5 X D Wx c)
    · cases h
  · -- tup
    split at h
    · exact pv_tup (hL _ _ _ _ h X D Wx c).1
    · cases h
  · -- lst
    split at h
    · exact pv_lst (hL _ _ _ _ h X D Wx c).1
    · cases h
  · -- idx
    split at h
    · simp only [Bool.and_eq_true] at h
      exact pv_idx h.1.1 (hE _ _ _ _ h.1.2 X D Wx c) (hE _ _ _ _ h.2 X D Wx c)
    · cases h
  · -- slc
    split at h
    · simp only [Bool.and_eq_true] at h
      exact pv_slc (hE _ _ _ _ h.1.1 X D Wx c) (hO _ _ _ _ h.1.2 X D Wx c) (hO _ _ _ _ h.2 X D Wx c)
    · cases h
  · -- fld
    split at h
    · simp only [Bool.and_eq_true] at h
      cases of_decide_eq_true h.1.1
      exact pv_fld h.1.2 (hE _ _ _ _ h.2 X D Wx c)
    · cases h
  · -- call
    split at h
    · simp only [Bool.and_eq_true] at h
      obtain ⟨⟨⟨⟨⟨h1, h2⟩, h3⟩, h4⟩, h5⟩, h6⟩ := h
      cases of_decide_eq_true h1
      have ha := (hL _ _ _ _ h5 X D Wx c).1
      split at h6
      · rename_i d hd
        obtain ⟨fa, fd, ps, F, g1, g2, g3, g4, g5⟩ := c.f.fn _ d hd
        exact pv_call g3 g4 (c.room.mono (by omega)) c.tk (c.glb h2) g1 g2 (nm_of h3).1 (arg_of h6) g5 h4 ha
      · split at h6
        · rename_i d hd
          obtain ⟨C, fa, fd, ps, F, g1, g2, g3, g4, g5, g6⟩ := c.f.cl _ d hd
          exact pv_make g2 g3 g4 g5 (c.room.mono (by omega)) c.tk c.fw (c.glb h2) g1 (nm_of h3).1 (arg_of h6) g6 h4 ha
        · cases h6
    · cases h
  · -- bi
    split at h
    · simp only [Bool.and_eq_true] at h
      obtain ⟨⟨⟨⟨⟨h1, h2⟩, h3⟩, h4⟩, h5⟩, h6⟩ := h
      cases of_decide_eq_true h1
      unfold noStars at h5
      rw [List.all_cons, Bool.and_eq_true] at h5
      exact pv_bi c.calm h2 (c.glb h3) (c.f.bi _ h4) h5.1 (nostar_any h5.2) (hL _ _ _ _ h6 X D Wx c).1
    · cases h
  · -- isi
    split at h
    · simp only [Bool.and_eq_true] at h
      obtain ⟨⟨⟨⟨⟨⟨⟨⟨h1, h2⟩, h3⟩, h4⟩, h5⟩, h6⟩, h7⟩, h8⟩, h9⟩ := h
      cases of_decide_eq_true h1
      cases of_decide_eq_true h2
      obtain ⟨b, hb⟩ := Option.isSome_iff_exists.mp h3
      exact pv_isi hb (c.glb h4) (c.f.bi _ h5) (c.glb h6) (c.f.bi _ h7) h8 (hE _ _ _ _ h9 X D Wx c)
    · cases h
  · -- meth
    split at h
    · simp only [Bool.and_eq_true, Bool.or_eq_true] at h
      obtain ⟨⟨⟨⟨⟨⟨⟨h1, h2⟩, h3⟩, h4⟩, h5⟩, h6⟩, h7⟩, h8⟩ := h
      cases of_decide_eq_true h1
      have ha := hE _ _ _ _ h7 X D Wx c
      have hl := (hL _ _ _ _ h8 X D Wx c).1
      rcases h2 with h2 | h2
      · cases of_decide_eq_true h2
        exact pv_append h3 h4 h5 (of_decide_eq_true h6) ha hl
      · cases of_decide_eq_true h2
        exact pv_insert h3 h4 h5 (of_decide_eq_true h6) ha hl
    · cases h
  · -- omt
    split at h
    · simp only [Bool.and_eq_true] at h
      obtain ⟨⟨⟨⟨⟨⟨⟨h1, h2⟩, h3⟩, h4⟩, h5⟩, h6⟩, h7⟩, h8⟩ := h
      cases of_decide_eq_true h1
      have ha := hE _ _ _ _ h6 X D Wx c
      obtain ⟨hl, hn⟩ := hL _ _ _ _ h7 X D Wx c
      split at h8
      · rename_i d hd
        obtain ⟨C, fa, fd, ps, F, g1, g2, g3, g4, g5, g6⟩ := c.f.mt _ _ d hd
        exact pv_omt g2 g3 g4 g5 (c.room.mono (by omega)) c.tk c.fw g1 (arg_of h8) g6 h2 h3 h4 (of_decide_eq_true h5) hn ha hl
      · cases h8
    · cases h
  · -- ceq
    split at h
    · simp only [Bool.and_eq_true] at h
      obtain ⟨⟨⟨⟨h1, h0⟩, h2⟩, h3⟩, h4⟩ := h
      cases of_decide_eq_true h1
      exact pv_ceq (fun k hk => c.f.eq k (List.all_eq_true.mp h0 k hk)) c.tk c.fw (c.room.mono (by omega)) c.hu h2 (hE _ _ _ _ h3 X D Wx c) (hE _ _ _ _ h4 X D Wx c)
    · cases h
  · -- iso
    split at h
    · simp only [Bool.and_eq_true] at h
      obtain ⟨⟨⟨⟨⟨⟨⟨⟨⟨h1, h2⟩, h3⟩, h4⟩, h5⟩, h6⟩, h7⟩, h7b⟩, h8⟩, h9⟩ := h
      cases of_decide_eq_true h1
      cases of_decide_eq_true h2
      cases of_decide_eq_true h3
      exact pv_iso (fun k hk => c.f.isc k (List.contains_iff_mem.mpr hk)) (List.contains_iff_mem.mp h4) (c.glb h5) (c.f.bi _ h6) (c.glb h7) (nm_of h7b).1 h8 (hE _ _ _ _ h9 X D Wx c)
    · cases h
  · -- lc
    split at h
    · obtain ⟨k, hi⟩ := hC _ _ _ _ _ _ _ _ _ _ _ h X D Wx c
      obtain ⟨own, ok, ho⟩ := k.own
      exact pv_lc c.calm c.nd hi ok ho k.hg k.ht k.he k.set
    · cases h
  · cases h
theorem chk_all (n : Nat) : OkE T lv n ∧ OkL T lv n ∧ OkO T lv n ∧ OkI T lv n ∧ OkT T lv n ∧ OkW T lv n ∧ OkCs T lv n := by
  induction n with
  | zero =>
    refine ⟨?_, ?_, ?_, ?_, ?_, ?_, ?_⟩
    · intro N sc e i h; unfold chkE at h; cases h
    · intro N sc e i h; unfold chkL at h; cases h
    · intro N sc e i h; unfold chkO at h; cases h
    · intro N sc t e i h; unfold chkI at h; cases h
    · intro N sc e i h; unfold chkT at h; cases h
    · intro N sc o e i h; unfold chkW at h; cases h
    · intro N sc a b c d e f g h i h; unfold chkC at h; cases h
  | succ n ih =>
    obtain ⟨hE, hL, hO, hI, hT, hW, hC⟩ := ih
    exact ⟨step_E hE hL hO hT hC, step_L hE hL, step_O hE, step_I hE, step_T hE hT hW, step_W hT hW, step_C hE hI hT⟩
end
end Vm
set_option Elab.async false
set_option linter.all false
set_option maxRecDepth 100000
set_option maxHeartbeats 4000000
/-! The check of statements is right. -/
namespace Vm
open PySem L2
section
variable {T : Tb} {lv : Nat}
def OkS (T : Tb) (lv n : Nat) : Prop := ∀ N sc st i, chkS T n N sc st i = true → ∀ X D Wx, Ct X D Wx T lv N sc → PSV X D Wx st i
def OkB (T : Tb) (lv n : Nat) : Prop := ∀ N sc l b, chkB T n N sc l b = true → ∀ X D Wx, Ct X D Wx T lv N sc → PSVs X D Wx l b
theorem step_B {n : Nat} (hS : OkS T lv n) (hB : OkB T lv n) : OkB T lv (n + 1) := fun N sc l b h X D Wx c => by
  unfold chkB at h
  split at h
  · exact psv_nil
  · simp only [Bool.and_eq_true] at h
    exact psv_cons (hS _ _ _ _ h.1 X D Wx c) (hB _ _ _ _ h.2 X D Wx c)
  · cases h
theorem step_S {n : Nat} (hS : OkS T lv n) (hB : OkB T lv n) : OkS T lv (n + 1) := fun N sc st i h X D Wx c => by
  obtain ⟨hE, hL, hO, hI, hT, hW, hC⟩ := chk_all (T := T) (lv := lv) n
  unfold chkS at h
  split at h
  · -- asg
    split at h
    · simp only [Bool.and_eq_true, Bool.or_eq_true] at h
      obtain ⟨⟨h1, h2⟩, h3⟩ := h
      rcases h3 with h3 | h3
      · exact psv_asg c.nd (c.ix (of_decide_eq_true h1)) (c.loc h2) (c.locF h2) (comp_of h3.1) (hE _ _ _ _ h3.2 X D Wx c)
      · split at h3
        · simp only [Bool.and_eq_true, Bool.or_eq_true] at h3
          rcases h3 with h3 | h3
          · exact psv_asg c.nd (c.ix (of_decide_eq_true h1)) (c.loc h2) (c.locF h2) (sw_cell (c.hsc.ce _ (cel_of h3.1))) (hE _ _ _ _ h3.2 X D Wx c)
          · obtain ⟨⟨⟨h4, h5⟩, h6⟩, h7⟩ := h3
            split at h7
            · obtain ⟨k, hi⟩ := hC _ _ _ _ _ _ _ _ _ _ _ h7 X D Wx c
              obtain ⟨own, ok, ho⟩ := k.own
              exact psv_lc c.calm c.kind c.nd (c.ix (of_decide_eq_true h1)) (c.hsc.lo _ (lcl_of h4)) h5 (by simpa using h6) hi ok ho k.hg k.ht k.he k.set
            · cases h7
        · cases h3
    · cases h
  · -- asgT
    split at h
    · simp only [Bool.and_eq_true] at h
      obtain ⟨⟨h1, h2⟩, h3⟩ := h
      unfold tgB at h2
      simp only [Bool.and_eq_true] at h2
      exact psv_asgT c.calm h1 h2.1.1 (of_decide_eq_true h2.1.2) (tgs_ok c h2.1.1 (of_decide_eq_true h2.1.2) h2.2) (hE _ _ _ _ h3 X D Wx c)
    · cases h
  · -- par
    split at h
    · simp only [Bool.and_eq_true, Bool.not_eq_true'] at h
      obtain ⟨⟨⟨⟨⟨⟨⟨⟨⟨⟨⟨⟨h1, h2⟩, h3⟩, h4⟩, h5⟩, h6⟩, h7⟩, h8⟩, h9⟩, h10⟩, h11⟩, h12⟩, h13⟩ := h
      exact psv_par c.calm c.kind c.nd (c.ix (of_decide_eq_true h1)) (c.ix (of_decide_eq_true h2)) (of_decide_eq_true h3) (c.hsc.lo _ (lcl_of h4)) (c.hsc.lo _ (lcl_of h5)) (of_decide_eq_true h6) h7 h8 h9 h10 h11 (hE _ _ _ _ h12 X D Wx c) (hE _ _ _ _ h13 X D Wx c)
    · cases h
  · -- sfld
    split at h
    · simp only [Bool.and_eq_true] at h
      cases of_decide_eq_true h.1.1
      exact psv_sfld c.f.fl (hE _ _ _ _ h.1.2 X D Wx c) (hE _ _ _ _ h.2 X D Wx c)
    · cases h
  · -- ssub
    split at h
    · simp only [Bool.and_eq_true] at h
      exact psv_ssub h.1.1.1 (hE _ _ _ _ h.1.1.2 X D Wx c) (hE _ _ _ _ h.1.2 X D Wx c) (hE _ _ _ _ h.2 X D Wx c)
    · cases h
  · split at h
    · simp only [Bool.and_eq_true] at h
      exact psv_exp h.1 (hE _ _ _ _ h.2 X D Wx c)
    · cases h
  · split at h
    · exact psv_ret (hE _ _ _ _ h X D Wx c)
    · cases h
  · split at h
    · exact psv_retN
    · cases h
  · split at h
    · simp only [Bool.and_eq_true] at h
      exact psv_ifs (hT _ _ _ _ h.1.1 X D Wx c) (hB _ _ _ _ h.1.2 X D Wx c) (hB _ _ _ _ h.2 X D Wx c)
    · cases h
  · split at h
    · simp only [Bool.and_eq_true] at h
      exact psv_whl c.po (hT _ _ _ _ h.1 X D Wx c) (hB _ _ _ _ h.2 X D Wx c)
    · cases h
  · split at h
    · simp only [Bool.and_eq_true] at h
      exact psv_fors c.po c.calm h.1.1.2 (hI _ _ _ _ _ h.1.2 X D Wx c) (tg_ok c h.1.1.1) (hB _ _ _ _ h.2 X D Wx c)
    · cases h
  · exact psv_rse
  · split at h
    · exact psv_pass
    · cases h
  · cases h
theorem chk_st (n : Nat) : OkS T lv n ∧ OkB T lv n := by
  induction n with
  | zero =>
    refine ⟨?_, ?_⟩
    · intro N sc e i h; unfold chkS at h; cases h
    · intro N sc e i h; unfold chkB at h; cases h
  | succ n ih => exact ⟨step_S ih.1 ih.2, step_B ih.1 ih.2⟩
end
end Vm
set_option Elab.async false
set_option linter.all false
set_option maxRecDepth 100000
set_option maxHeartbeats 4000000
/-! A text whose defs are checked: each call does what run says. -/
namespace Vm
open PySem L2
/-- run's table from the checker's -/
def tabOf (T : Tb) : Str → Str → Option Te := fun c f => if c = Str.empty then (match T.fn f with
    | some d => some (.fn d)
    | none => if (T.cl f).isSome then some .cls else none)
  else if f = "__init__" then (T.cl c).map .fn else (T.mt c f).map .fn
section
variable {P : Program} {w : World} {K : Fg} {mg : Mg} {base : Heap} {T : Tb} {fl : Str → List Str}
structure DefE (K : Fg) (T : Tb) (fa : Addr) (fd : FuncData) (ps : List Str) (d : Fd) : Prop where
  ex : ∃ (x qual : Str) (params : Arguments) (body : List Stmt) (scope : Scope) (dvs : List V) (kws : List (Str × V)) (N : List Str) (fuel : Nat), FunD K x qual params body scope dvs kws fa fd ∧ FnScope N ps scope ∧ N.length = d.ns ∧ chkB T fuel N scope body d.body = true
  dk : DefOk K fd ps d
structure ModF (K : Fg) (mg : Mg) (T : Tb) (fl : Str → List Str) : Prop where
  bi : ∀ x, T.bi.contains x = true → mg x = none
  gl : ∀ x w, T.gl x = some w → ∃ v u, mg x = some u ∧ RelV v u ∧ ∀ io H, Rep K mg io H w v
  fn : ∀ f d, T.fn f = some d → ∃ fa fd ps, mg f = some (.ref fa) ∧ PySem.W.keepIn K (.ref fa) = true ∧ DefE K T fa fd ps d
  cl : ∀ c d, T.cl c = some d → T.fn c = none ∧ c ≠ Str.empty ∧ ∃ C fa fd ps, mg c = some (.ref C) ∧ Mk K C fa ∧ Cls K C ∧ DefE K T fa fd ps d
  mt : ∀ c m d, T.mt c m = some d → c ≠ Str.empty ∧ m ≠ "__init__" ∧ ∃ C fa fd ps, mg c = some (.ref C) ∧ Cls K C ∧ Meth K C m fa ∧ DefE K T fa fd ps d
  fl : FlOk K mg fl
  eq : ∀ c, T.eq.contains c = true → ∃ d, T.mt c "__eq__" = some d ∧ d.np = 2 ∧ ∃ C, mg c = some (.ref C) ∧ PySem.W.findIn K (.ref C) "__ne__" = some (some (.builtin "object.__ne__"))
  isc : ∀ (X : Cx), X.K = K → X.mg = mg → ∀ c, T.isc.contains c = true → ∃ C, IsoC X T.isc c C
/-- what the def d does with n calls more -/
noncomputable def Fn (T : Tb) (fl : Str → List Str) : Nat → Fd → List W → Vs → Out W
  | 0, _ => fun _ _ => .err
  | n + 1, d => runB ⟨run (tabOf T) T.gl fl n, T.gl, fl⟩ d
theorem callD_err {d : Fd} {ws : List W} {s : Vs} : callD d (fun _ _ => .err) ws s = .err := by
  unfold callD
  split <;> rfl
theorem run_fn_eq {f : Str} {d : Fd} (h : T.fn f = some d) : ∀ n ws s, run (tabOf T) T.gl fl n Str.empty f ws s = callD d (Fn T fl n d) ws s
  | 0, ws, s => by rw [run]; exact callD_err.symm
  | n + 1, ws, s => by
    have e : tabOf T Str.empty f = some (.fn d) := by unfold tabOf; rw [if_pos rfl, h]
    rw [run, e]
    rfl
theorem run_init_eq {c : Str} {d : Fd} (h : T.cl c = some d) (hc : c ≠ Str.empty) : ∀ n ws s, run (tabOf T) T.gl fl n c "__init__" ws s = callD d (Fn T fl n d) ws s
  | 0, ws, s => by rw [run]; exact callD_err.symm
  | n + 1, ws, s => by
    have e : tabOf T c "__init__" = some (.fn d) := by unfold tabOf; rw [if_neg hc, if_pos rfl, h]; rfl
    rw [run, e]
    rfl
theorem run_mt_eq {c m : Str} {d : Fd} (h : T.mt c m = some d) (hc : c ≠ Str.empty) (hm : m ≠ "__init__") : ∀ n ws s, run (tabOf T) T.gl fl n c m ws s = callD d (Fn T fl n d) ws s
  | 0, ws, s => by rw [run]; exact callD_err.symm
  | n + 1, ws, s => by
    have e : tabOf T c m = some (.fn d) := by unfold tabOf; rw [if_neg hc, if_neg hm, h]; rfl
    rw [run, e]
    rfl
theorem clsD_err {c : Str} {ws : List W} {s : Vs} : clsD c (fun _ _ => .err) ws s = .err := rfl
theorem run_cl_eq {c : Str} {d : Fd} (h : T.cl c = some d) (hf : T.fn c = none) (hc : c ≠ Str.empty) : ∀ n ws s, run (tabOf T) T.gl fl n Str.empty c ws s = clsD c (callD d (Fn T fl (n - 1) d)) ws s
  | 0, ws, s => by
    rw [run]
    unfold clsD
    rw [show callD d (Fn T fl (0 - 1) d) (W.ref s.length :: ws) (s ++ [Ob.ins c []]) = .err from callD_err]
  | n + 1, ws, s => by
    have e : tabOf T Str.empty c = some .cls := by unfold tabOf; rw [if_pos rfl, hf]; show (if _ then _ else _) = _; rw [h]; rfl
    rw [run, e]
    show (match run (tabOf T) T.gl fl n c "__init__" (.ref s.length :: ws) (s ++ [.ins c []]) with
      | .ok .non s' => Out.ok (W.ref s.length) s'
      | .exc x s' => .exc x s'
      | _ => .err) = _
    rw [run_init_eq h hc]
    unfold clsD
    rfl
theorem reps_env {io : List Addr} {H : Hp} {ws : List W} {vs : List V} (r : Reps K mg io H ws vs) (N : List Str) (k : Nat) (hk : k = N.length - vs.length) : RepE K mg io H (ws.map some ++ List.replicate k none) (L2.start N vs) where
  len := by unfold L2.start; rw [List.length_append, List.length_append, List.length_map, List.length_map, List.length_replicate, List.length_replicate, r.length, hk]
  at_ := fun i w h => by
    by_cases hi : i < ws.length
    · rw [List.getElem?_append_left (by simpa using hi), List.getElem?_map] at h
      cases e : ws[i]? with
      | none => rw [e] at h; cases h
      | some w' =>
        rw [e] at h
        cases h
        obtain ⟨v, h1, h2⟩ := r.get e
        refine ⟨v, ?_, h2⟩
        unfold L2.start
        rw [List.getElem?_append_left (by rw [List.length_map]; have := r.length; omega), List.getElem?_map, h1]
        rfl
    · rw [List.getElem?_append_right (by simpa using hi), List.getElem?_replicate] at h
      split at h <;> cases h
theorem fn_err {k : Nat} {fa : Addr} {fd : FuncData} {ps : List Str} {d : Fd} (hl : ps.length = d.np) : FnOk P w K mg base (L2.CX P w) k fa fd ps (spRun K mg d.np (fun _ _ => .err)) :=
  ⟨fun vs H Q E ⟨io, S, ws, _, _, _, p⟩ => p.elim, fun A outer s H args us vs Q E _ _ _ _ ⟨io, S, ws, _, _, _, p⟩ => p.elim⟩
/-- the rule: the body is checked -/
theorem fn_step {n lv : Nat} {fa : Addr} {fd : FuncData} {ps : List Str} {d : Fd} (hf : ∀ X : Cx, X.prog = P → X.w = w → X.K = K → X.mg = mg → X.base = base → CtF X ⟨run (tabOf T) T.gl fl n, T.gl, fl⟩ T lv) (h : DefE K T fa fd ps d) :
    FnOk P w K mg base (L2.CX P w) (lv + 6) fa fd ps (spRun K mg d.np (Fn T fl (n + 1) d)) := by
  obtain ⟨x, qual, params, body, scope, dvs, kws, N, fuel, F, S, hN, hb⟩ := h.ex
  refine F.ok S (fun vs H Q E ⟨io, S0, ws, _, r, hl, _⟩ => by rw [← r.length, hl, h.dk.len]) fun cdv A outer s H vs Q E hr ⟨io, S0, ws, sm, r, hl, p⟩ => ?_
  let X := cxOf (L2.CX P w) P w K mg base N qual scope fa cdv A outer s H E
  let Wx : WX := fun cls d _ H => E cls d H
  have c : Ct X ⟨run (tabOf T) T.gl fl n, T.gl, fl⟩ Wx T lv N scope := {
    hN := rfl
    nd := S.nd
    hsc := ⟨fun _ h => h, fun _ h => h, fun _ h => h, fun _ h => .inr h⟩
    kind := S.kind
    calm := rfl
    tk := takes_of rfl rfl rfl rfl
    fw := fun _ _ _ _ _ h => h
    po := passes_of rfl
    hu := by
      have := hr.un
      show (A.deeper (PyProof.Rows.envOfC qual scope s.heap.objs.size fa cdv)).units + 64 < cLine
      omega
    room := hr
    fn_ := fun _ _ => rfl
    f := hf X rfl rfl rfl rfl rfl }
  refine ⟨_, (chk_st fuel).2 _ _ _ _ hb X _ Wx c, io, S0, ws.map some ++ List.replicate (d.ns - d.np) none, sm, reps_env r N _ (by rw [hN, ← r.length, hl]), ?_⟩
  have p : Po K mg (fun cls d _ H' => E cls d H') (Rep K mg) (runB ⟨run (tabOf T) T.gl fl n, T.gl, fl⟩ d ws S0) io H [] Q := p
  unfold runB at p
  cases e : denB ⟨run (tabOf T) T.gl fl n, T.gl, fl⟩ d.body (ws.map some ++ List.replicate (d.ns - d.np) none) S0 with
  | nx r' s' => rw [e] at p; exact fun io' σ' H' x s1 _ => p io' .non H' x s1 .non
  | rt v s' => rw [e] at p; exact fun io' v' H' x s1 q => p io' v' H' x s1 q
  | exc y r' s' => rw [e] at p; exact fun io' σ' H' cls d x s1 _ q => p io' H' cls d x s1 q
  | bk r' s' => rw [e] at p; exact p.elim
  | ct r' s' => rw [e] at p; exact p.elim
  | err => rw [e] at p; exact p.elim
theorem eq_of {n : Nat} {lv : Nat} {X : Cx} (m : ModF X.K X.mg T fl) (c : Str) (h : T.eq.contains c = true) (h0 : ∀ (fa : Addr) (fd : FuncData) (ps : List Str) (d : Fd), DefE X.K T fa fd ps d → FnOk X.prog X.w X.K X.mg X.base (L2.CX X.prog X.w) lv fa fd ps (spRun X.K X.mg d.np (Fn T fl n d))) :
    ∃ C fa, OwnC X ⟨run (tabOf T) T.gl fl n, T.gl, fl⟩ lv c C fa := by
  obtain ⟨d, hd, hn, C, hC, hne⟩ := m.eq c h
  obtain ⟨g1, g2, C', fa, fd, ps, h1, h2, h3, h4⟩ := m.mt c "__eq__" d hd
  rw [hC] at h1
  cases h1
  exact ⟨C, fa, hC, h2, h3, hne, fd, ps, d, _, h0 fa fd ps d h4, h4.dk, hn, run_mt_eq hd g1 g2 n⟩
theorem mod_fn (m : ModF K mg T fl) : ∀ n, (∀ {fa : Addr} {fd : FuncData} {ps : List Str} {d : Fd}, DefE K T fa fd ps d → FnOk P w K mg base (L2.CX P w) (6 * n) fa fd ps (spRun K mg d.np (Fn T fl n d))) ∧
    ∀ X : Cx, X.prog = P → X.w = w → X.K = K → X.mg = mg → X.base = base → CtF X ⟨run (tabOf T) T.gl fl n, T.gl, fl⟩ T (6 * n) := by
  intro n
  induction n with
  | zero =>
    have h0 : ∀ {fa : Addr} {fd : FuncData} {ps : List Str} {d : Fd}, DefE K T fa fd ps d → FnOk P w K mg base (L2.CX P w) (6 * 0) fa fd ps (spRun K mg d.np (Fn T fl 0 d)) := fun h => fn_err h.dk.len
    refine ⟨h0, fun X e1 e2 e3 e4 e5 => ?_⟩
    subst e1 e2 e3 e4 e5
    exact {
      bi := m.bi
      gl := fun x w h => let ⟨v, u, h1, h2, h3⟩ := m.gl x w h; ⟨v, u, h1, h2, h3, h⟩
      fn := fun f d h => let ⟨fa, fd, ps, h1, h2, h3⟩ := m.fn f d h; ⟨fa, fd, ps, _, h1, h2, h0 h3, h3.dk, run_fn_eq h 0⟩
      cl := fun c d h => let ⟨g1, g2, C, fa, fd, ps, h1, h2, h3, h4⟩ := m.cl c d h; ⟨C, fa, fd, ps, _, h1, h2, h3, h0 h4, h4.dk, run_cl_eq h g1 g2 0⟩
      mt := fun c k d h => let ⟨g1, g2, C, fa, fd, ps, h1, h2, h3, h4⟩ := m.mt c k d h; ⟨C, fa, fd, ps, _, h1, h2, h3, h0 h4, h4.dk, run_mt_eq h g1 g2 0⟩
      fl := m.fl
      eq := fun c h => eq_of m c h (fun _ _ _ _ q => h0 q)
      isc := m.isc X rfl rfl }
  | succ n ih =>
    have h0 : ∀ {fa : Addr} {fd : FuncData} {ps : List Str} {d : Fd}, DefE K T fa fd ps d → FnOk P w K mg base (L2.CX P w) (6 * (n + 1)) fa fd ps (spRun K mg d.np (Fn T fl (n + 1) d)) := fun h => fn_step ih.2 h
    refine ⟨h0, fun X e1 e2 e3 e4 e5 => ?_⟩
    subst e1 e2 e3 e4 e5
    exact {
      bi := m.bi
      gl := fun x w h => let ⟨v, u, h1, h2, h3⟩ := m.gl x w h; ⟨v, u, h1, h2, h3, h⟩
      fn := fun f d h => let ⟨fa, fd, ps, h1, h2, h3⟩ := m.fn f d h; ⟨fa, fd, ps, _, h1, h2, h0 h3, h3.dk, run_fn_eq h (n + 1)⟩
      cl := fun c d h => let ⟨g1, g2, C, fa, fd, ps, h1, h2, h3, h4⟩ := m.cl c d h; ⟨C, fa, fd, ps, _, h1, h2, h3, (ih.1 h4).mono (by omega), h4.dk, run_cl_eq h g1 g2 (n + 1)⟩
      mt := fun c k d h => let ⟨g1, g2, C, fa, fd, ps, h1, h2, h3, h4⟩ := m.mt c k d h; ⟨C, fa, fd, ps, _, h1, h2, h3, h0 h4, h4.dk, run_mt_eq h g1 g2 (n + 1)⟩
      fl := m.fl
      eq := fun c h => eq_of m c h (fun _ _ _ _ q => h0 q)
      isc := m.isc X rfl rfl }
end
end Vm
set_option Elab.async false
set_option linter.all false
set_option maxRecDepth 100000
set_option maxHeartbeats 4000000
/-! The joint: from the head's facts to the law's statement. -/
namespace Vm
open PySem L2
/-! ### defs and their defaults -/
section
variable {K : Fg} {mg : Mg} {x qual : Str} {params : Arguments} {body : List Stmt} {scope : Scope} {dvs : List V} {kws : List (Str × V)} {fa : Addr} {fd : FuncData} {ps : List Str} {d : Fd}
theorem dk_none (F : FunD K x qual params body scope [] kws fa fd) (hl : ps.length = d.np) (h0 : d.dfl = [])
    (h : ∀ (kV doc pm : Value) (an : Option Addr) (cdv ct : Value) (us : List Value), us.length = ps.length → bindArgs (PySem.W.fnOf x qual params body scope .none kV doc pm an cdv ct) ⟨us, []⟩ = pure (ps.zip us)) : DefOk K fd ps d :=
  ⟨hl, fun j h1 h2 => ⟨[], [], F.bindsN h, .nil, by rw [h0, List.drop_nil]; rfl⟩⟩
theorem dk_some (F : FunD K x qual params body scope dvs kws fa fd) (hl : ps.length = d.np) (hd : dvs ≠ []) (hv : conVs d.dfl = some dvs) (hc : ∀ k, k ≤ d.dfl.length → conVs (d.dfl.drop k) = some (dvs.drop k)) (hle : d.dfl.length = dvs.length) (hnp : d.dfl.length ≤ d.np)
    (h : ∀ k, k ≤ d.dfl.length → ∀ (T : Addr) (kV doc pm : Value) (an : Option Addr) (cdv ct : Value) (us its : List Value), us.length = d.np - (d.dfl.length - k) → its.length = dvs.length →
      ∃ g, bindArgs (PySem.W.fnOf x qual params body scope (.ref T) kV doc pm an cdv ct) ⟨us, []⟩ = seqItems? (.ref T) >>= g ∧ g (some its.toArray) = pure (ps.zip (us ++ its.drop k))) : DefOk K fd ps d :=
  ⟨hl, fun j h1 h2 => by
    have e : d.dfl.length - (d.np - j) ≤ d.dfl.length := Nat.sub_le _ _
    obtain ⟨ds, v1, v2⟩ := F.binds1 j (d.dfl.length - (d.np - j)) hd (by rw [hl, ← hle]; omega) (by
      have q := h (d.dfl.length - (d.np - j)) e
      have z : d.np - (d.dfl.length - (d.dfl.length - (d.np - j))) = j := by omega
      rw [z] at q
      exact q)
    exact ⟨ds, _, v2, v1, hc _ e⟩⟩
end
/-! ### what the head tells of the module's tuples -/
section
variable {K : Fg} {mg : Mg} {h : Heap}
def dvW : W → Option He.Dv
  | .non => some .non
  | .bl b => some (.bl b)
  | .int i => some (.int i)
  | .str x => some (.str x)
  | _ => none
def dvWs : List W → Option (List He.Dv)
  | [] => some []
  | w :: l => match dvW w, dvWs l with
    | some v, some vs => some (v :: vs)
    | _, _ => none
theorem dvWs_rep : ∀ {l : List W} {vs : List He.Dv}, dvWs l = some vs → ∀ (io : List Addr) (H : Hp), Reps K mg io H l (vs.map (He.Dv.v K))
  | [], vs, e, io, H => by cases e; exact .nil
  | w :: l, vs, e, io, H => by
    unfold dvWs at e
    split at e
    · rename_i v vs' e1 e2
      cases e
      refine .cons ?_ (dvWs_rep e2 io H)
      cases w <;> first | (cases e1; done) | (cases e1; constructor)
    · cases e
/-- the module's name x is a tuple of these constants -/
def tupFact (K : Fg) (x : Str) (l : List W) : Bool := He.Fa.ok K (.glo x) && (match dvWs l with
  | some vs => He.tupB K x vs
  | none => false)
theorem tup_gl {x : Str} {l : List W} (X : K.In h) (G : h.Ns mainGlobals mg) (c : tupFact K x l = true) : ∃ v u, mg x = some u ∧ RelV v u ∧ ∀ io H, Rep K mg io H (.tup l) v := by
  unfold tupFact at c
  obtain ⟨c1, c2⟩ := He.ba c
  split at c2
  · rename_i vs e
    exact ⟨.ref (He.ga K x), .ref (He.ga K x), He.glo_ok X G c1, rfl, fun io H => .tup (He.tupB_ok c2 H) (dvWs_rep e io H)⟩
  · cases c2
theorem int_gl {x : Str} {i : Int} (X : K.In h) (G : h.Ns mainGlobals mg) (c : He.Fa.ok K (.int x i) = true) : ∃ v u, mg x = some u ∧ RelV v u ∧ ∀ io H, Rep K mg io H (.int i) v := by
  obtain ⟨t, e⟩ := He.int_ok X G c
  exact ⟨.int i, _, e, ⟨t, rfl⟩, fun _ _ => .int i⟩
theorem str_gl {x z : Str} (X : K.In h) (G : h.Ns mainGlobals mg) (c : He.Fa.ok K (.str x z) = true) : ∃ v u, mg x = some u ∧ RelV v u ∧ ∀ io H, Rep K mg io H (.str z) v := by
  obtain ⟨t, e⟩ := He.str_ok X G c
  exact ⟨.str z, _, e, ⟨t, rfl⟩, fun _ _ => .str z⟩
end
/-! ### a Hook with tuples -/
/-- a further fact of the module: a class whose != is its ==; the classes for isinstance; -/
inductive Xf where
  | ne (c : Str) | isi (c : Str) | pr (c d : Str)
def Xf.ok (K : Fg) : Xf → Bool
  | .ne c => decide (PySem.W.findIn K (.ref (He.ga K c)) "__ne__" = some (some (.builtin "object.__ne__")))
  | .isi c => decide (PySem.W.findIn K (.ref (He.ga K c)) "__class__" = some (some (.builtin "object.__class__"))) && decide (PySem.W.specialIn K (.builtin "object.__class__") "__get__" = some (some (.builtin "getset_descriptor.__get__")))
    && decide (PySem.W.takesIn K (.builtin "object.__class__") = some true) && ["NoneType", "bool", "int", "str", "tuple", "list", "dict"].all fun t => decide (PySem.W.kitOne K (.type t) (.ref (He.ga K c)) = some false)
  | .pr c d => decide (PySem.W.kitOne K (.ref (He.ga K c)) (.ref (He.ga K d)) = some (decide (c = d)))
structure TpF where
  tp : List (Str × List W)
  ex : List Xf
def obsV (fa : List He.Fa) (tp : TpF) (fn : List He.DefD) (K : Fg) : He.AlD := (((fa.all fun f => f.ok K) && ((tp.tp.all fun p => tupFact K p.1 p.2) && tp.ex.all fun x => x.ok K)) && fn.all fun d => d.ok K, fn.map fun d => He.fnW K d.at_)
def SaysV (fa : List He.Fa) (tp : TpF) (fn : List He.DefD) (K : Fg) : Prop := obsV fa tp fn K = He.valD fn
def obsVG (n : Nat) (fa : List He.Fa) (tp : TpF) (fn : List He.DefD) (g : Addr → Option Obj) : He.AlD := obsV fa tp fn (He.frG g (He.asD g n))
def hookV (n : Nat) (fa : List He.Fa) (tp : TpF) (fn : List He.DefD) : PySem.W.Hook where
  α := He.AlD
  obs := fun s => obsVG n fa tp fn s.heap.get?
  val := fun _ => He.valD fn
  says := fun _ h => ∃ K : Fg, K.In h ∧ SaysV fa tp fn K
  of := fun _ _ e => ⟨_, He.frG_in, e⟩
  keeps := fun _ _ _ ⟨K, hK, c⟩ k => ⟨K, hK.keeps k, c⟩
theorem obsVG_eq {n : Nat} {fa : List He.Fa} {tp : TpF} {fn : List He.DefD} {g : Addr → Option Obj} {s : Shared} (h : ∀ a, g a = s.heap.get? a) : obsVG n fa tp fn g = (hookV n fa tp fn).obs s := by
  have e : g = s.heap.get? := funext h
  subst e
  rfl
section
variable {fa : List He.Fa} {tp : TpF} {fn : List He.DefD} {K : Fg}
theorem SaysV.all (c : SaysV fa tp fn K) : ((fa.all fun f => f.ok K) = true ∧ ((tp.tp.all fun p => tupFact K p.1 p.2) && tp.ex.all fun x => x.ok K) = true) ∧ (fn.all fun d => d.ok K) = true := by
  have c1 : (((fa.all fun f => f.ok K) && ((tp.tp.all fun p => tupFact K p.1 p.2) && tp.ex.all fun x => x.ok K)) && fn.all fun d => d.ok K) = true := congrArg (fun z : He.AlD => z.1) c
  rw [Bool.and_eq_true, Bool.and_eq_true] at c1
  exact c1
theorem SaysV.fact (c : SaysV fa tp fn K) {f : He.Fa} (h : f ∈ fa) : f.ok K = true := List.all_eq_true.mp c.all.1.1 f h
theorem SaysV.tup (c : SaysV fa tp fn K) {x : Str} {l : List W} (h : (x, l) ∈ tp.tp) : tupFact K x l = true := List.all_eq_true.mp (Bool.and_eq_true_iff.mp c.all.1.2).1 (x, l) h
theorem SaysV.ex (c : SaysV fa tp fn K) {x : Xf} (h : x ∈ tp.ex) : x.ok K = true := List.all_eq_true.mp (Bool.and_eq_true_iff.mp c.all.1.2).2 x h
theorem SaysV.def_ (c : SaysV fa tp fn K) (i : Nat) {d : He.DefD} (h : fn[i]? = some d) : ∃ fd, FunD K d.name d.qual d.params d.body d.scope (d.dvs K) (d.kws K) (He.fAd K d.at_) fd := by
  have e : fn.map (fun d => He.fnW K d.at_) = fn.map He.DefD.val := congrArg (fun z : He.AlD => z.2) c
  have e2 := congrArg (fun z => z[i]?) e
  simp only [List.getElem?_map, h, Option.map_some] at e2
  exact He.DefD.funD (Option.some.inj e2) (List.all_eq_true.mp c.all.2 d (List.mem_of_getElem? h))
end
/-! ### the script -/
theorem scr_rep {K : Fg} {mg : Mg} {H : Hp} {a : Addr} {ns : List Int} (hO : Only H) (hS : SqL K H a (ns.map V.int)) : Rep K mg [] H (.scr ns) (.ref a) := by
  rcases hS with hS | hS
  · rcases hS with hS | ⟨o, hS⟩
    · rcases hO a with h | ⟨o, xs, h⟩ <;> rw [h] at hS <;> cases hS
    · exact .scr (.inl ⟨o, hS⟩)
  · exact .scr (.inr hS)
theorem script_sp {K : Fg} {mg : Mg} {H : Hp} {a : Addr} {ns : List Int} {F : List W → Vs → Out W} (hO : Only H) (hS : SqL K H a (ns.map V.int)) (h : ∃ s', F [.scr ns] [] = .ok (.bl true) s') :
    spRun K mg 1 F [.ref a] H (fun v _ => v = .bl true) (fun _ _ _ => False) := by
  obtain ⟨s', h⟩ := h
  refine ⟨[], [], [.scr ns], ⟨rfl, List.nodup_nil, fun n o e => by cases e⟩, .cons (scr_rep hO hS) .nil, rfl, ?_⟩
  rw [h]
  intro io' b H' _ _ r
  cases r
  rfl
/-- the law's walk, where what flies is as the layer has it -/
theorem walk_v {l : PySem.W.OpenLaw} {n k : Nat} {q : Program} {loose : List Str} {XP : (Str → Option Value) → Heap → Prop} {YP : World → Heap → Prop} {d : DefRec} {x : Str}
    (hm : l.most = some n) (hz : n ≤ sizeLine) (h0 : d.params.defaults = []) (hr : Room k callerA)
    (F : ∀ (w : World) (mg : Mg) (fa : Addr) (h : Heap), YP w h → h.Ns mainGlobals mg → mg d.name = some (.ref fa) → ∃ (K : Fg) (fd : FuncData) (f : List W → Vs → Out W), K.In h ∧ (∀ (s : Shared) (u : Value), BindsTo s fd ⟨[u], []⟩ [(x, u)]) ∧
      (∀ ns : List Int, ns.length ≤ n → ∃ s', f [.scr ns] [] = .ok (.bl true) s') ∧ ∀ base : Heap, FnOk l.prog w K mg base (L2.CX l.prog w) k fa fd [x] (spRun K mg 1 f)) :
    PySem.W.WalkO q loose XP YP l.row.toRowW d [] (fun f vs => PySem.call f vs) := by
  refine Att.attach_call hm h0 ?_
  intro w s₀ s₁ mg mb fa o pm cd doc a vs ns G Y ho hd hcd hmg hobj hi hl hg
  obtain ⟨K, fd, f, h1, h2, h3, h4⟩ := F w mg fa _ Y G.T.g hmg
  exact law_call h1 G.T.g G.T.b G.T.builtins G.T.nolimit hg hobj hi (Nat.le_trans hl hz) hr (fun base _ _ => h4 base) h2 (fun H hO hS => script_sp hO hS (h3 ns hl)) fun H e s' z => by
    obtain ⟨_, _, _, _, _, _, _, _, _, _, _, _, z⟩ := z
    exact z
end Vm
set_option Elab.async false
set_option linter.all false
set_option maxRecDepth 100000
set_option maxHeartbeats 4000000
/-! A text's table, put together. -/
namespace Vm
open PySem L2
def tbOf (fns cls : List (Str × Fd)) (mts : List ((Str × Str) × Fd)) (gls : List (Str × W)) (bi eq isc : List Str) : Tb := ⟨fun x => gls.lookup x, fun x => fns.lookup x, fun x => cls.lookup x, fun c m => mts.lookup (c, m), bi, eq, isc⟩
def flOf (l : List (Str × List Str)) : Str → List Str := fun c => (l.lookup c).getD []
theorem mem_lk {α β : Type} [BEq α] [LawfulBEq α] {x : α} {y : β} : ∀ {l : List (α × β)}, l.lookup x = some y → (x, y) ∈ l
  | [], h => by cases h
  | (a, b) :: l, h => by
    rw [List.lookup_cons] at h
    cases e : x == a with
    | true => rw [e] at h; cases h; rw [eq_of_beq e]; exact List.mem_cons_self ..
    | false => rw [e] at h; exact List.mem_cons_of_mem _ (mem_lk h)
theorem allc {α : Type} {Q : α → Prop} {a : α} {l : List α} (h : Q a) (t : ∀ p ∈ l, Q p) : ∀ p ∈ a :: l, Q p := fun p hp => by
  rcases List.mem_cons.mp hp with e | hp
  · rw [e]; exact h
  · exact t p hp
theorem alln {α : Type} {Q : α → Prop} : ∀ p ∈ ([] : List α), Q p := fun p hp => by cases hp
/-- what the head is asked -/
def faOf (fns bi cls : List Str) (noat meth : List (Str × Str)) (izs : List (Str × Int)) (szs : List (Str × Str)) : List He.Fa :=
  fns.map .glo ++ (bi.map .free ++ (cls.map .glo ++ (cls.map .cls ++ (cls.map .mkr ++ (noat.map (fun p => .noat p.1 p.2) ++ (meth.map (fun p => .meth p.1 p.2) ++ (izs.map (fun p => .int p.1 p.2) ++ szs.map fun p => .str p.1 p.2)))))))
section
variable {K : Fg} {mg : Mg} {h : Heap} {fns bi cls : List Str} {noat meth : List (Str × Str)} {izs : List (Str × Int)} {szs : List (Str × Str)} {tp : TpF} {fn : List He.DefD} {T : Tb}
theorem fa_glo {x : Str} (hx : x ∈ fns) : He.Fa.glo x ∈ faOf fns bi cls noat meth izs szs := by
  unfold faOf
  exact List.mem_append_left _ (List.mem_map_of_mem hx)
theorem fa_free {x : Str} (hx : x ∈ bi) : He.Fa.free x ∈ faOf fns bi cls noat meth izs szs := by
  unfold faOf
  exact List.mem_append_right _ (List.mem_append_left _ (List.mem_map_of_mem hx))
theorem fa_cglo {x : Str} (hx : x ∈ cls) : He.Fa.glo x ∈ faOf fns bi cls noat meth izs szs := by
  unfold faOf
  exact List.mem_append_right _ (List.mem_append_right _ (List.mem_append_left _ (List.mem_map_of_mem hx)))
theorem fa_cls {x : Str} (hx : x ∈ cls) : He.Fa.cls x ∈ faOf fns bi cls noat meth izs szs := by
  unfold faOf
  exact List.mem_append_right _ (List.mem_append_right _ (List.mem_append_right _ (List.mem_append_left _ (List.mem_map_of_mem hx))))
theorem fa_mkr {x : Str} (hx : x ∈ cls) : He.Fa.mkr x ∈ faOf fns bi cls noat meth izs szs := by
  unfold faOf
  exact List.mem_append_right _ (List.mem_append_right _ (List.mem_append_right _ (List.mem_append_right _ (List.mem_append_left _ (List.mem_map_of_mem hx)))))
theorem fa_noat {p : Str × Str} (hx : p ∈ noat) : He.Fa.noat p.1 p.2 ∈ faOf fns bi cls noat meth izs szs := by
  unfold faOf
  exact List.mem_append_right _ (List.mem_append_right _ (List.mem_append_right _ (List.mem_append_right _ (List.mem_append_right _ (List.mem_append_left _ (List.mem_map_of_mem (f := fun p => He.Fa.noat p.1 p.2) hx))))))
theorem fa_meth {p : Str × Str} (hx : p ∈ meth) : He.Fa.meth p.1 p.2 ∈ faOf fns bi cls noat meth izs szs := by
  unfold faOf
  exact List.mem_append_right _ (List.mem_append_right _ (List.mem_append_right _ (List.mem_append_right _ (List.mem_append_right _ (List.mem_append_right _ (List.mem_append_left _ (List.mem_map_of_mem (f := fun p => He.Fa.meth p.1 p.2) hx)))))))
theorem fa_int {p : Str × Int} (hx : p ∈ izs) : He.Fa.int p.1 p.2 ∈ faOf fns bi cls noat meth izs szs := by
  unfold faOf
  exact List.mem_append_right _ (List.mem_append_right _ (List.mem_append_right _ (List.mem_append_right _ (List.mem_append_right _ (List.mem_append_right _ (List.mem_append_right _ (List.mem_append_left _ (List.mem_map_of_mem (f := fun p => He.Fa.int p.1 p.2) hx))))))))
theorem fa_str {p : Str × Str} (hx : p ∈ szs) : He.Fa.str p.1 p.2 ∈ faOf fns bi cls noat meth izs szs := by
  unfold faOf
  exact List.mem_append_right _ (List.mem_append_right _ (List.mem_append_right _ (List.mem_append_right _ (List.mem_append_right _ (List.mem_append_right _ (List.mem_append_right _ (List.mem_append_right _ (List.mem_map_of_mem (f := fun p => He.Fa.str p.1 p.2) hx))))))))
/-- a def without defaults -/
theorem defE_none {fa : List He.Fa} {dd : He.DefD} {d : Fd} {N ps : List Str} {fuel i : Nat} (c : SaysV fa tp fn K) (hi : fn[i]? = some dd) (hz : dd.dfl = []) (hs : FnScope N ps dd.scope) (hN : N.length = d.ns) (hl : ps.length = d.np) (h0 : d.dfl = [])
    (hb : chkB T fuel N dd.scope dd.body d.body = true)
    (bd : ∀ (kV doc pm : Value) (an : Option Addr) (cdv ct : Value) (us : List Value), us.length = ps.length → bindArgs (PySem.W.fnOf dd.name dd.qual dd.params dd.body dd.scope .none kV doc pm an cdv ct) ⟨us, []⟩ = pure (ps.zip us)) :
    ∃ fd, (∀ (s : Shared) (us : List Value), us.length = ps.length → BindsTo s fd ⟨us, []⟩ (ps.zip us)) ∧ PySem.W.keepIn K (.ref (He.fAd K dd.at_)) = true ∧ DefE K T (He.fAd K dd.at_) fd ps d := by
  obtain ⟨fd, F⟩ := c.def_ i hi
  have e : dd.dvs K = [] := by unfold He.DefD.dvs; rw [hz]; rfl
  rw [e] at F
  exact ⟨fd, fun s us hu => F.bindsA bd s us hu, F.kp, ⟨_, _, _, _, _, _, _, N, fuel, F, hs, hN, hb⟩, dk_none F hl h0 bd⟩
theorem fn_ent {f : Str} {ps : List Str} {d : Fd} {B : FuncData → Prop} (X : K.In h) (G : h.Ns mainGlobals mg) (hg : He.Fa.ok K (.glo f) = true) (e : ∃ fd, B fd ∧ PySem.W.keepIn K (.ref (He.fAd K (f, none))) = true ∧ DefE K T (He.fAd K (f, none)) fd ps d) :
    ∃ fa fd ps, mg f = some (.ref fa) ∧ PySem.W.keepIn K (.ref fa) = true ∧ DefE K T fa fd ps d := by
  obtain ⟨fd, _, k, e⟩ := e
  exact ⟨He.ga K f, fd, ps, He.glo_ok X G hg, k, e⟩
theorem cl_ent {c : Str} {ps : List Str} {d : Fd} {B : FuncData → Prop} (X : K.In h) (G : h.Ns mainGlobals mg) (hg : He.Fa.ok K (.glo c) = true) (h2 : He.Fa.ok K (.cls c) = true) (h3 : He.Fa.ok K (.mkr c) = true)
    (e : ∃ fd, B fd ∧ PySem.W.keepIn K (.ref (He.fAd K (c, some "__init__"))) = true ∧ DefE K T (He.fAd K (c, some "__init__")) fd ps d) :
    ∃ C fa fd ps, mg c = some (.ref C) ∧ Mk K C fa ∧ Cls K C ∧ DefE K T fa fd ps d := by
  obtain ⟨fd, _, k, e⟩ := e
  exact ⟨He.ga K c, _, fd, ps, He.glo_ok X G hg, He.mkr_ok h3, He.cls_ok h2, e⟩
theorem mt_ent {c m : Str} {ps : List Str} {d : Fd} {B : FuncData → Prop} (X : K.In h) (G : h.Ns mainGlobals mg) (hg : He.Fa.ok K (.glo c) = true) (h2 : He.Fa.ok K (.cls c) = true) (h3 : He.Fa.ok K (.meth c m) = true)
    (e : ∃ fd, B fd ∧ PySem.W.keepIn K (.ref (He.fAd K (c, some m))) = true ∧ DefE K T (He.fAd K (c, some m)) fd ps d) :
    ∃ C fa fd ps, mg c = some (.ref C) ∧ Cls K C ∧ Meth K C m fa ∧ DefE K T fa fd ps d := by
  obtain ⟨fd, _, k, e⟩ := e
  exact ⟨He.ga K c, _, fd, ps, He.glo_ok X G hg, He.cls_ok h2, He.meth_ok h3, e⟩
/-- the table holds of the module -/
theorem mod_of {fnd cld : List (Str × Fd)} {mtd : List ((Str × Str) × Fd)} {gls : List (Str × W)} {fll : List (Str × List Str)} {T' : Tb} {eqs iscs : List Str} (X : K.In h) (G : h.Ns mainGlobals mg) (c : SaysV (faOf fns bi cls noat meth izs szs) tp fn K) (hT : T' = tbOf fnd cld mtd gls bi eqs iscs)
    (hf : ∀ p ∈ fnd, ∃ fa fd ps, mg p.1 = some (.ref fa) ∧ PySem.W.keepIn K (.ref fa) = true ∧ DefE K T' fa fd ps p.2)
    (hc : ∀ p ∈ cld, (fnd.lookup p.1 = none ∧ p.1 ≠ Str.empty) ∧ ∃ C fa fd ps, mg p.1 = some (.ref C) ∧ Mk K C fa ∧ Cls K C ∧ DefE K T' fa fd ps p.2)
    (hm : ∀ p ∈ mtd, (p.1.1 ≠ Str.empty ∧ p.1.2 ≠ "__init__") ∧ ∃ C fa fd ps, mg p.1.1 = some (.ref C) ∧ Cls K C ∧ Meth K C p.1.2 fa ∧ DefE K T' fa fd ps p.2)
    (hg : ∀ p ∈ gls, ∃ v u, mg p.1 = some u ∧ RelV v u ∧ ∀ io H, Rep K mg io H p.2 v)
    (hl : ∀ p ∈ fll, p.1 ∈ cls ∧ ∀ f ∈ p.2, (p.1, f) ∈ noat) (he : ∀ c ∈ eqs, c ∈ cls ∧ (∃ d, mtd.lookup (c, ("__eq__" : Str)) = some d ∧ d.np = 2) ∧ Xf.ne c ∈ tp.ex) (hi : ∀ c ∈ iscs, (c ∈ cls ∧ Xf.isi c ∈ tp.ex) ∧ ∀ d ∈ iscs, Xf.pr d c ∈ tp.ex) : ModF K mg T' (flOf fll) := by
  subst hT
  refine ⟨fun x hx => ?_, fun x w e => ?_, fun f d e => ?_, fun k d e => ?_, fun k m d e => ?_, fun k f hf' C hC => ?_, fun k hk => ?_, fun Y eK eM k hk => ?_⟩
  · exact He.free_ok X G (c.fact (fa_free (List.contains_iff_mem.mp hx)))
  · exact hg _ (PySem.mem_of_lookup e)
  · exact hf _ (PySem.mem_of_lookup e)
  · obtain ⟨⟨h1, h2⟩, h3⟩ := hc _ (PySem.mem_of_lookup e)
    exact ⟨h1, h2, h3⟩
  · have e : mtd.lookup (k, m) = some d := e
    have q : ((k, m), d) ∈ mtd := mem_lk e
    obtain ⟨⟨h1, h2⟩, h3⟩ := hm ((k, m), d) q
    exact ⟨h1, h2, h3⟩
  · unfold flOf at hf'
    cases e : fll.lookup k with
    | none => rw [e] at hf'; cases hf'
    | some l =>
      rw [e] at hf'
      obtain ⟨h1, h2⟩ := hl _ (PySem.mem_of_lookup e)
      have h3 := He.glo_ok X G (c.fact (fa_cglo h1))
      rw [h3] at hC
      cases hC
      exact He.noat_ok (c.fact (fa_noat (h2 f hf')))
  · obtain ⟨h1, ⟨d, h2, h3⟩, h4⟩ := he k (List.contains_iff_mem.mp hk)
    exact ⟨d, h2, h3, _, He.glo_ok X G (c.fact (fa_cglo h1)), of_decide_eq_true (c.ex h4)⟩
  · subst eK eM
    obtain ⟨⟨h1, h2⟩, h3⟩ := hi k (List.contains_iff_mem.mp hk)
    have f := c.ex h2
    unfold Xf.ok at f
    simp only [Bool.and_eq_true] at f
    obtain ⟨⟨⟨f1, f2⟩, f3⟩, f4⟩ := f
    refine ⟨_, He.glo_ok X G (c.fact (fa_cglo h1)), of_decide_eq_true f1, of_decide_eq_true f2, of_decide_eq_true f3, fun t ht => ?_, fun d hd E hE => ?_⟩
    · have m : t ∈ ["NoneType", "bool", "int", "str", "tuple", "list", "dict"] := by
        rcases ht with rfl | rfl | rfl | rfl | rfl | rfl | rfl <;> simp
      exact of_decide_eq_true (List.all_eq_true.mp f4 t m)
    · obtain ⟨⟨h4, _⟩, _⟩ := hi d hd
      rw [He.glo_ok X G (c.fact (fa_cglo h4))] at hE
      cases hE
      exact of_decide_eq_true (c.ex (h3 d hd))
end
theorem room_top {n : Nat} (hn : n < 20) : Room (6 * n) callerA := by
  have h1 : callerA.depth + 3 * 120 + 5 < recursionLimit := by decide
  have h2 : callerA.units + 16 * 120 + 200 < cLine := by decide
  exact ⟨rfl, by omega, by omega⟩
end Vm
set_option Elab.async false
set_option linter.all false
set_option maxRecDepth 100000
set_option maxHeartbeats 2000000
/-! Running the interpreter: one step, loops, fractions. -/
namespace Vm
open PySem
/-! ### steps -/
theorem fin_ok {α : Type} (a : α) (s : Vs) (r : Rho) (f : α → Vs → Fin) : (Out.ok a s).fin r f = f a s := rfl
theorem truth_bl (b : Bool) (s : Vs) : truth (.bl b) s = .ok b s := rfl
theorem cmpV_lt (i j : Int) (s : Vs) : cmpV .lt (.int i) (.int j) s = .ok (.bl (decide (i < j))) s := rfl
theorem cmpV_le (i j : Int) (s : Vs) : cmpV .le (.int i) (.int j) s = .ok (.bl (decide (i ≤ j))) s := rfl
theorem cmpV_gt (i j : Int) (s : Vs) : cmpV .gt (.int i) (.int j) s = .ok (.bl (decide (j < i))) s := rfl
theorem cmpV_ge (i j : Int) (s : Vs) : cmpV .ge (.int i) (.int j) s = .ok (.bl (decide (j ≤ i))) s := rfl
theorem binV_add (i j : Int) (s : Vs) : binV .add (.int i) (.int j) s = .ok (.int (i + j)) s := rfl
theorem binV_sub (i j : Int) (s : Vs) : binV .sub (.int i) (.int j) s = .ok (.int (i - j)) s := rfl
theorem binV_mul {i j : Int} (h : mulFits i j = true) (s : Vs) : binV .mul (.int i) (.int j) s = .ok (.int (i * j)) s := if_pos h
theorem binV_mod {i j : Int} (h : j ≠ 0) (s : Vs) : binV .mod (.int i) (.int j) s = .ok (.int (i.fmod j)) s := if_neg (by simpa using h)
theorem binV_fdiv {i j : Int} (h : j ≠ 0) (h2 : j.natAbs.log2 < 9000) (s : Vs) : binV .fdiv (.int i) (.int j) s = .ok (.int (i.fdiv j)) s := by
  show (if (j == 0) = true then _ else if _ then _ else _) = _
  rw [if_neg (by simpa using h), PyProof.noPylong_of_log2 h2]
  rfl
theorem idx2_0 (a b : W) (s : Vs) : idxV (.tup [a, b]) (.int 0) s = .ok a s := rfl
theorem idx2_1 (a b : W) (s : Vs) : idxV (.tup [a, b]) (.int 1) s = .ok b s := rfl
theorem biV_abs (i : Int) (s : Vs) : biV .abs [.int i] s = .ok (.int (if i < 0 then -i else i)) s := rfl
theorem getO_0 (x : Option W) (l : Rho) : (x :: l)[0]? = some x := rfl
theorem getO_s (x : Option W) (l : Rho) (n : Nat) : (x :: l)[n + 1]? = l[n]? := rfl
theorem set_0 (x y : Option W) (l : Rho) : (x :: l).set 0 y = y :: l := rfl
theorem set_s (x y : Option W) (l : Rho) (n : Nat) : (x :: l).set (n + 1) y = x :: l.set n y := rfl
theorem sif_t {α : Type} (a b : α) : (if true = true then a else b) = a := rfl
theorem sif_f {α : Type} (a b : α) : (if false = true then a else b) = b := rfl
section
variable {D : Wd} {b : IB} {r r' : Rho} {s s1 s2 s3 s' : Vs} {e c : IE} {w : W}
theorem B_nx {i : IS} (h : denS D i r s = .nx r' s') : denB D (.cons i b) r s = denB D b r' s' := by rw [denB, h]
theorem B_rt {i : IS} (h : denS D i r s = .rt w s') : denB D (.cons i b) r s = .rt w s' := by rw [denB, h]
theorem B_nil : denB D .nil r s = .nx r s := by rw [denB]
theorem B_asg {i : Nat} (h : den D e r s = .ok w s1) : denB D (.cons (.asg i e) b) r s = denB D b (r.set i (some w)) s1 := B_nx (by rw [denS, h]; rfl)
theorem B_asgT {l : List Nat} (h : den D e r s = .ok w s1) (h2 : setTs l w r s1 = some r') : denB D (.cons (.asgT l e) b) r s = denB D b r' s1 := B_nx (by rw [denS, h]; show (match setTs l w r s1 with | some r' => Fin.nx r' s1 | none => .err) = _; rw [h2])
theorem B_par {i j : Nat} {a d : IE} {x y : W} (h : den D a r s = .ok x s1) (h2 : den D d r s1 = .ok y s2) : denB D (.cons (.par i j a d) b) r s = denB D b ((r.set i (some x)).set j (some y)) s2 := B_nx (by rw [denS, h, fin_ok, h2]; rfl)
theorem B_ret (h : den D e r s = .ok w s1) : denB D (.cons (.ret e) b) r s = .rt w s1 := B_rt (by rw [denS, h]; rfl)
theorem B_exp (h : den D e r s = .ok w s1) : denB D (.cons (.exp e) b) r s = denB D b r s1 := B_nx (by rw [denS, h]; rfl)
theorem B_tt {x y : IB} (h : test D c r s = .ok true s1) (h2 : denB D x r s1 = .nx r' s') : denB D (.cons (.ifs c x y) b) r s = denB D b r' s' := B_nx (by rw [denS, h]; exact h2)
theorem B_tr {x y : IB} (h : test D c r s = .ok true s1) (h2 : denB D x r s1 = .rt w s') : denB D (.cons (.ifs c x y) b) r s = .rt w s' := B_rt (by rw [denS, h]; exact h2)
theorem B_ff {x y : IB} (h : test D c r s = .ok false s1) (h2 : denB D y r s1 = .nx r' s') : denB D (.cons (.ifs c x y) b) r s = denB D b r' s' := B_nx (by rw [denS, h]; exact h2)
theorem B_fr {x y : IB} (h : test D c r s = .ok false s1) (h2 : denB D y r s1 = .rt w s') : denB D (.cons (.ifs c x y) b) r s = .rt w s' := B_rt (by rw [denS, h]; exact h2)
theorem B_f {x : IB} (h : test D c r s = .ok false s1) : denB D (.cons (.ifs c x .nil) b) r s = denB D b r s1 := B_ff h B_nil
theorem B_whl {x : IB} {k : Nat} (h : iter (test D c) (denB D x) k r s = .nx r' s') : denB D (.cons (.whl c x) b) r s = denB D b r' s' := B_nx (by rw [denS, whl_eq (n := k) (by rw [h]; exact fun z => by cases z), h])
theorem B_ssub {o i : IE} {x k : W} (h : den D e r s = .ok w s1) (h2 : den D o r s1 = .ok x s2) (h3 : den D i r s2 = .ok k s3) (h4 : setV x k w s3 = some s') : denB D (.cons (.ssub o i e) b) r s = denB D b r s' :=
  B_nx (by rw [denS, h, fin_ok, h2, fin_ok, h3, fin_ok, h4])
theorem B_sfld {o : IE} {f : Str} {x : W} (h : den D e r s = .ok w s1) (h2 : den D o r s1 = .ok x s2) (h4 : sfldV D.fl x f w s2 = some s') : denB D (.cons (.sfld o f e) b) r s = denB D b r s' :=
  B_nx (by rw [denS, h, fin_ok, h2, fin_ok, h4])
/-- the body of a for -/
noncomputable def forF (D : Wd) (tg : Tg) (x : IB) : W → Rho → Vs → Fin := fun y r' s2 => match setT tg y r' with
  | some r2 => denB D x r2 s2
  | none => .err
theorem B_for {tg : Tg} {it : II} {x : IB} {q : Src} (h : denI D it r s = .ok q s1) (h2 : forL q.ok (forF D tg x) q.items r s1 = .nx r' s') : denB D (.cons (.fors tg it x) b) r s = denB D b r' s' := B_nx (by rw [denS, h]; exact h2)
theorem B_forr {tg : Tg} {it : II} {x : IB} {q : Src} (h : denI D it r s = .ok q s1) (h2 : forL q.ok (forF D tg x) q.items r s1 = .rt w s') : denB D (.cons (.fors tg it x) b) r s = .rt w s' := B_rt (by rw [denS, h]; exact h2)
/-- how a for goes: I holds ahead of each turn; a turn goes on, or tells w -/
theorem for_inv {ok : Vs → Prop} {f : W → Rho → Vs → Fin} {I : List W → Rho → Vs → Prop} {Q : W → Vs → Prop} (h0 : ∀ l r s, I l r s → ok s)
    (h1 : ∀ x l r s, I (x :: l) r s → (∃ r' s', (f x r s = .nx r' s' ∨ f x r s = .ct r' s') ∧ I l r' s') ∨ ∃ w s', f x r s = .rt w s' ∧ Q w s') :
    ∀ (l : List W) (r : Rho) (s : Vs), I l r s → (∃ r' s', forL ok f l r s = .nx r' s' ∧ I [] r' s') ∨ ∃ w s', forL ok f l r s = .rt w s' ∧ Q w s'
  | [], r, s, i => .inl ⟨r, s, by unfold forL; rw [if_pos (h0 _ _ _ i)], i⟩
  | x :: l, r, s, i => by
    rcases h1 x l r s i with ⟨r', s', h2, i'⟩ | ⟨w, s', h2, q⟩
    · have e : forL ok f (x :: l) r s = forL ok f l r' s' := by
        rw [forL, if_pos (h0 _ _ _ i)]
        rcases h2 with h2 | h2 <;> rw [h2]
      rw [e]
      exact for_inv h0 h1 l r' s' i'
    · refine .inr ⟨w, s', ?_, q⟩
      rw [forL, if_pos (h0 _ _ _ i), h2]
/-- the same where no turn tells -/
theorem for_nx {ok : Vs → Prop} {f : W → Rho → Vs → Fin} {I : List W → Rho → Vs → Prop} (h0 : ∀ l r s, I l r s → ok s) (h1 : ∀ x l r s, I (x :: l) r s → ∃ r' s', f x r s = .nx r' s' ∧ I l r' s') {l : List W} {r : Rho} {s : Vs} (i : I l r s) :
    ∃ r' s', forL ok f l r s = .nx r' s' ∧ I [] r' s' := by
  rcases for_inv (Q := fun _ _ => False) h0 (fun x l r s i => .inl (let ⟨r', s', e, j⟩ := h1 x l r s i; ⟨r', s', .inl e, j⟩)) l r s i with h | ⟨_, _, _, h⟩
  · exact h
  · exact h.elim
/-- how a comprehension goes -/
theorem lc_inv {ok : Vs → Prop} {f : W → Vs → Out (Option W)} {I : List W → List W → Vs → Prop} (h0 : ∀ l a s, I l a s → ok s)
    (h1 : ∀ x l a s, I (x :: l) a s → (∃ y s', f x s = .ok (some y) s' ∧ I l (a ++ [y]) s') ∨ ∃ s', f x s = .ok none s' ∧ I l a s') :
    ∀ (l a : List W) (s : Vs), I l a s → ∃ ys s', lcL ok f l s = .ok ys s' ∧ I [] (a ++ ys) s'
  | [], a, s, i => ⟨[], s, by unfold lcL; rw [if_pos (h0 _ _ _ i)], by rw [List.append_nil]; exact i⟩
  | x :: l, a, s, i => by
    rcases h1 x l a s i with ⟨y, s', h2, i'⟩ | ⟨s', h2, i'⟩
    · obtain ⟨ys, s2, e, j⟩ := lc_inv h0 h1 l _ s' i'
      refine ⟨y :: ys, s2, ?_, by rw [List.append_assoc] at j; exact j⟩
      rw [lcL, if_pos (h0 _ _ _ i), h2]
      show (lcL ok f l s').bind _ = _
      rw [e]
      rfl
    · obtain ⟨ys, s2, e, j⟩ := lc_inv h0 h1 l _ s' i'
      refine ⟨ys, s2, ?_, j⟩
      rw [lcL, if_pos (h0 _ _ _ i), h2]
      show (lcL ok f l s').bind _ = _
      rw [e]
      rfl
end
section
variable {T : Str → Str → Option Te} {gl : Str → Option W} {fl : Str → List Str} {n : Nat} {s : Vs}
theorem run_fn {c f : Str} {d : Fd} {ws : List W} (h : T c f = some (.fn d)) (hl : ws.length = d.np) : run T gl fl (n + 1) c f ws s = runB ⟨run T gl fl n, gl, fl⟩ d ws s := by
  rw [run, h]
  have e : argsOf d ws = some ws := by
    unfold argsOf
    rw [if_pos ⟨by omega, by omega⟩, hl, Nat.sub_self, Nat.sub_zero, List.drop_length, List.append_nil]
  show (match argsOf d ws with | some vs => _ | none => _) = _
  rw [e]
theorem runB_rt {D : Wd} {d : Fd} {ws : List W} {w : W} {s s' : Vs} (h : denB D d.body (ws.map some ++ List.replicate (d.ns - d.np) none) s = .rt w s') : runB D d ws s = .ok w s' := by
  unfold runB
  rw [h]
theorem runB_nx {D : Wd} {d : Fd} {ws : List W} {r : Rho} {s s' : Vs} (h : denB D d.body (ws.map some ++ List.replicate (d.ns - d.np) none) s = .nx r s') : runB D d ws s = .ok .non s' := by
  unfold runB
  rw [h]
/-- a def that tells w -/
theorem run_rt {c f : Str} {d : Fd} {ws : List W} {w : W} {s' : Vs} (h : T c f = some (.fn d)) (hl : ws.length = d.np) (hb : denB ⟨run T gl fl n, gl, fl⟩ d.body (ws.map some ++ List.replicate (d.ns - d.np) none) s = .rt w s') : run T gl fl (n + 1) c f ws s = .ok w s' := by
  rw [run_fn h hl]
  exact runB_rt hb
end
theorem iter_go {c : Rho → Vs → Out Bool} {f : Rho → Vs → Fin} {k : Nat} {r r' : Rho} {s s1 s' : Vs} (h1 : c r s = .ok true s1) (h2 : f r s1 = .nx r' s') : iter c f (k + 1) r s = iter c f k r' s' := by
  show (match c r s with | .ok b s1 => _ | .exc x s1 => _ | .err => _) = _
  rw [h1]
  show (match f r s1 with | .nx r' s' => _ | .ct r' s' => _ | .bk r' s' => _ | .rt w s' => _ | .exc x r' s' => _ | .err => _) = _
  rw [h2]
theorem iter_stop {c : Rho → Vs → Out Bool} {f : Rho → Vs → Fin} {k : Nat} {r : Rho} {s s1 : Vs} (h1 : c r s = .ok false s1) : iter c f (k + 1) r s = .nx r s1 := by
  show (match c r s with | .ok b s1 => _ | .exc x s1 => _ | .err => _) = _
  rw [h1]
  rfl
/-! ### the greatest common divisor -/
def d_common : Fd := ⟨2, 2, [], (.cons (.par 0 1 (.bi .abs (.cons (.var 0) .nil)) (.bi .abs (.cons (.var 1) .nil))) (.cons (.whl (.cmp .gt (.var 1) (.con (.int 0))) (.cons (.par 0 1 (.var 1) (.bin .mod (.var 0) (.var 1))) .nil)) (.cons (.ret (.var 0)) .nil)))⟩
theorem fmod_nat (a b : Nat) : ((a : Int).fmod (b : Int)) = ((a % b : Nat) : Int) := by
  rw [Int.fmod_eq_emod_of_nonneg _ (by omega)]
  omega
theorem euclid {D : Wd} {s : Vs} : ∀ (b a : Nat), ∃ k, iter (test D (.cmp .gt (.var 1) (.con (.int 0)))) (denB D (.cons (.par 0 1 (.var 1) (.bin .mod (.var 0) (.var 1))) .nil)) k [some (.int a), some (.int b)] s = .nx [some (.int (Nat.gcd a b)), some (.int 0)] s := by
  intro b
  induction b using Nat.strongRecOn with
  | _ b ih =>
    intro a
    by_cases hb : b = 0
    · subst hb
      refine ⟨1, ?_⟩
      rw [iter_stop (s1 := s) (by simp only [den, denL, test, bind_ok, fin_ok, truth_bl, cmpV_lt, cmpV_le, cmpV_gt, cmpV_ge, binV_add, binV_sub, idx2_0, idx2_1, biV_abs, getO_0, getO_s, set_0, set_s, sif_t, sif_f, List.length_cons, List.length_nil]; rfl)]
      rw [Nat.gcd_zero_right]
      rfl
    · obtain ⟨k, hk⟩ := ih (a % b) (Nat.mod_lt _ (by omega)) b
      refine ⟨k + 1, ?_⟩
      have hb' : (0 : Int) < b := by omega
      have hb2 : (b : Int) ≠ 0 := by omega
      rw [iter_go (s1 := s) (r' := [some (.int b), some (.int ((a % b : Nat) : Int))]) (s' := s) (by simp only [den, denL, test, bind_ok, fin_ok, truth_bl, cmpV_lt, cmpV_le, cmpV_gt, cmpV_ge, binV_add, binV_sub, idx2_0, idx2_1, biV_abs, getO_0, getO_s, set_0, set_s, sif_t, sif_f, List.length_cons, List.length_nil]; simp; omega) (by rw [B_par (x := .int b) (y := .int ((a % b : Nat) : Int)) (s1 := s) (s2 := s) (by simp only [den, denL, test, bind_ok, fin_ok, truth_bl, cmpV_lt, cmpV_le, cmpV_gt, cmpV_ge, binV_add, binV_sub, idx2_0, idx2_1, biV_abs, getO_0, getO_s, set_0, set_s, sif_t, sif_f, List.length_cons, List.length_nil]) (by simp only [den, denL, test, bind_ok, fin_ok, truth_bl, cmpV_lt, cmpV_le, cmpV_gt, cmpV_ge, binV_add, binV_sub, idx2_0, idx2_1, biV_abs, getO_0, getO_s, set_0, set_s, sif_t, sif_f, List.length_cons, List.length_nil, binV_mod hb2, fmod_nat])]; exact B_nil)]
      rw [hk, Nat.gcd_comm b, Nat.gcd_comm a b, Nat.gcd_rec b a]
theorem abs_nat (i : Int) : (if i < 0 then -i else i) = (i.natAbs : Int) := by
  split <;> omega
section
variable {T : Str → Str → Option Te} {gl : Str → Option W} {fl : Str → List Str} {n : Nat} {s : Vs}
theorem sp_common (h : T Str.empty "common" = some (.fn d_common)) (a b : Int) : run T gl fl (n + 1) Str.empty "common" [.int a, .int b] s = .ok (.int (Int.gcd a b)) s := by
  refine run_rt h rfl ?_
  obtain ⟨k, hk⟩ := euclid (D := ⟨run T gl fl n, gl, fl⟩) (s := s) b.natAbs a.natAbs
  show denB _ (.cons _ (.cons _ (.cons _ .nil))) [some (.int a), some (.int b)] s = _
  rw [B_par (x := .int a.natAbs) (y := .int b.natAbs) (s1 := s) (s2 := s) (by simp only [den, denL, test, bind_ok, fin_ok, truth_bl, cmpV_lt, cmpV_le, cmpV_gt, cmpV_ge, binV_add, binV_sub, idx2_0, idx2_1, biV_abs, getO_0, getO_s, set_0, set_s, sif_t, sif_f, List.length_cons, List.length_nil, abs_nat]) (by simp only [den, denL, test, bind_ok, fin_ok, truth_bl, cmpV_lt, cmpV_le, cmpV_gt, cmpV_ge, binV_add, binV_sub, idx2_0, idx2_1, biV_abs, getO_0, getO_s, set_0, set_s, sif_t, sif_f, List.length_cons, List.length_nil, abs_nat])]
  simp only [set_0, set_s]
  rw [B_whl hk]
  exact B_ret (by simp only [den, denL, test, bind_ok, fin_ok, truth_bl, cmpV_lt, cmpV_le, cmpV_gt, cmpV_ge, binV_add, binV_sub, idx2_0, idx2_1, biV_abs, getO_0, getO_s, set_0, set_s, sif_t, sif_f, List.length_cons, List.length_nil]; rfl)
end
end Vm
set_option Elab.async false
set_option linter.all false
set_option maxRecDepth 100000
set_option maxHeartbeats 2000000
/-! Running the interpreter by rewriting alone. -/
namespace Vm
open PySem
/-- what comes behind is not looked at before its turn -/
structure Lz {α : Type} {β : Type} (f : α → Vs → β) where
  o : Out α
def bd {α β : Type} (f : α → Vs → Out β) (z : Lz f) : Out β := z.o.bind f
def fx {α : Type} (r : Rho) (f : α → Vs → Fin) (z : Lz f) : Fin := z.o.fin r f
theorem bd_ok {α β : Type} (f : α → Vs → Out β) (a : α) (s : Vs) : bd f ⟨.ok a s⟩ = f a s := rfl
theorem fx_ok {α : Type} (r : Rho) (f : α → Vs → Fin) (a : α) (s : Vs) : fx r f ⟨.ok a s⟩ = f a s := rfl
theorem fx_exc {α : Type} (r : Rho) (f : α → Vs → Fin) (x : Exn) (s : Vs) : fx r f ⟨.exc x s⟩ = .exc x r s := rfl
theorem bd_exc {α β : Type} (f : α → Vs → Out β) (x : Exn) (s : Vs) : bd f ⟨.exc x s⟩ = .exc x s := rfl
structure Ls (f : Rho → Vs → Fin) where
  x : Fin
def sq (f : Rho → Vs → Fin) (z : Ls f) : Fin := match z.x with
  | .nx r s => f r s
  | .rt w s => .rt w s
  | .bk r s => .bk r s
  | .ct r s => .ct r s
  | .exc x r s => .exc x r s
  | .err => .err
theorem sq_nx (f : Rho → Vs → Fin) (r : Rho) (s : Vs) : sq f ⟨.nx r s⟩ = f r s := rfl
theorem sq_rt (f : Rho → Vs → Fin) (w : W) (s : Vs) : sq f ⟨.rt w s⟩ = .rt w s := rfl
theorem sq_exc (f : Rho → Vs → Fin) (x : Exn) (r : Rho) (s : Vs) : sq f ⟨.exc x r s⟩ = .exc x r s := rfl
def finO : Fin → Out W
  | .nx _ s => .ok .non s
  | .rt w s => .ok w s
  | .exc x _ s => .exc x s
  | _ => .err
theorem finO_nx (r : Rho) (s : Vs) : finO (Fin.nx r s) = .ok .non s := rfl
theorem finO_rt (w : W) (s : Vs) : finO (Fin.rt w s) = .ok w s := rfl
theorem finO_exc (x : Exn) (r : Rho) (s : Vs) : finO (Fin.exc x r s) = .exc x s := rfl
structure Lr {α : Type} (f : α → Fin) where
  o : Option α
def oF {α : Type} (f : α → Fin) (z : Lr f) : Fin := match z.o with
  | some r => f r
  | none => .err
theorem oF_some {α : Type} (f : α → Fin) (r : α) : oF f ⟨some r⟩ = f r := rfl
section
variable {D : Wd} {r : Rho} {s : Vs}
/-! ### expressions -/
theorem E_var (i : Nat) : den D (.var i) r s = match r[i]? with
  | some (some w) => .ok w s
  | _ => .err := by rw [den] <;> rfl
theorem E_con (w : W) : den D (.con w) r s = .ok w s := by rw [den]
theorem E_glo (x : Str) : den D (.glo x) r s = match D.gl x with
  | some w => .ok w s
  | none => .err := by rw [den] <;> rfl
theorem E_bin (o : BOp) (a b : IE) : den D (.bin o a b) r s = bd (fun x s1 => bd (fun y s2 => binV o x y s2) ⟨den D b r s1⟩) ⟨den D a r s⟩ := by rw [den] <;> rfl
theorem E_neg (a : IE) : den D (.neg a) r s = bd (fun x s1 => match x with
  | .int i => .ok (.int (-i)) s1
  | _ => .err) ⟨den D a r s⟩ := by rw [den] <;> rfl
theorem E_not (a : IE) : den D (.not a) r s = bd (fun x s1 => bd (fun b s2 => .ok (.bl (!b)) s2) ⟨truth x s1⟩) ⟨den D a r s⟩ := by rw [den] <;> rfl
theorem E_and (a b : IE) : den D (.and a b) r s = bd (fun x s1 => bd (fun t s2 => if t = true then den D b r s2 else .ok x s2) ⟨truth x s1⟩) ⟨den D a r s⟩ := by rw [den] <;> rfl
theorem E_or (a b : IE) : den D (.or a b) r s = bd (fun x s1 => bd (fun t s2 => if t = true then .ok x s2 else den D b r s2) ⟨truth x s1⟩) ⟨den D a r s⟩ := by rw [den] <;> rfl
theorem E_ite (c a b : IE) : den D (.ite c a b) r s = bd (fun x s1 => bd (fun t s2 => if t = true then den D a r s2 else den D b r s2) ⟨truth x s1⟩) ⟨den D c r s⟩ := by rw [den] <;> rfl
theorem E_cmp (o : COp) (a b : IE) : den D (.cmp o a b) r s = bd (fun x s1 => bd (fun y s2 => cmpV o x y s2) ⟨den D b r s1⟩) ⟨den D a r s⟩ := by rw [den] <;> rfl
theorem E_ceq (ng : Bool) (cs : List Str) (a b : IE) : den D (.ceq ng cs a b) r s = bd (fun x s1 => bd (fun y s2 => eqoV D.fe ng cs x y s2) ⟨den D b r s1⟩) ⟨den D a r s⟩ := by rw [den] <;> rfl
theorem E_chn (o p : COp) (a b c : IE) : den D (.chn o p a b c) r s = bd (fun x s1 => bd (fun y s2 => bd (fun z s3 => match z with
  | .bl t => if t = true then bd (fun w s4 => cmpV p y w s4) ⟨den D c r s3⟩ else .ok (.bl false) s3
  | _ => .err) ⟨cmpV o x y s2⟩) ⟨den D b r s1⟩) ⟨den D a r s⟩ := by rw [den] <;> rfl
theorem E_tup (l : IL) : den D (.tup l) r s = bd (fun ws s1 => if fits ws.length = true then .ok (.tup ws) s1 else .err) ⟨denL D l r s⟩ := by rw [den] <;> rfl
theorem E_lst (l : IL) : den D (.lst l) r s = bd (fun ws s1 => if fits ws.length = true then newL ws s1 else .err) ⟨denL D l r s⟩ := by rw [den] <;> rfl
theorem E_idx (a b : IE) : den D (.idx a b) r s = bd (fun x s1 => bd (fun y s2 => idxV x y s2) ⟨den D b r s1⟩) ⟨den D a r s⟩ := by rw [den] <;> rfl
theorem E_slc (a lo hi : IE) : den D (.slc a lo hi) r s = bd (fun x s1 => bd (fun l s2 => bd (fun h s3 => slcV x l h s3) ⟨if miss hi = true then .ok none s2 else bd intV ⟨den D hi r s2⟩⟩) ⟨if miss lo = true then .ok none s1 else bd intV ⟨den D lo r s1⟩⟩) ⟨den D a r s⟩ := by rw [den] <;> rfl
theorem E_fld (a : IE) (f : Str) : den D (.fld a f) r s = bd (fun x s1 => fldV x f s1) ⟨den D a r s⟩ := by rw [den] <;> rfl
theorem E_call (f : Str) (l : IL) : den D (.call f l) r s = bd (fun ws s1 => D.fe Str.empty f ws s1) ⟨denL D l r s⟩ := by rw [den] <;> rfl
theorem E_meth (a : IE) (m : Str) (l : IL) : den D (.meth a m l) r s = bd (fun x s1 => if recvOk m x s1 = true then bd (fun ws s2 => mtV m x ws s2) ⟨denL D l r s1⟩ else .err) ⟨den D a r s⟩ := by rw [den] <;> rfl
theorem E_omt (c m : Str) (a : IE) (l : IL) : den D (.omt c m a l) r s = bd (fun x s1 => if ownOk c m x s1 = true then bd (fun ws s2 => D.fe c m (x :: ws) s2) ⟨denL D l r s1⟩ else .err) ⟨den D a r s⟩ := by rw [den] <;> rfl
theorem E_bi (f : Bf) (l : IL) : den D (.bi f l) r s = bd (fun ws s1 => biV f ws s1) ⟨denL D l r s⟩ := by rw [den] <;> rfl
theorem E_isi (a : IE) (t : Str) : den D (.isi a t) r s = bd (fun x s1 => isiV t x s1) ⟨den D a r s⟩ := by rw [den] <;> rfl
theorem E_iso (a : IE) (t : Str) (cs : List Str) : den D (.iso a t cs) r s = bd (fun x s1 => isoV cs t x s1) ⟨den D a r s⟩ := by rw [den] <;> rfl
theorem E_lc (e : IE) (tg : Tg) (it : II) (c : IE) : den D (.lc e tg it c) r s = bd (fun q s1 => if (!fits q.items.length) = true then .err else bd (fun ys s6 => newL ys s6) ⟨lcL q.ok (lcF D e tg c r) q.items s1⟩) ⟨denI D it r s⟩ := by rw [den] <;> rfl
theorem L_nil : denL D .nil r s = .ok [] s := by rw [denL]
theorem L_cons (a : IE) (l : IL) : denL D (.cons a l) r s = bd (fun x s1 => bd (fun xs s2 => .ok (x :: xs) s2) ⟨denL D l r s1⟩) ⟨den D a r s⟩ := by rw [denL] <;> rfl
theorem I_val (e : IE) : denI D (.val e) r s = bd (fun x s1 => srcV x s1) ⟨den D e r s⟩ := by rw [denI] <;> rfl
def rngW : W → Vs → Out Src
  | .int i, s => rngV 0 i s
  | _, _ => .err
theorem rngW_int (i : Int) (s : Vs) : rngW (.int i) s = rngV 0 i s := by rw [rngW]
theorem I_rng1 (e : IE) : denI D (.rng1 e) r s = bd (fun x s1 => rngW x s1) ⟨den D e r s⟩ := by
  rw [denI]
  show (den D e r s).bind _ = (den D e r s).bind _
  congr 1
  funext x s1
  cases x <;> rfl
theorem I_zip (a b : IE) : denI D (.zip a b) r s = bd (fun x s1 => bd (fun y s2 => zipV x y s2) ⟨den D b r s1⟩) ⟨den D a r s⟩ := by rw [denI] <;> rfl
def enumW : W → Vs → Out Src
  | .ref n, s => (match lstAt s n with
    | some l => .ok ⟨enumL 0 l, [(n, l)]⟩ s
    | none => .err)
  | _, _ => .err
theorem enumW_ref {n : Nat} {s : Vs} {l : List W} (h : lstAt s n = some l) : enumW (.ref n) s = .ok ⟨enumL 0 l, [(n, l)]⟩ s := by
  rw [enumW, h]
theorem I_enum (a : IE) : denI D (.enum a) r s = bd (fun x s1 => enumW x s1) ⟨den D a r s⟩ := by
  rw [denI]
  show (den D a r s).bind _ = (den D a r s).bind _
  congr 1
  funext x s1
  cases x <;> rfl
theorem T_eq (c : IE) : test D c r s = bd (fun x s1 => truth x s1) ⟨den D c r s⟩ := rfl
/-- the turn of a comprehension -/
structure Lq {α : Type} (f : Rho → Out α) where
  o : Option Rho
def oO {α : Type} (f : Rho → Out α) (z : Lq f) : Out α := match z.o with
  | some r => f r
  | none => .err
theorem oO_some {α : Type} (f : Rho → Out α) (r : Rho) : oO f ⟨some r⟩ = f r := rfl
theorem lcF_eq (e : IE) (tg : Tg) (c : IE) (x : W) : lcF D e tg c r x s = oO (fun r' => bd (fun t s3 => bd (fun b s4 => if b = true then bd (fun y s5 => .ok (some y) s5) ⟨den D e r' s4⟩ else .ok none s4) ⟨truth t s3⟩) ⟨den D c r' s⟩) ⟨setT tg x r⟩ := by
  unfold lcF oO
  cases setT tg x r <;> rfl
/-! ### statements -/
variable {b : IB}
theorem C_nil : denB D .nil r s = .nx r s := by rw [denB]
theorem C_asg (i : Nat) (e : IE) : denB D (.cons (.asg i e) b) r s = fx r (fun w s1 => denB D b (r.set i (some w)) s1) ⟨den D e r s⟩ := by
  rw [denB, denS]
  cases den D e r s <;> rfl
theorem C_asgT (l : List Nat) (e : IE) : denB D (.cons (.asgT l e) b) r s = fx r (fun w s1 => oF (fun r' => denB D b r' s1) ⟨setTs l w r s1⟩) ⟨den D e r s⟩ := by
  rw [denB, denS]
  cases den D e r s with
  | ok w s1 => 
    show (match (match setTs l w r s1 with | some r' => Fin.nx r' s1 | none => .err) with | .nx r' s' => denB D b r' s' | .rt w s' => .rt w s' | .bk r' s' => .bk r' s' | .ct r' s' => .ct r' s' | .exc x r' s' => .exc x r' s' | .err => .err) = oF _ ⟨setTs l w r s1⟩
    unfold oF
    cases setTs l w r s1 <;> rfl
  | exc x s1 => rfl
  | err => rfl
theorem C_par (i j : Nat) (a c : IE) : denB D (.cons (.par i j a c) b) r s = fx r (fun x s1 => fx r (fun y s2 => denB D b ((r.set i (some x)).set j (some y)) s2) ⟨den D c r s1⟩) ⟨den D a r s⟩ := by
  rw [denB, denS]
  cases den D a r s with
  | ok w s1 =>
    show (match (den D c r s1).fin r _ with | .nx r' s' => denB D b r' s' | .rt w s' => .rt w s' | .bk r' s' => .bk r' s' | .ct r' s' => .ct r' s' | .exc x r' s' => .exc x r' s' | .err => .err) = fx r _ ⟨den D c r s1⟩
    cases den D c r s1 <;> rfl
  | exc x s1 => rfl
  | err => rfl
theorem C_exp (e : IE) : denB D (.cons (.exp e) b) r s = fx r (fun _ s1 => denB D b r s1) ⟨den D e r s⟩ := by
  rw [denB, denS]
  cases den D e r s <;> rfl
theorem C_ret (e : IE) : denB D (.cons (.ret e) b) r s = fx r (fun w s1 => .rt w s1) ⟨den D e r s⟩ := by
  rw [denB, denS]
  cases den D e r s <;> rfl
theorem C_retN : denB D (.cons .retN b) r s = .rt .non s := by rw [denB, denS]
theorem C_pass : denB D (.cons .pass b) r s = denB D b r s := by rw [denB, denS]
theorem C_ifs (c : IE) (x y : IB) : denB D (.cons (.ifs c x y) b) r s = fx r (fun t s1 => sq (fun r s => denB D b r s) ⟨if t = true then denB D x r s1 else denB D y r s1⟩) ⟨test D c r s⟩ := by
  rw [denB, denS]
  cases test D c r s <;> rfl
theorem C_sfld (o : IE) (f : Str) (e : IE) : denB D (.cons (.sfld o f e) b) r s = fx r (fun y s1 => fx r (fun x s2 => oF (fun s3 => denB D b r s3) ⟨sfldV D.fl x f y s2⟩) ⟨den D o r s1⟩) ⟨den D e r s⟩ := by
  rw [denB, denS]
  cases den D e r s with
  | ok w s1 =>
    show (match (den D o r s1).fin r _ with | .nx r' s' => denB D b r' s' | .rt w s' => .rt w s' | .bk r' s' => .bk r' s' | .ct r' s' => .ct r' s' | .exc x r' s' => .exc x r' s' | .err => .err) = fx r _ ⟨den D o r s1⟩
    cases den D o r s1 with
    | ok x s2 =>
      show (match (match sfldV D.fl x f w s2 with | some s3 => Fin.nx r s3 | none => .err) with | .nx r' s' => denB D b r' s' | .rt w s' => .rt w s' | .bk r' s' => .bk r' s' | .ct r' s' => .ct r' s' | .exc x r' s' => .exc x r' s' | .err => .err) = oF _ ⟨sfldV D.fl x f w s2⟩
      unfold oF
      cases sfldV D.fl x f w s2 <;> rfl
    | exc x s1 => rfl
    | err => rfl
  | exc x s1 => rfl
  | err => rfl
theorem C_ssub (o i e : IE) : denB D (.cons (.ssub o i e) b) r s = fx r (fun y s1 => fx r (fun x s2 => fx r (fun k s3 => oF (fun s4 => denB D b r s4) ⟨setV x k y s3⟩) ⟨den D i r s2⟩) ⟨den D o r s1⟩) ⟨den D e r s⟩ := by
  rw [denB, denS]
  cases den D e r s with
  | ok w s1 =>
    show (match (den D o r s1).fin r _ with | .nx r' s' => denB D b r' s' | .rt w s' => .rt w s' | .bk r' s' => .bk r' s' | .ct r' s' => .ct r' s' | .exc x r' s' => .exc x r' s' | .err => .err) = fx r _ ⟨den D o r s1⟩
    cases den D o r s1 with
    | ok x s2 =>
      show (match (den D i r s2).fin r _ with | .nx r' s' => denB D b r' s' | .rt w s' => .rt w s' | .bk r' s' => .bk r' s' | .ct r' s' => .ct r' s' | .exc x r' s' => .exc x r' s' | .err => .err) = fx r _ ⟨den D i r s2⟩
      cases den D i r s2 with
      | ok k s3 =>
        show (match (match setV x k w s3 with | some s3 => Fin.nx r s3 | none => .err) with | .nx r' s' => denB D b r' s' | .rt w s' => .rt w s' | .bk r' s' => .bk r' s' | .ct r' s' => .ct r' s' | .exc x r' s' => .exc x r' s' | .err => .err) = oF _ ⟨setV x k w s3⟩
        unfold oF
        cases setV x k w s3 <;> rfl
      | exc x s1 => rfl
      | err => rfl
    | exc x s1 => rfl
    | err => rfl
  | exc x s1 => rfl
  | err => rfl
theorem C_fors (tg : Tg) (it : II) (x : IB) : denB D (.cons (.fors tg it x) b) r s = fx r (fun q s1 => sq (fun r s => denB D b r s) ⟨forL q.ok (forF D tg x) q.items r s1⟩) ⟨denI D it r s⟩ := by
  rw [denB, denS]
  cases denI D it r s <;> rfl
theorem C_whl (c : IE) (x : IB) : denB D (.cons (.whl c x) b) r s = sq (fun r s => denB D b r s) ⟨whlL (test D c) (denB D x) r s⟩ := by
  rw [denB, denS]; rfl
theorem forF_eq (tg : Tg) (x : IB) (w : W) : forF D tg x w r s = oF (fun r2 => denB D x r2 s) ⟨setT tg w r⟩ := by
  unfold forF oF
  cases setT tg w r <;> rfl
end
section
variable {T : Str → Str → Option Te} {gl : Str → Option W} {fl : Str → List Str} {n : Nat} {s : Vs}
theorem run_def {c f : Str} {d : Fd} {ws : List W} (h : T c f = some (.fn d)) (hl : ws.length = d.np) : run T gl fl (n + 1) c f ws s = finO (denB ⟨run T gl fl n, gl, fl⟩ d.body (ws.map some ++ List.replicate (d.ns - d.np) none) s) := by
  rw [run_fn h hl]; unfold runB finO; cases denB _ d.body _ s <;> rfl
end
theorem fits0 : fits 0 = true := by decide
/-- how a for goes, by the number of turns -/
theorem for_ix {ok : Vs → Prop} {f : W → Rho → Vs → Fin} {items : List W} (I : Nat → Rho → Vs → Prop) (Q : W → Vs → Prop) (h0 : ∀ k r s, I k r s → ok s)
    (h1 : ∀ k x r s, items[k]? = some x → I k r s → (∃ r' s', (f x r s = .nx r' s' ∨ f x r s = .ct r' s') ∧ I (k + 1) r' s') ∨ ∃ w s', f x r s = .rt w s' ∧ Q w s') {r : Rho} {s : Vs} (i : I 0 r s) :
    (∃ r' s', forL ok f items r s = .nx r' s' ∧ I items.length r' s') ∨ ∃ w s', forL ok f items r s = .rt w s' ∧ Q w s' := by
  have key : ∀ (l : List W) (k : Nat) (r : Rho) (s : Vs), items.drop k = l → k ≤ items.length → I k r s → (∃ r' s', forL ok f l r s = .nx r' s' ∧ I items.length r' s') ∨ ∃ w s', forL ok f l r s = .rt w s' ∧ Q w s' := by
    intro l
    induction l with
    | nil =>
      intro k r s e hk i
      have : items.length ≤ k := List.drop_eq_nil_iff.mp e
      have hk2 : k = items.length := by omega
      subst hk2
      exact .inl ⟨r, s, by unfold forL; rw [if_pos (h0 _ _ _ i)], i⟩
    | cons x l ih =>
      intro k r s e hk i
      have hx : items[k]? = some x := by
        have := congrArg (fun z => z[0]?) e
        simpa using this
      have e2 : items.drop (k + 1) = l := by
        rw [← List.drop_drop, e]; rfl
      have hk2 : k < items.length := (List.getElem?_eq_some_iff.mp hx).1
      rcases h1 k x r s hx i with ⟨r', s', h2, i'⟩ | ⟨w, s', h2, q⟩
      · have e3 : forL ok f (x :: l) r s = forL ok f l r' s' := by
          rw [forL, if_pos (h0 _ _ _ i)]
          rcases h2 with h2 | h2 <;> rw [h2]
        rw [e3]
        exact ih (k + 1) r' s' e2 hk2 i'
      · refine .inr ⟨w, s', ?_, q⟩
        rw [forL, if_pos (h0 _ _ _ i), h2]
  exact key items 0 r s rfl (Nat.zero_le _) i
theorem for_ixn {ok : Vs → Prop} {f : W → Rho → Vs → Fin} {items : List W} (I : Nat → Rho → Vs → Prop) (h0 : ∀ k r s, I k r s → ok s)
    (h1 : ∀ k x r s, items[k]? = some x → I k r s → ∃ r' s', f x r s = .nx r' s' ∧ I (k + 1) r' s') {r : Rho} {s : Vs} (i : I 0 r s) : ∃ r' s', forL ok f items r s = .nx r' s' ∧ I items.length r' s' := by
  rcases for_ix I (fun _ _ => False) h0 (fun k x r s e i => .inl (let ⟨r', s', a, b⟩ := h1 k x r s e i; ⟨r', s', .inl a, b⟩)) i with h | ⟨_, _, _, h⟩
  · exact h
  · exact h.elim
/-- how a comprehension goes, by the number of turns -/
theorem lc_ix {ok : Vs → Prop} {f : W → Vs → Out (Option W)} {items : List W} (I : Nat → List W → Vs → Prop) (h0 : ∀ k a s, I k a s → ok s)
    (h1 : ∀ k x a s, items[k]? = some x → I k a s → ∃ y s', f x s = .ok y s' ∧ I (k + 1) (a ++ y.toList) s') {s : Vs} (i : I 0 [] s) : ∃ ys s', lcL ok f items s = .ok ys s' ∧ I items.length ys s' := by
  have key : ∀ (l : List W) (k : Nat) (a : List W) (s : Vs), items.drop k = l → k ≤ items.length → I k a s → ∃ ys s', lcL ok f l s = .ok ys s' ∧ I items.length (a ++ ys) s' := by
    intro l
    induction l with
    | nil =>
      intro k a s e hk i
      have : items.length ≤ k := List.drop_eq_nil_iff.mp e
      have hk2 : k = items.length := by omega
      subst hk2
      exact ⟨[], s, by unfold lcL; rw [if_pos (h0 _ _ _ i)], by rw [List.append_nil]; exact i⟩
    | cons x l ih =>
      intro k a s e hk i
      have hx : items[k]? = some x := by
        have := congrArg (fun z => z[0]?) e
        simpa using this
      have e2 : items.drop (k + 1) = l := by
        rw [← List.drop_drop, e]; rfl
      have hk2 : k < items.length := (List.getElem?_eq_some_iff.mp hx).1
      obtain ⟨y, s', h2, i'⟩ := h1 k x a s hx i
      obtain ⟨ys, s2, h3, i2⟩ := ih (k + 1) _ s' e2 hk2 i'
      cases y with
      | none =>
        refine ⟨ys, s2, ?_, by simpa using i2⟩
        rw [lcL, if_pos (h0 _ _ _ i), h2]
        show (lcL ok f l s').bind _ = _
        rw [h3]; rfl
      | some y =>
        refine ⟨y :: ys, s2, ?_, by simpa using i2⟩
        rw [lcL, if_pos (h0 _ _ _ i), h2]
        show (lcL ok f l s').bind _ = _
        rw [h3]; rfl
  obtain ⟨ys, s', h, i'⟩ := key items 0 [] s rfl (Nat.zero_le _) i
  exact ⟨ys, s', h, by simpa using i'⟩
end Vm
set_option Elab.async false
set_option linter.all false
set_option maxRecDepth 100000
set_option maxHeartbeats 2000000
/-! Fractions: what the text's functions of them tell. -/
namespace Vm
open PySem
def fr (q : Rat) : W := .tup [.int q.num, .int q.den]
/-- small: numerator and denominator lie below 2^k -/
def Sm (k : Nat) (q : Rat) : Prop := q.num.natAbs < 2 ^ k ∧ q.den < 2 ^ k
theorem log2_le {n k : Nat} (h : n < 2 ^ k) : n.log2 ≤ k := by
  by_cases h0 : n = 0
  · subst h0; exact Nat.zero_le _
  · exact Nat.le_of_lt ((Nat.log2_lt h0).mpr h)
theorem mulFits_of {i j : Int} {k l : Nat} (hi : i.natAbs < 2 ^ k) (hj : j.natAbs < 2 ^ l) (h : k + l < 1000000) : mulFits i j = true := by
  have a := log2_le hi
  have b := log2_le hj
  exact decide_eq_true (by omega)
theorem Sm.mono {k l : Nat} {q : Rat} (h : Sm k q) (hl : k ≤ l) : Sm l q := by
  have e : 2 ^ k ≤ 2 ^ l := Nat.pow_le_pow_right (by omega) hl
  exact ⟨Nat.lt_of_lt_of_le h.1 e, Nat.lt_of_lt_of_le h.2 e⟩
theorem sm_divInt {a b : Int} {k : Nat} (hb : b ≠ 0) (h1 : a.natAbs < 2 ^ k) (h2 : b.natAbs < 2 ^ k) : Sm k (Rat.divInt a b) := by
  refine ⟨?_, ?_⟩
  · rw [Rat.num_divInt]
    refine Nat.lt_of_le_of_lt (Int.natAbs_ediv_le_natAbs _ _) ?_
    rw [Int.natAbs_mul, Int.natAbs_sign_of_ne_zero hb, Nat.one_mul]
    exact h1
  · rw [Rat.den_divInt, if_neg hb]
    exact Nat.lt_of_le_of_lt (Nat.div_le_self _ _) h2
theorem pow_add_lt {x y k l : Nat} (hx : x < 2 ^ k) (hy : y < 2 ^ l) : x * y < 2 ^ (k + l) := by
  rw [Nat.pow_add]
  exact Nat.mul_lt_mul'' hx hy
theorem sub_divInt (p q : Rat) : p - q = Rat.divInt (p.num * q.den - q.num * p.den) ((p.den * q.den : Nat) : Int) := by rw [Rat.sub_def', Rat.divInt_ofNat]
theorem add_divInt (p q : Rat) : p + q = Rat.divInt (p.num * q.den + q.num * p.den) ((p.den * q.den : Nat) : Int) := by rw [Rat.add_def', Rat.divInt_ofNat]
theorem mul_divInt (p q : Rat) : p * q = Rat.divInt (p.num * q.num) ((p.den * q.den : Nat) : Int) := by rw [Rat.mul_def', Rat.divInt_ofNat]
theorem div_divInt (p q : Rat) : p / q = Rat.divInt (p.num * q.den) (p.den * q.num) := by
  rw [Rat.div_def, Rat.inv_def]
  conv => lhs; lhs; rw [← Rat.num_divInt_den p]
  rw [Rat.divInt_mul_divInt]
theorem den_ne (p : Rat) : ((p.den : Nat) : Int) ≠ 0 := by have := p.den_nz; omega
theorem den_pos' (p : Rat) : 0 < ((p.den : Nat) : Int) := by have := p.den_nz; omega
theorem sm_sub {k l : Nat} {p q : Rat} (hp : Sm k p) (hq : Sm l q) : Sm (k + l + 1) (p - q) := by
  have a := pow_add_lt hp.1 hq.2
  have b := pow_add_lt hq.1 hp.2
  have c := pow_add_lt hp.2 hq.2
  rw [Nat.add_comm l k] at b
  have e : 2 ^ (k + l + 1) = 2 ^ (k + l) + 2 ^ (k + l) := by rw [Nat.pow_succ]; omega
  rw [sub_divInt]
  have nz : ((p.den * q.den : Nat) : Int) ≠ 0 := by
    have := Nat.mul_pos (Nat.pos_of_ne_zero p.den_nz) (Nat.pos_of_ne_zero q.den_nz)
    omega
  refine sm_divInt nz ?_ ?_
  · have z := Int.natAbs_sub_le (p.num * q.den) (q.num * p.den)
    rw [Int.natAbs_mul, Int.natAbs_mul, Int.natAbs_natCast, Int.natAbs_natCast] at z
    omega
  · rw [Int.natAbs_natCast]; omega
theorem sm_add {k l : Nat} {p q : Rat} (hp : Sm k p) (hq : Sm l q) : Sm (k + l + 1) (p + q) := by
  have a := pow_add_lt hp.1 hq.2
  have b := pow_add_lt hq.1 hp.2
  have c := pow_add_lt hp.2 hq.2
  rw [Nat.add_comm l k] at b
  have e : 2 ^ (k + l + 1) = 2 ^ (k + l) + 2 ^ (k + l) := by rw [Nat.pow_succ]; omega
  rw [add_divInt]
  have nz : ((p.den * q.den : Nat) : Int) ≠ 0 := by
    have := Nat.mul_pos (Nat.pos_of_ne_zero p.den_nz) (Nat.pos_of_ne_zero q.den_nz)
    omega
  refine sm_divInt nz ?_ ?_
  · have z := Int.natAbs_add_le (p.num * q.den) (q.num * p.den)
    rw [Int.natAbs_mul, Int.natAbs_mul, Int.natAbs_natCast, Int.natAbs_natCast] at z
    omega
  · rw [Int.natAbs_natCast]; omega
theorem sm_mul {k l : Nat} {p q : Rat} (hp : Sm k p) (hq : Sm l q) : Sm (k + l) (p * q) := by
  have a := pow_add_lt hp.1 hq.1
  have c := pow_add_lt hp.2 hq.2
  rw [mul_divInt]
  have nz : ((p.den * q.den : Nat) : Int) ≠ 0 := by
    have := Nat.mul_pos (Nat.pos_of_ne_zero p.den_nz) (Nat.pos_of_ne_zero q.den_nz)
    omega
  refine sm_divInt nz ?_ ?_
  · rw [Int.natAbs_mul]; exact a
  · rw [Int.natAbs_natCast]; exact c
theorem sm_div {k l : Nat} {p q : Rat} (hp : Sm k p) (hq : Sm l q) (h0 : q ≠ 0) : Sm (k + l) (p / q) := by
  have a := pow_add_lt hp.1 hq.2
  have c := pow_add_lt hp.2 hq.1
  have n0 : q.num ≠ 0 := fun z => h0 (Rat.num_eq_zero.mp z)
  rw [div_divInt]
  refine sm_divInt (Int.mul_ne_zero (den_ne p) n0) ?_ ?_
  · rw [Int.natAbs_mul, Int.natAbs_natCast]; exact a
  · rw [Int.natAbs_mul, Int.natAbs_natCast]; exact c
/-- a whole division without a rest -/
theorem exact_pos {a b : Int} (hb : 0 < b) : a.fdiv (Int.gcd a b) = (Rat.divInt a b).num ∧ b.fdiv (Int.gcd a b) = ((Rat.divInt a b).den : Nat) := by
  have g0 : Int.gcd a b ≠ 0 := fun z => by have := Int.gcd_eq_zero_iff.mp z; omega
  obtain ⟨k, hk⟩ := Int.gcd_dvd_left a b
  obtain ⟨m, hm⟩ := Int.gcd_dvd_right a b
  have gz : ((Int.gcd a b : Nat) : Int) ≠ 0 := by omega
  rw [Rat.num_divInt, Rat.den_divInt, if_neg (by omega), Int.gcd_comm b a, Int.sign_eq_one_of_pos hb, Int.one_mul, Int.natCast_ediv]
  rw [Int.natAbs_of_nonneg (by omega)]
  refine ⟨?_, ?_⟩
  · rw [Int.fdiv_eq_ediv_of_nonneg _ (by omega)]
  · rw [Int.fdiv_eq_ediv_of_nonneg _ (by omega)]
theorem exact_neg {a b : Int} (hb : b < 0) : a.fdiv (0 - (Int.gcd a b : Int)) = (Rat.divInt a b).num ∧ b.fdiv (0 - (Int.gcd a b : Int)) = ((Rat.divInt a b).den : Nat) := by
  have g0 : Int.gcd a b ≠ 0 := fun z => by have := Int.gcd_eq_zero_iff.mp z; omega
  obtain ⟨k, hk⟩ := Int.gcd_dvd_left a b
  obtain ⟨m, hm⟩ := Int.gcd_dvd_right a b
  have gz : ((Int.gcd a b : Nat) : Int) ≠ 0 := by omega
  have gm : (0 - (Int.gcd a b : Int)) ≠ 0 := by omega
  rw [Rat.num_divInt, Rat.den_divInt, if_neg (by omega), Int.gcd_comm b a, Int.sign_eq_neg_one_of_neg hb, Int.natCast_ediv]
  have e : ((b.natAbs : Nat) : Int) = -b := by omega
  rw [e]
  generalize hg : ((Int.gcd a b : Nat) : Int) = g at *
  refine ⟨?_, ?_⟩
  · rw [hk, show g * k = (0 - g) * (-k) by grind, Int.mul_fdiv_cancel_left _ gm, show -1 * ((0 - g) * -k) = g * (-k) by grind, Int.mul_ediv_cancel_left _ gz]
  · rw [hm, show g * m = (0 - g) * (-m) by grind, Int.mul_fdiv_cancel_left _ gm, show -((0 - g) * -m) = g * (-m) by grind, Int.mul_ediv_cancel_left _ gz]
def d_fraction : Fd := ⟨2, 3, [], (.cons (.asg 2 (.call "common" (.cons (.var 0) (.cons (.var 1) .nil)))) (.cons (.ifs (.cmp .lt (.var 1) (.con (.int 0))) (.cons (.asg 2 (.bin .sub (.con (.int 0)) (.var 2))) .nil) .nil) (.cons (.ret (.tup (.cons (.bin .fdiv (.var 0) (.var 2)) (.cons (.bin .fdiv (.var 1) (.var 2)) .nil)))) .nil)))⟩
def d_minus : Fd := ⟨2, 2, [], (.cons (.ret (.call "fraction" (.cons (.bin .sub (.bin .mul (.idx (.var 0) (.con (.int 0))) (.idx (.var 1) (.con (.int 1)))) (.bin .mul (.idx (.var 1) (.con (.int 0))) (.idx (.var 0) (.con (.int 1))))) (.cons (.bin .mul (.idx (.var 0) (.con (.int 1))) (.idx (.var 1) (.con (.int 1)))) .nil)))) .nil)⟩
def d_times : Fd := ⟨2, 2, [], (.cons (.ret (.call "fraction" (.cons (.bin .mul (.idx (.var 0) (.con (.int 0))) (.idx (.var 1) (.con (.int 0)))) (.cons (.bin .mul (.idx (.var 0) (.con (.int 1))) (.idx (.var 1) (.con (.int 1)))) .nil)))) .nil)⟩
def d_over : Fd := ⟨2, 2, [], (.cons (.ret (.call "fraction" (.cons (.bin .mul (.idx (.var 0) (.con (.int 0))) (.idx (.var 1) (.con (.int 1)))) (.cons (.bin .mul (.idx (.var 0) (.con (.int 1))) (.idx (.var 1) (.con (.int 0)))) .nil)))) .nil)⟩
def d_less : Fd := ⟨2, 2, [], (.cons (.ret (.cmp .lt (.bin .mul (.idx (.var 0) (.con (.int 0))) (.idx (.var 1) (.con (.int 1)))) (.bin .mul (.idx (.var 1) (.con (.int 0))) (.idx (.var 0) (.con (.int 1)))))) .nil)⟩
structure FracT (T : Str → Str → Option Te) : Prop where
  common : T Str.empty "common" = some (.fn d_common)
  fraction : T Str.empty "fraction" = some (.fn d_fraction)
  minus : T Str.empty "minus" = some (.fn d_minus)
  times : T Str.empty "times" = some (.fn d_times)
  over : T Str.empty "over" = some (.fn d_over)
  less : T Str.empty "less" = some (.fn d_less)
section
variable {T : Str → Str → Option Te} {gl : Str → Option W} {fl : Str → List Str} {n : Nat} {s : Vs}
theorem gcd_log {a b : Int} {k : Nat} (hb : b ≠ 0) (h : b.natAbs < 2 ^ k) (hk : k < 9000) : (Int.gcd a b).log2 < 9000 ∧ Int.gcd a b ≠ 0 := by
  have g0 : Int.gcd a b ≠ 0 := fun z => hb (Int.gcd_eq_zero_iff.mp z).2
  have d : Int.gcd a b ∣ b.natAbs := Nat.gcd_dvd_right _ _
  have := Nat.le_of_dvd (by omega) d
  have := log2_le (Nat.lt_of_le_of_lt this h)
  omega
theorem sp_fraction (F : FracT T) {a b : Int} {k : Nat} (hb : b ≠ 0) (h : b.natAbs < 2 ^ k) (hk : k < 9000) : run T gl fl (n + 2) Str.empty "fraction" [.int a, .int b] s = .ok (fr (Rat.divInt a b)) s := by
  obtain ⟨hl, g0⟩ := gcd_log (a := a) hb h hk
  refine run_rt F.fraction rfl ?_
  show denB _ (.cons _ (.cons _ (.cons _ .nil))) [some (.int a), some (.int b), none] s = _
  rw [B_asg (w := .int (Int.gcd a b)) (s1 := s) (by simp only [den, denL, test, bind_ok, fin_ok, truth_bl, cmpV_lt, cmpV_le, cmpV_gt, cmpV_ge, binV_add, binV_sub, idx2_0, idx2_1, biV_abs, getO_0, getO_s, set_0, set_s, sif_t, sif_f, List.length_cons, List.length_nil, denL]; exact sp_common F.common a b)]
  by_cases hn : b < 0
  · rw [B_tt (r' := [some (.int a), some (.int b), some (.int (0 - (Int.gcd a b : Int)))]) (s1 := s) (s' := s) (by simp only [den, denL, test, bind_ok, fin_ok, truth_bl, cmpV_lt, cmpV_le, cmpV_gt, cmpV_ge, binV_add, binV_sub, idx2_0, idx2_1, biV_abs, getO_0, getO_s, set_0, set_s, sif_t, sif_f, List.length_cons, List.length_nil, denL, hn, decide_true]) (by rw [B_asg (w := .int (0 - (Int.gcd a b : Int))) (s1 := s) (by simp only [den, denL, test, bind_ok, fin_ok, truth_bl, cmpV_lt, cmpV_le, cmpV_gt, cmpV_ge, binV_add, binV_sub, idx2_0, idx2_1, biV_abs, getO_0, getO_s, set_0, set_s, sif_t, sif_f, List.length_cons, List.length_nil, denL])]; exact B_nil)]
    have gm : (0 - (Int.gcd a b : Int)) ≠ 0 := by omega
    refine B_ret ?_
    simp only [den, denL, test, bind_ok, fin_ok, truth_bl, cmpV_lt, cmpV_le, cmpV_gt, cmpV_ge, binV_add, binV_sub, idx2_0, idx2_1, biV_abs, getO_0, getO_s, set_0, set_s, sif_t, sif_f, List.length_cons, List.length_nil, denL, binV_fdiv gm (show (0 - (Int.gcd a b : Int)).natAbs.log2 < 9000 by rw [show (0 - (Int.gcd a b : Int)).natAbs = Int.gcd a b by omega]; exact hl)]
    rw [(exact_neg hn).1, (exact_neg hn).2]
    rfl
  · rw [B_f (s1 := s) (by simp only [den, denL, test, bind_ok, fin_ok, truth_bl, cmpV_lt, cmpV_le, cmpV_gt, cmpV_ge, binV_add, binV_sub, idx2_0, idx2_1, biV_abs, getO_0, getO_s, set_0, set_s, sif_t, sif_f, List.length_cons, List.length_nil, denL, hn, decide_false])]
    have gm : (Int.gcd a b : Int) ≠ 0 := by omega
    have hp : 0 < b := by omega
    refine B_ret ?_
    simp only [den, denL, test, bind_ok, fin_ok, truth_bl, cmpV_lt, cmpV_le, cmpV_gt, cmpV_ge, binV_add, binV_sub, idx2_0, idx2_1, biV_abs, getO_0, getO_s, set_0, set_s, sif_t, sif_f, List.length_cons, List.length_nil, denL, binV_fdiv gm (show (Int.gcd a b : Int).natAbs.log2 < 9000 by rw [Int.natAbs_natCast]; exact hl)]
    rw [(exact_pos hp).1, (exact_pos hp).2]
    rfl
theorem mf_num {k l : Nat} {p q : Rat} (hp : Sm k p) (hq : Sm l q) (h : k + l < 9000) : mulFits p.num q.den = true ∧ mulFits q.num p.den = true ∧ mulFits p.den q.den = true ∧ mulFits p.num q.num = true ∧ mulFits p.den q.num = true :=
  ⟨mulFits_of hp.1 (by rw [Int.natAbs_natCast]; exact hq.2) (by omega), mulFits_of hq.1 (by rw [Int.natAbs_natCast]; exact hp.2) (by omega), mulFits_of (by rw [Int.natAbs_natCast]; exact hp.2) (by rw [Int.natAbs_natCast]; exact hq.2) (by omega), mulFits_of hp.1 hq.1 (by omega), mulFits_of (by rw [Int.natAbs_natCast]; exact hp.2) hq.1 (by omega)⟩
theorem dd_ne (p q : Rat) : ((p.den : Int) * (q.den : Int)) ≠ 0 := Int.mul_ne_zero (den_ne p) (den_ne q)
theorem dd_lt {k l : Nat} {p q : Rat} (hp : Sm k p) (hq : Sm l q) : ((p.den : Int) * (q.den : Int)).natAbs < 2 ^ (k + l) := by
  rw [Int.natAbs_mul, Int.natAbs_natCast, Int.natAbs_natCast]
  exact pow_add_lt hp.2 hq.2
theorem sp_minus (F : FracT T) {k l : Nat} {p q : Rat} (hp : Sm k p) (hq : Sm l q) (h : k + l < 9000) : run T gl fl (n + 3) Str.empty "minus" [fr p, fr q] s = .ok (fr (p - q)) s := by
  obtain ⟨h1, h2, h3, _, _⟩ := mf_num hp hq h
  refine run_rt F.minus rfl ?_
  show denB _ (.cons _ .nil) [some (.tup [.int p.num, .int p.den]), some (.tup [.int q.num, .int q.den])] s = _
  refine B_ret ?_
  simp only [den, denL, test, bind_ok, fin_ok, truth_bl, cmpV_lt, cmpV_le, cmpV_gt, cmpV_ge, binV_add, binV_sub, idx2_0, idx2_1, biV_abs, getO_0, getO_s, set_0, set_s, sif_t, sif_f, List.length_cons, List.length_nil, denL, binV_mul h1, binV_mul h2, binV_mul h3]
  rw [sub_divInt, Int.natCast_mul]
  exact sp_fraction F (dd_ne p q) (dd_lt hp hq) h
theorem sp_times (F : FracT T) {k l : Nat} {p q : Rat} (hp : Sm k p) (hq : Sm l q) (h : k + l < 9000) : run T gl fl (n + 3) Str.empty "times" [fr p, fr q] s = .ok (fr (p * q)) s := by
  obtain ⟨h1, h2, h3, h4, _⟩ := mf_num hp hq h
  refine run_rt F.times rfl ?_
  show denB _ (.cons _ .nil) [some (.tup [.int p.num, .int p.den]), some (.tup [.int q.num, .int q.den])] s = _
  refine B_ret ?_
  simp only [den, denL, test, bind_ok, fin_ok, truth_bl, cmpV_lt, cmpV_le, cmpV_gt, cmpV_ge, binV_add, binV_sub, idx2_0, idx2_1, biV_abs, getO_0, getO_s, set_0, set_s, sif_t, sif_f, List.length_cons, List.length_nil, denL, binV_mul h3, binV_mul h4]
  rw [mul_divInt, Int.natCast_mul]
  exact sp_fraction F (dd_ne p q) (dd_lt hp hq) h
theorem sp_over (F : FracT T) {k l : Nat} {p q : Rat} (hp : Sm k p) (hq : Sm l q) (h : k + l < 9000) (h0 : q ≠ 0) : run T gl fl (n + 3) Str.empty "over" [fr p, fr q] s = .ok (fr (p / q)) s := by
  obtain ⟨h1, h2, h3, h4, h5⟩ := mf_num hp hq h
  have n0 : q.num ≠ 0 := fun z => h0 (Rat.num_eq_zero.mp z)
  refine run_rt F.over rfl ?_
  show denB _ (.cons _ .nil) [some (.tup [.int p.num, .int p.den]), some (.tup [.int q.num, .int q.den])] s = _
  refine B_ret ?_
  simp only [den, denL, test, bind_ok, fin_ok, truth_bl, cmpV_lt, cmpV_le, cmpV_gt, cmpV_ge, binV_add, binV_sub, idx2_0, idx2_1, biV_abs, getO_0, getO_s, set_0, set_s, sif_t, sif_f, List.length_cons, List.length_nil, denL, binV_mul h1, binV_mul h5]
  rw [div_divInt]
  refine sp_fraction F (Int.mul_ne_zero (den_ne p) n0) (k := k + l) ?_ h
  rw [Int.natAbs_mul, Int.natAbs_natCast]
  exact pow_add_lt hp.2 hq.1
theorem sp_less (F : FracT T) {k l : Nat} {p q : Rat} (hp : Sm k p) (hq : Sm l q) (h : k + l < 9000) : run T gl fl (n + 1) Str.empty "less" [fr p, fr q] s = .ok (.bl (decide (p < q))) s := by
  obtain ⟨h1, h2, h3, _, _⟩ := mf_num hp hq h
  refine run_rt F.less rfl ?_
  show denB _ (.cons _ .nil) [some (.tup [.int p.num, .int p.den]), some (.tup [.int q.num, .int q.den])] s = _
  refine B_ret ?_
  simp only [den, denL, test, bind_ok, fin_ok, truth_bl, cmpV_lt, cmpV_le, cmpV_gt, cmpV_ge, binV_add, binV_sub, idx2_0, idx2_1, biV_abs, getO_0, getO_s, set_0, set_s, sif_t, sif_f, List.length_cons, List.length_nil, denL, binV_mul h1, binV_mul h2]
  rw [decide_eq_decide.mpr (Rat.lt_iff p q)]
end
end Vm
set_option Elab.async false
set_option linter.all false
set_option maxRecDepth 100000
set_option maxHeartbeats 2000000
/-! Gold, and the law's own fractions. -/
namespace Vm
open PySem
theorem idx_fr0 (q : Rat) (s : Vs) : idxV (fr q) (.int 0) s = .ok (.int q.num) s := rfl
theorem idx_fr1 (q : Rat) (s : Vs) : idxV (fr q) (.int 1) s = .ok (.int q.den) s := rfl
theorem eqD_int (i j : Int) (s : Vs) : eqD s (.int i) (.int j) = some (decide (i = j)) := by
  show some (PyData.eqv (.int i) (.int j)) = _
  unfold PyData.eqv
  rfl
theorem eqD_two (a b c d : Int) (s : Vs) : eqD s (.tup [.int a, .int b]) (.tup [.int c, .int d]) = some (decide (a = c) && decide (b = d)) := by
  show some (PyData.eqv (.tuple [.int a, .int b]) (.tuple [.int c, .int d])) = _
  simp only [PyData.eqv, PyData.eqvAll, Bool.and_true]
  congr
theorem eqD_fr (p q : Rat) (s : Vs) : eqD s (fr p) (fr q) = some (decide (p = q)) := by
  show eqD s (.tup [.int p.num, .int p.den]) (.tup [.int q.num, .int q.den]) = _
  rw [eqD_two]
  congr 1
  by_cases h : p = q
  · subst h; simp
  · rw [decide_eq_false h]
    by_cases h1 : p.num = q.num
    · by_cases h2 : (p.den : Int) = q.den
      · exact absurd (Rat.ext h1 (by omega)) h
      · rw [decide_eq_false h2, Bool.and_false]
    · rw [decide_eq_false h1, Bool.false_and]
theorem cmpV_eqI (i j : Int) (s : Vs) : cmpV .eq (.int i) (.int j) s = .ok (.bl (decide (i = j))) s := by
  show (match eqD s (.int i) (.int j) with | some b => Out.ok (W.bl b) s | none => .err) = _
  rw [eqD_int]
theorem cmpV_neI (i j : Int) (s : Vs) : cmpV .ne (.int i) (.int j) s = .ok (.bl (!decide (i = j))) s := by
  show (match eqD s (.int i) (.int j) with | some b => Out.ok (W.bl (!b)) s | none => .err) = _
  rw [eqD_int]
theorem cmpV_eqF (p q : Rat) (s : Vs) : cmpV .eq (fr p) (fr q) s = .ok (.bl (decide (p = q))) s := by
  show (match eqD s (fr p) (fr q) with | some b => Out.ok (W.bl b) s | none => .err) = _
  rw [eqD_fr]
theorem cmpV_neF (p q : Rat) (s : Vs) : cmpV .ne (fr p) (fr q) s = .ok (.bl (!decide (p = q))) s := by
  show (match eqD s (fr p) (fr q) with | some b => Out.ok (W.bl (!b)) s | none => .err) = _
  rw [eqD_fr]
theorem isi_int (i : Int) (s : Vs) : isiV "int" (.int i) s = .ok (.bl true) s := by rfl
theorem isi_bool (i : Int) (s : Vs) : isiV "bool" (.int i) s = .ok (.bl false) s := by rfl
theorem isi_tup (q : Rat) (s : Vs) : isiV "tuple" (fr q) s = .ok (.bl true) s := by rfl
theorem len_fr (q : Rat) (s : Vs) : biV .len [fr q] s = .ok (.int 2) s := rfl
theorem len_tup (l : List W) (s : Vs) : biV .len [.tup l] s = .ok (.int l.length) s := rfl
theorem fr_eta (q : Rat) : Rat.divInt q.num q.den = q := Rat.num_divInt_den q
def d_is_whole : Fd := ⟨1, 1, [], (.cons (.ret (.and (.isi (.var 0) "int") (.not (.isi (.var 0) "bool")))) .nil)⟩
def d_is_fraction : Fd := ⟨1, 1, [], (.cons (.ifs (.or (.not (.isi (.var 0) "tuple")) (.or (.cmp .ne (.bi .len (.cons (.var 0) .nil)) (.con (.int 2))) (.or (.not (.call "is_whole" (.cons (.idx (.var 0) (.con (.int 0))) .nil))) (.not (.call "is_whole" (.cons (.idx (.var 0) (.con (.int 1))) .nil)))))) (.cons (.ret (.con (.bl false))) .nil) .nil) (.cons (.ret (.and (.cmp .ge (.idx (.var 0) (.con (.int 1))) (.con (.int 1))) (.cmp .eq (.call "fraction" (.cons (.idx (.var 0) (.con (.int 0))) (.cons (.idx (.var 0) (.con (.int 1))) .nil))) (.var 0)))) .nil))⟩
def d_is_weight : Fd := ⟨1, 1, [], (.cons (.ret (.and (.call "is_fraction" (.cons (.var 0) .nil)) (.cmp .gt (.idx (.var 0) (.con (.int 0))) (.con (.int 0))))) .nil)⟩
def d_is_fineness : Fd := ⟨1, 1, [], (.cons (.ret (.and (.call "is_fraction" (.cons (.var 0) .nil)) (.and (.cmp .ge (.idx (.var 0) (.con (.int 0))) (.con (.int 0))) (.not (.call "less" (.cons (.glo "ONE") (.cons (.var 0) .nil))))))) .nil)⟩
def d_Gold_init : Fd := ⟨3, 3, [], (.cons (.ifs (.not (.call "is_weight" (.cons (.var 1) .nil))) (.cons (.rse "" .nil) .nil) .nil) (.cons (.ifs (.not (.call "is_fineness" (.cons (.var 2) .nil))) (.cons (.rse "" .nil) .nil) .nil) (.cons (.sfld (.var 0) "weight" (.var 1)) (.cons (.sfld (.var 0) "fineness" (.var 2)) .nil))))⟩
def d_Gold_pure : Fd := ⟨1, 1, [], (.cons (.ret (.call "times" (.cons (.fld (.var 0) "weight") (.cons (.fld (.var 0) "fineness") .nil)))) .nil)⟩
def d_least_of : Fd := ⟨2, 2, [], (.cons (.ifs (.call "less" (.cons (.var 1) (.cons (.var 0) .nil))) (.cons (.ret (.var 1)) .nil) .nil) (.cons (.ret (.var 0)) .nil))⟩
def d_copper_in : Fd := ⟨1, 1, [], (.cons (.ret (.call "minus" (.cons (.fld (.var 0) "weight") (.cons (.omt "Gold" "pure" (.var 0) .nil) .nil)))) .nil)⟩
def d__law_frac : Fd := ⟨2, 5, [], (.cons (.par 3 4 (.var 0) (.var 1)) (.cons (.whl (.cmp .ne (.var 4) (.con (.int 0))) (.cons (.par 3 4 (.var 4) (.bin .mod (.var 3) (.var 4))) .nil)) (.cons (.asg 2 (.bin .mul (.bi .abs (.cons (.var 3) .nil)) (.bin .sub (.con (.int 1)) (.bin .mul (.con (.int 2)) (.bi .int (.cons (.cmp .lt (.var 1) (.con (.int 0))) .nil)))))) (.cons (.ret (.tup (.cons (.bin .fdiv (.var 0) (.var 2)) (.cons (.bin .fdiv (.var 1) (.var 2)) .nil)))) .nil))))⟩
def d__law_add : Fd := ⟨2, 2, [], (.cons (.ret (.call "_law_frac" (.cons (.bin .add (.bin .mul (.idx (.var 0) (.con (.int 0))) (.idx (.var 1) (.con (.int 1)))) (.bin .mul (.idx (.var 1) (.con (.int 0))) (.idx (.var 0) (.con (.int 1))))) (.cons (.bin .mul (.idx (.var 0) (.con (.int 1))) (.idx (.var 1) (.con (.int 1)))) .nil)))) .nil)⟩
def d__law_sub : Fd := ⟨2, 2, [], (.cons (.ret (.call "_law_frac" (.cons (.bin .sub (.bin .mul (.idx (.var 0) (.con (.int 0))) (.idx (.var 1) (.con (.int 1)))) (.bin .mul (.idx (.var 1) (.con (.int 0))) (.idx (.var 0) (.con (.int 1))))) (.cons (.bin .mul (.idx (.var 0) (.con (.int 1))) (.idx (.var 1) (.con (.int 1)))) .nil)))) .nil)⟩
def d__law_mul : Fd := ⟨2, 2, [], (.cons (.ret (.call "_law_frac" (.cons (.bin .mul (.idx (.var 0) (.con (.int 0))) (.idx (.var 1) (.con (.int 0)))) (.cons (.bin .mul (.idx (.var 0) (.con (.int 1))) (.idx (.var 1) (.con (.int 1)))) .nil)))) .nil)⟩
def d__law_less : Fd := ⟨2, 2, [], (.cons (.ret (.cmp .lt (.bin .mul (.idx (.var 0) (.con (.int 0))) (.idx (.var 1) (.con (.int 1)))) (.bin .mul (.idx (.var 1) (.con (.int 0))) (.idx (.var 0) (.con (.int 1)))))) .nil)⟩
structure GoldT (T : Str → Str → Option Te) (gl : Str → Option W) (fl : Str → List Str) : Prop extends FracT T where
  is_whole : T Str.empty "is_whole" = some (.fn d_is_whole)
  is_fraction : T Str.empty "is_fraction" = some (.fn d_is_fraction)
  is_weight : T Str.empty "is_weight" = some (.fn d_is_weight)
  is_fineness : T Str.empty "is_fineness" = some (.fn d_is_fineness)
  least_of : T Str.empty "least_of" = some (.fn d_least_of)
  copper_in : T Str.empty "copper_in" = some (.fn d_copper_in)
  gold : T Str.empty "Gold" = some .cls
  init : T "Gold" "__init__" = some (.fn d_Gold_init)
  pure : T "Gold" "pure" = some (.fn d_Gold_pure)
  nought : gl "NOUGHT" = some (fr 0)
  one : gl "ONE" = some (fr 1)
  flds : fl "Gold" = [("weight" : Str), ("fineness" : Str)]
structure LawT (T : Str → Str → Option Te) : Prop where
  frac : T Str.empty "_law_frac" = some (.fn d__law_frac)
  add : T Str.empty "_law_add" = some (.fn d__law_add)
  sub : T Str.empty "_law_sub" = some (.fn d__law_sub)
  mul : T Str.empty "_law_mul" = some (.fn d__law_mul)
  less : T Str.empty "_law_less" = some (.fn d__law_less)
section
variable {T : Str → Str → Option Te} {gl : Str → Option W} {fl : Str → List Str} {n : Nat} {s : Vs}
theorem sp_is_whole (G : GoldT T gl fl) (i : Int) : run T gl fl (n + 1) Str.empty "is_whole" [.int i] s = .ok (.bl true) s := by
  refine run_rt G.is_whole rfl (B_ret ?_)
  show den _ _ [some (.int i)] s = _
  simp only [den, denL, test, bind_ok, fin_ok, truth_bl, cmpV_lt, cmpV_le, cmpV_gt, cmpV_ge, binV_add, binV_sub, idx2_0, idx2_1, biV_abs, getO_0, getO_s, set_0, set_s, sif_t, sif_f, if_true, if_false, List.length_cons, List.length_nil, denL, isi_int, isi_bool, Bool.not_false]
theorem sp_is_fraction (G : GoldT T gl fl) {k : Nat} {q : Rat} (h : Sm k q) (hk : k < 9000) : run T gl fl (n + 3) Str.empty "is_fraction" [fr q] s = .ok (.bl true) s := by
  refine run_rt G.is_fraction rfl ?_
  show denB _ (.cons _ (.cons _ .nil)) [some (fr q)] s = _
  rw [B_f (s1 := s) (by simp only [den, denL, test, bind_ok, fin_ok, truth_bl, cmpV_lt, cmpV_le, cmpV_gt, cmpV_ge, binV_add, binV_sub, idx2_0, idx2_1, biV_abs, getO_0, getO_s, set_0, set_s, sif_t, sif_f, if_true, if_false, List.length_cons, List.length_nil, denL, isi_tup, Bool.not_true, len_fr, cmpV_neI, idx_fr0, idx_fr1, sp_is_whole G, decide_true])]
  have hd : (1 : Int) ≤ q.den := by have := den_pos' q; omega
  refine B_ret ?_
  simp only [den, denL, test, bind_ok, fin_ok, truth_bl, cmpV_lt, cmpV_le, cmpV_gt, cmpV_ge, binV_add, binV_sub, idx2_0, idx2_1, biV_abs, getO_0, getO_s, set_0, set_s, sif_t, sif_f, if_true, if_false, List.length_cons, List.length_nil, denL, idx_fr0, idx_fr1, hd, decide_true, sp_fraction G.toFracT (den_ne q) (show ((q.den : Nat) : Int).natAbs < 2 ^ k by rw [Int.natAbs_natCast]; exact h.2) hk, fr_eta, cmpV_eqF]
theorem sp_is_weight (G : GoldT T gl fl) {k : Nat} {q : Rat} (h : Sm k q) (hk : k < 9000) : run T gl fl (n + 4) Str.empty "is_weight" [fr q] s = .ok (.bl (decide (0 < q.num))) s := by
  refine run_rt G.is_weight rfl (B_ret ?_)
  show den _ _ [some (fr q)] s = _
  simp only [den, denL, test, bind_ok, fin_ok, truth_bl, cmpV_lt, cmpV_le, cmpV_gt, cmpV_ge, binV_add, binV_sub, idx2_0, idx2_1, biV_abs, getO_0, getO_s, set_0, set_s, sif_t, sif_f, if_true, if_false, List.length_cons, List.length_nil, denL, sp_is_fraction G h hk, idx_fr0]
theorem sm_one : Sm 1 (1 : Rat) := ⟨by decide, by decide⟩
theorem sm_zero : Sm 1 (0 : Rat) := ⟨by decide, by decide⟩
theorem sp_is_fineness (G : GoldT T gl fl) {k : Nat} {q : Rat} (h : Sm k q) (hk : k < 8000) (h0 : 0 ≤ q.num) (h1 : q ≤ 1) : run T gl fl (n + 4) Str.empty "is_fineness" [fr q] s = .ok (.bl true) s := by
  refine run_rt G.is_fineness rfl (B_ret ?_)
  show den _ _ [some (fr q)] s = _
  have hl : ¬ (1 < q) := Rat.not_lt.mpr h1
  simp only [den, denL, test, bind_ok, fin_ok, truth_bl, cmpV_lt, cmpV_le, cmpV_gt, cmpV_ge, binV_add, binV_sub, idx2_0, idx2_1, biV_abs, getO_0, getO_s, set_0, set_s, sif_t, sif_f, if_true, if_false, List.length_cons, List.length_nil, denL, sp_is_fraction G h (show k < 9000 by omega), idx_fr0, h0, decide_true, G.one, sp_less G.toFracT sm_one h (show 1 + k < 9000 by omega), hl, decide_false, Bool.not_false]
theorem sp_least_of (G : GoldT T gl fl) {k l : Nat} {p q : Rat} (hp : Sm k p) (hq : Sm l q) (h : k + l < 9000) : run T gl fl (n + 2) Str.empty "least_of" [fr p, fr q] s = .ok (fr (if q < p then q else p)) s := by
  refine run_rt G.least_of rfl ?_
  show denB _ (.cons _ (.cons _ .nil)) [some (fr p), some (fr q)] s = _
  by_cases hl : q < p
  · rw [if_pos hl]
    refine B_tr (s1 := s) (by simp only [den, denL, test, bind_ok, fin_ok, truth_bl, cmpV_lt, cmpV_le, cmpV_gt, cmpV_ge, binV_add, binV_sub, idx2_0, idx2_1, biV_abs, getO_0, getO_s, set_0, set_s, sif_t, sif_f, if_true, if_false, List.length_cons, List.length_nil, denL, sp_less G.toFracT hq hp (show l + k < 9000 by omega), hl, decide_true]) (B_ret (by simp only [den, denL, test, bind_ok, fin_ok, truth_bl, cmpV_lt, cmpV_le, cmpV_gt, cmpV_ge, binV_add, binV_sub, idx2_0, idx2_1, biV_abs, getO_0, getO_s, set_0, set_s, sif_t, sif_f, if_true, if_false, List.length_cons, List.length_nil, denL]))
  · rw [if_neg hl, B_f (s1 := s) (by simp only [den, denL, test, bind_ok, fin_ok, truth_bl, cmpV_lt, cmpV_le, cmpV_gt, cmpV_ge, binV_add, binV_sub, idx2_0, idx2_1, biV_abs, getO_0, getO_s, set_0, set_s, sif_t, sif_f, if_true, if_false, List.length_cons, List.length_nil, denL, sp_less G.toFracT hq hp (show l + k < 9000 by omega), hl, decide_false])]
    exact B_ret (by simp only [den, denL, test, bind_ok, fin_ok, truth_bl, cmpV_lt, cmpV_le, cmpV_gt, cmpV_ge, binV_add, binV_sub, idx2_0, idx2_1, biV_abs, getO_0, getO_s, set_0, set_s, sif_t, sif_f, if_true, if_false, List.length_cons, List.length_nil, denL])
/-! ### gold -/
def goldO (w f : Rat) : Ob := .ins "Gold" [("weight", fr w), ("fineness", fr f)]
theorem fld_weight {a : Nat} {w f : Rat} (h : s[a]? = some (goldO w f)) : fldV (.ref a) "weight" s = .ok (fr w) s := by
  show (match s[a]? with | some (.ins _ fs) => _ | _ => Out.err) = _
  rw [h]
  rfl
theorem fld_fineness {a : Nat} {w f : Rat} (h : s[a]? = some (goldO w f)) : fldV (.ref a) "fineness" s = .ok (fr f) s := by
  show (match s[a]? with | some (.ins _ fs) => _ | _ => Out.err) = _
  rw [h]
  rfl
theorem own_pure {a : Nat} {w f : Rat} (h : s[a]? = some (goldO w f)) : ownOk "Gold" "pure" (.ref a) s = true := by
  show (match s[a]? with | some (.ins c' fs) => decide (c' = "Gold") && (fs.lookup ("pure" : Str)).isNone | _ => false) = true
  rw [h]
  rfl
theorem sp_pure (G : GoldT T gl fl) {k l a : Nat} {w f : Rat} (ha : s[a]? = some (goldO w f)) (hw : Sm k w) (hf : Sm l f) (h : k + l < 9000) : run T gl fl (n + 4) "Gold" "pure" [.ref a] s = .ok (fr (w * f)) s := by
  refine run_rt G.pure rfl (B_ret ?_)
  show den _ _ [some (.ref a)] s = _
  simp only [den, denL, test, bind_ok, fin_ok, truth_bl, cmpV_lt, cmpV_le, cmpV_gt, cmpV_ge, binV_add, binV_sub, idx2_0, idx2_1, biV_abs, getO_0, getO_s, set_0, set_s, sif_t, sif_f, if_true, if_false, List.length_cons, List.length_nil, denL, fld_weight ha, fld_fineness ha, sp_times G.toFracT hw hf h]
theorem sp_copper_in (G : GoldT T gl fl) {k l a : Nat} {w f : Rat} (ha : s[a]? = some (goldO w f)) (hw : Sm k w) (hf : Sm l f) (h : k + (k + l) < 9000) : run T gl fl (n + 5) Str.empty "copper_in" [.ref a] s = .ok (fr (w - w * f)) s := by
  refine run_rt G.copper_in rfl (B_ret ?_)
  show den _ _ [some (.ref a)] s = _
  simp only [den, denL, test, bind_ok, fin_ok, truth_bl, cmpV_lt, cmpV_le, cmpV_gt, cmpV_ge, binV_add, binV_sub, idx2_0, idx2_1, biV_abs, getO_0, getO_s, set_0, set_s, sif_t, sif_f, if_true, if_false, List.length_cons, List.length_nil, denL, fld_weight ha, own_pure ha, sp_pure G ha hw hf (show k + l < 9000 by omega), sp_minus G.toFracT hw (sm_mul hw hf) h]
theorem set_last {α : Type} {l : List α} {x y : α} : (l ++ [x]).set l.length y = l ++ [y] := by
  rw [List.set_append_right _ _ (Nat.le_refl _), Nat.sub_self]
  rfl
theorem get_last {α : Type} {l : List α} {x : α} : (l ++ [x])[l.length]? = some x := by
  rw [List.getElem?_append_right (Nat.le_refl _), Nat.sub_self]
  rfl
theorem sfld_last {c f : Str} {v : W} {fs : List (Str × W)} (hl : fs.length < 1000) (h : (fl c).contains f = true) : sfldV fl (.ref s.length) f v (s ++ [.ins c fs]) = some (s ++ [.ins c (putW f v fs)]) := by
  show (match (s ++ [Ob.ins c fs])[s.length]? with | some (Ob.ins c' fs') => if decide (fs'.length < 1000) && (fl c').contains f then some ((s ++ [Ob.ins c fs]).set s.length (Ob.ins c' (putW f v fs'))) else none | _ => none) = _
  rw [get_last]
  show (if decide (fs.length < 1000) && (fl c).contains f then some (_ : Vs) else none) = _
  rw [decide_eq_true hl, h]
  show some ((s ++ [Ob.ins c fs]).set s.length _) = _
  rw [set_last]
theorem sp_Gold (G : GoldT T gl fl) {k l : Nat} {w f : Rat} (hw : Sm k w) (hf : Sm l f) (hk : k < 8000) (hl : l < 8000) (h0 : 0 < w) (h1 : 0 ≤ f) (h2 : f ≤ 1) : run T gl fl (n + 6) Str.empty "Gold" [fr w, fr f] s = .ok (.ref s.length) (s ++ [goldO w f]) := by
  have w0 : 0 < w.num := by
    have := Rat.num_nonneg.mpr (Rat.le_of_lt h0)
    have : w.num ≠ 0 := fun z => Rat.ne_of_gt h0 (Rat.num_eq_zero.mp z)
    omega
  have init : run T gl fl (n + 5) "Gold" "__init__" [.ref s.length, fr w, fr f] (s ++ [.ins "Gold" []]) = .ok .non (s ++ [goldO w f]) := by
    rw [run_fn G.init rfl]
    refine runB_nx (r := [some (.ref s.length), some (fr w), some (fr f)]) ?_
    show denB _ (.cons _ (.cons _ (.cons _ (.cons _ .nil)))) [some (.ref s.length), some (fr w), some (fr f)] _ = _
    rw [B_f (s1 := s ++ [.ins "Gold" []]) (by simp only [den, denL, test, bind_ok, fin_ok, truth_bl, cmpV_lt, cmpV_le, cmpV_gt, cmpV_ge, binV_add, binV_sub, idx2_0, idx2_1, biV_abs, getO_0, getO_s, set_0, set_s, sif_t, sif_f, if_true, if_false, List.length_cons, List.length_nil, denL, sp_is_weight G hw (show k < 9000 by omega), w0, decide_true, Bool.not_true])]
    rw [B_f (s1 := s ++ [.ins "Gold" []]) (by simp only [den, denL, test, bind_ok, fin_ok, truth_bl, cmpV_lt, cmpV_le, cmpV_gt, cmpV_ge, binV_add, binV_sub, idx2_0, idx2_1, biV_abs, getO_0, getO_s, set_0, set_s, sif_t, sif_f, if_true, if_false, List.length_cons, List.length_nil, denL, sp_is_fineness G hf hl (Rat.num_nonneg.mpr h1) h2, Bool.not_true])]
    rw [B_sfld (w := fr w) (x := .ref s.length) (s1 := s ++ [.ins "Gold" []]) (s2 := s ++ [.ins "Gold" []]) (s' := s ++ [.ins "Gold" [("weight", fr w)]]) (by simp only [den, denL, test, bind_ok, fin_ok, truth_bl, cmpV_lt, cmpV_le, cmpV_gt, cmpV_ge, binV_add, binV_sub, idx2_0, idx2_1, biV_abs, getO_0, getO_s, set_0, set_s, sif_t, sif_f, if_true, if_false, List.length_cons, List.length_nil, denL]) (by simp only [den, denL, test, bind_ok, fin_ok, truth_bl, cmpV_lt, cmpV_le, cmpV_gt, cmpV_ge, binV_add, binV_sub, idx2_0, idx2_1, biV_abs, getO_0, getO_s, set_0, set_s, sif_t, sif_f, if_true, if_false, List.length_cons, List.length_nil, denL]) (sfld_last (by decide) (by show (fl "Gold").contains _ = true; rw [G.flds]; rfl))]
    rw [B_sfld (w := fr f) (x := .ref s.length) (s1 := s ++ [.ins "Gold" [("weight", fr w)]]) (s2 := s ++ [.ins "Gold" [("weight", fr w)]]) (s' := s ++ [goldO w f]) (by simp only [den, denL, test, bind_ok, fin_ok, truth_bl, cmpV_lt, cmpV_le, cmpV_gt, cmpV_ge, binV_add, binV_sub, idx2_0, idx2_1, biV_abs, getO_0, getO_s, set_0, set_s, sif_t, sif_f, if_true, if_false, List.length_cons, List.length_nil, denL]) (by simp only [den, denL, test, bind_ok, fin_ok, truth_bl, cmpV_lt, cmpV_le, cmpV_gt, cmpV_ge, binV_add, binV_sub, idx2_0, idx2_1, biV_abs, getO_0, getO_s, set_0, set_s, sif_t, sif_f, if_true, if_false, List.length_cons, List.length_nil, denL]) (sfld_last (by show 1 < 1000; omega) (by show (fl "Gold").contains _ = true; rw [G.flds]; rfl))]
    exact B_nil
  rw [run, G.gold]
  show (match run T gl fl (n + 5) "Gold" "__init__" [.ref s.length, fr w, fr f] (s ++ [.ins "Gold" []]) with | .ok .non s' => Out.ok (W.ref s.length) s' | .exc x s' => .exc x s' | _ => .err) = _
  rw [init]
end
end Vm
set_option Elab.async false
set_option linter.all false
set_option maxRecDepth 100000
set_option maxHeartbeats 2000000
/-! The law's own draws and fractions. -/
namespace Vm
open PySem
theorem mf {i j : Int} (hi : i.natAbs < 2 ^ 250) (hj : j.natAbs < 2 ^ 250) : mulFits i j = true := mulFits_of hi hj (by omega)
theorem binV_modP {i j : Int} (h : 0 < j) (s : Vs) : binV .mod (.int i) (.int j) s = .ok (.int (i % j)) s := by rw [binV_mod (by omega), Int.fmod_eq_emod_of_nonneg _ (by omega)]
theorem binV_fdivP {i j : Int} (h : 0 < j) (h2 : j.natAbs < 2 ^ 250) (s : Vs) : binV .fdiv (.int i) (.int j) s = .ok (.int (i / j)) s := by
  have := log2_le h2
  rw [binV_fdiv (by omega) (by omega), Int.fdiv_eq_ediv_of_nonneg _ (by omega)]
theorem binV_pow {i j : Int} (h : 0 ≤ j ∧ j ≤ 1000000 ∧ i.natAbs < 2 ^ 64) (s : Vs) : binV .pow (.int i) (.int j) s = .ok (.int (i ^ j.toNat)) s := if_pos (decide_eq_true h)
theorem pow60 (s : Vs) : binV .pow (.int 10) (.int 60) s = .ok (.int (10 ^ 60)) s := binV_pow (by decide) s
theorem pow18 (s : Vs) : binV .pow (.int 10) (.int 18) s = .ok (.int (10 ^ 18)) s := binV_pow (by decide) s
theorem pow6 (s : Vs) : binV .pow (.int 10) (.int 6) s = .ok (.int (10 ^ 6)) s := binV_pow (by decide) s
theorem pow9 (s : Vs) : binV .pow (.int 10) (.int 9) s = .ok (.int (10 ^ 9)) s := binV_pow (by decide) s
theorem atI_nat {α : Type} {l : List α} {i : Int} {x : α} (h0 : 0 ≤ i) (h : l[i.toNat]? = some x) : L2.atI l i = some x := by
  have hl : i.toNat < l.length := (List.getElem?_eq_some_iff.mp h).1
  unfold L2.atI L2.ixN
  rw [if_pos h0, if_pos (by omega)]
  exact h
theorem idx_scr {l : List Int} {i x : Int} (h0 : 0 ≤ i) (h : l[i.toNat]? = some x) (s : Vs) : idxV (.scr l) (.int i) s = .ok (.int x) s := by
  show (match L2.atI l i with | some j => Out.ok (W.int j) s | none => .err) = _
  rw [atI_nat h0 h]
theorem lst_at {s : Vs} {a : Nat} {l : List W} (h : s[a]? = some (.lst l)) : lstAt s a = some l := by
  unfold lstAt
  rw [h]
theorem len_scr (l : List Int) (s : Vs) : biV .len [.scr l] s = .ok (.int l.length) s := rfl
theorem idx_ref {s : Vs} {a : Nat} {l : List W} {i : Int} {x : W} (h : s[a]? = some (.lst l)) (h0 : 0 ≤ i) (hx : l[i.toNat]? = some x) : idxV (.ref a) (.int i) s = .ok x s := by
  show (match lstAt s a with | some l => (match L2.atI l i with | some w => Out.ok w s | none => .err) | none => .err) = _
  rw [lst_at h]
  show (match L2.atI l i with | some w => Out.ok w s | none => .err) = _
  rw [atI_nat h0 hx]
theorem setV_ref {s : Vs} {a : Nat} {l : List W} {i : Int} {v : W} (h : s[a]? = some (.lst l)) (h0 : 0 ≤ i) (hi : i.toNat < l.length) : setV (.ref a) (.int i) v s = some (s.set a (.lst (l.set i.toNat v))) := by
  show (match s[a]? with | some (.lst l) => (match L2.ixN l.length i with | some j => some (s.set a (.lst (l.set j v))) | none => none) | _ => none) = _
  rw [h]
  show (match L2.ixN l.length i with | some j => some (s.set a (.lst (l.set j v))) | none => none) = _
  unfold L2.ixN
  rw [if_pos h0, if_pos (by omega)]
/-! ### frames -/
/-- all but b stands as before -/
structure Fr (b : Nat → Prop) (s s' : Vs) : Prop where
  len : s.length ≤ s'.length
  at_ : ∀ i, i < s.length → ¬ b i → s'[i]? = s[i]?
theorem Fr.refl {b : Nat → Prop} {s : Vs} : Fr b s s := ⟨Nat.le_refl _, fun _ _ _ => rfl⟩
theorem Fr.trans {b : Nat → Prop} {s s1 s2 : Vs} (h : Fr b s s1) (k : Fr b s1 s2) : Fr b s s2 := ⟨Nat.le_trans h.len k.len, fun i hi hb => (k.at_ i (Nat.lt_of_lt_of_le hi h.len) hb).trans (h.at_ i hi hb)⟩
theorem Fr.mono {b c : Nat → Prop} {s s1 : Vs} (h : Fr b s s1) (k : ∀ i, b i → c i) : Fr c s s1 := ⟨h.len, fun i hi hb => h.at_ i hi fun z => hb (k i z)⟩
theorem Fr.app {b : Nat → Prop} {s t : Vs} : Fr b s (s ++ t) := ⟨by rw [List.length_append]; omega, fun i hi _ => List.getElem?_append_left hi⟩
theorem Fr.set {b : Nat → Prop} {s : Vs} {a : Nat} {o : Ob} (h : b a) : Fr b s (s.set a o) := ⟨by rw [List.length_set]; omega, fun i _ hb => List.getElem?_set_ne (by rintro rfl; exact hb h)⟩
theorem Fr.get {b : Nat → Prop} {s s1 : Vs} (h : Fr b s s1) {i : Nat} {o : Ob} (hi : s[i]? = some o) (hb : ¬ b i) : s1[i]? = some o := by
  have : i < s.length := (List.getElem?_eq_some_iff.mp hi).1
  rw [h.at_ i this hb, hi]
theorem lt_of_get {s : Vs} {i : Nat} {o : Ob} (hi : s[i]? = some o) : i < s.length := (List.getElem?_eq_some_iff.mp hi).1
/-- a frame from a place on: what lies behind it may change -/
theorem Fr.weak {b c : Nat → Prop} {s s1 s2 : Vs} (h : Fr b s s1) (k : Fr c s1 s2) (hc : ∀ i, i < s.length → c i → b i) : Fr b s s2 :=
  ⟨Nat.le_trans h.len k.len, fun i hi hb => (k.at_ i (Nat.lt_of_lt_of_le hi h.len) fun z => hb (hc i hi z)).trans (h.at_ i hi hb)⟩
/-! ### the bag -/
def BagOk (s : Vs) (b : Nat) : Prop := ∃ c d : Int, s[b]? = some (.lst [.int c, .int d]) ∧ 0 ≤ c ∧ c < 10 ^ 60 ∧ 0 ≤ d ∧ d < 2 ^ 31
theorem BagOk.lt {s : Vs} {b : Nat} (h : BagOk s b) : b < s.length := by
  obtain ⟨c, d, h, _⟩ := h
  exact lt_of_get h
theorem BagOk.fr {s s' : Vs} {b : Nat} {x : Nat → Prop} (h : BagOk s b) (f : Fr x s s') (hx : ¬ x b) : BagOk s' b := by
  obtain ⟨c, d, h, r⟩ := h
  exact ⟨c, d, f.get h hx, r⟩
def d__law_bag : Fd := ⟨2, 4, [], (.cons (.asg 2 (.con (.int 0))) (.cons (.ifs (.cmp .lt (.var 1) (.bi .len (.cons (.var 0) .nil))) (.cons (.asg 2 (.bin .mod (.idx (.var 0) (.var 1)) (.bin .pow (.con (.int 10)) (.con (.int 60))))) .nil) .nil) (.cons (.asg 3 (.bin .add (.con (.int 1)) (.bin .mod (.bin .add (.bin .add (.bin .add (.bin .mul (.bin .mod (.var 2) (.con (.int 2147483629))) (.con (.int 16807))) (.bin .mul (.bin .mul (.con (.int 40009)) (.var 1)) (.var 1))) (.bin .mul (.con (.int 7919)) (.var 1))) (.con (.int 1009))) (.con (.int 2147483645))))) (.cons (.ifs (.cmp .lt (.var 2) (.bin .pow (.con (.int 10)) (.con (.int 18)))) (.cons (.ret (.lst (.cons (.con (.int 0)) (.cons (.var 3) .nil)))) .nil) .nil) (.cons (.ret (.lst (.cons (.var 2) (.cons (.var 3) .nil)))) .nil)))))⟩
def d__law_take : Fd := ⟨2, 3, [], (.cons (.ifs (.cmp .gt (.idx (.var 0) (.con (.int 0))) (.con (.int 0))) (.cons (.asg 2 (.bin .mod (.idx (.var 0) (.con (.int 0))) (.var 1))) (.cons (.ssub (.var 0) (.con (.int 0)) (.bin .fdiv (.idx (.var 0) (.con (.int 0))) (.var 1))) (.cons (.ret (.var 2)) .nil))) .nil) (.cons (.ssub (.var 0) (.con (.int 1)) (.bin .mod (.bin .mul (.idx (.var 0) (.con (.int 1))) (.con (.int 48271))) (.con (.int 2147483647)))) (.cons (.ret (.bin .mod (.bin .fdiv (.bin .mod (.bin .mul (.bin .fdiv (.idx (.var 0) (.con (.int 1))) (.con (.int 13))) (.bin .add (.bin .mod (.idx (.var 0) (.con (.int 1))) (.con (.int 32749))) (.con (.int 17)))) (.con (.int 2147483629))) (.con (.int 32))) (.var 1))) .nil)))⟩
def d__law_weight : Fd := ⟨1, 2, [], (.cons (.asg 1 (.idx (.lst (.cons (.con (.int 12)) (.cons (.con (.int 99)) (.cons (.bin .pow (.con (.int 10)) (.con (.int 6))) .nil)))) (.call "_law_take" (.cons (.var 0) (.cons (.con (.int 3)) .nil))))) (.cons (.ret (.call "_law_frac" (.cons (.bin .add (.con (.int 1)) (.call "_law_take" (.cons (.var 0) (.cons (.var 1) .nil)))) (.cons (.bin .add (.con (.int 1)) (.call "_law_take" (.cons (.var 0) (.cons (.idx (.lst (.cons (.con (.int 1)) (.cons (.con (.int 4)) (.cons (.var 1) .nil)))) (.call "_law_take" (.cons (.var 0) (.cons (.con (.int 3)) .nil)))) .nil)))) .nil)))) .nil))⟩
def d__law_fine : Fd := ⟨1, 2, [], (.cons (.asg 1 (.idx (.lst (.cons (.con (.int 1)) (.cons (.con (.int 4)) (.cons (.con (.int 24)) (.cons (.con (.int 1000)) .nil))))) (.call "_law_take" (.cons (.var 0) (.cons (.con (.int 4)) .nil))))) (.cons (.ret (.call "_law_frac" (.cons (.call "_law_take" (.cons (.var 0) (.cons (.bin .add (.var 1) (.con (.int 1))) .nil))) (.cons (.var 1) .nil)))) .nil))⟩
structure DrawT (T : Str → Str → Option Te) : Prop where
  bag : T Str.empty "_law_bag" = some (.fn d__law_bag)
  take : T Str.empty "_law_take" = some (.fn d__law_take)
section
variable {T : Str → Str → Option Te} {gl : Str → Option W} {fl : Str → List Str} {n : Nat} {s : Vs}
theorem sp_bag (F : DrawT T) (ns : List Int) (k : Nat) (hk : k < 1000) : ∃ s', run T gl fl (n + 1) Str.empty "_law_bag" [.scr ns, .int k] s = .ok (.ref s.length) s' ∧ BagOk s' s.length ∧ Fr (fun _ => False) s s' := by
  -- the cell
  have cell : ∃ c : Int, 0 ≤ c ∧ c < 10 ^ 60 ∧ ∀ (b : IB), denB ⟨run T gl fl n, gl, fl⟩ (.cons (.asg 2 (.con (.int 0))) (.cons (.ifs (.cmp .lt (.var 1) (.bi .len (.cons (.var 0) .nil))) (.cons (.asg 2 (.bin .mod (.idx (.var 0) (.var 1)) (.bin .pow (.con (.int 10)) (.con (.int 60))))) .nil) .nil) b)) [some (.scr ns), some (.int k), none, none] s
      = denB ⟨run T gl fl n, gl, fl⟩ b [some (.scr ns), some (.int k), some (.int c), none] s := by
    by_cases h : k < ns.length
    · refine ⟨ns[k] % 10 ^ 60, Int.emod_nonneg _ (by decide), Int.emod_lt_of_pos _ (by decide), fun b => ?_⟩
      rw [B_asg (w := .int 0) (s1 := s) (by simp only [den, denL, test, bind_ok, fin_ok, truth_bl, cmpV_lt, cmpV_le, cmpV_gt, cmpV_ge, binV_add, binV_sub, idx2_0, idx2_1, biV_abs, getO_0, getO_s, set_0, set_s, sif_t, sif_f, if_true, if_false, List.length_cons, List.length_nil, denL])]
      have h2 : (k : Int) < (ns.length : Int) := by omega
      have h3 : ns[((k : Nat) : Int).toNat]? = some ns[k] := by rw [Int.toNat_natCast]; exact List.getElem?_eq_getElem h
      refine B_tt (s1 := s) ?_ ?_
      · simp only [den, denL, test, bind_ok, fin_ok, truth_bl, cmpV_lt, cmpV_le, cmpV_gt, cmpV_ge, binV_add, binV_sub, idx2_0, idx2_1, biV_abs, getO_0, getO_s, set_0, set_s, sif_t, sif_f, if_true, if_false, List.length_cons, List.length_nil, denL, len_scr, h2, decide_true]
      · rw [B_asg (w := .int (ns[k] % 10 ^ 60)) (s1 := s) (by simp only [den, denL, test, bind_ok, fin_ok, truth_bl, cmpV_lt, cmpV_le, cmpV_gt, cmpV_ge, binV_add, binV_sub, idx2_0, idx2_1, biV_abs, getO_0, getO_s, set_0, set_s, sif_t, sif_f, if_true, if_false, List.length_cons, List.length_nil, denL, idx_scr (show (0 : Int) ≤ k by omega) h3, pow60, binV_modP (show (0 : Int) < 10 ^ 60 by decide)])]
        exact B_nil
    · refine ⟨0, by decide, by decide, fun b => ?_⟩
      rw [B_asg (w := .int 0) (s1 := s) (by simp only [den, denL, test, bind_ok, fin_ok, truth_bl, cmpV_lt, cmpV_le, cmpV_gt, cmpV_ge, binV_add, binV_sub, idx2_0, idx2_1, biV_abs, getO_0, getO_s, set_0, set_s, sif_t, sif_f, if_true, if_false, List.length_cons, List.length_nil, denL])]
      have h2 : ¬ (k : Int) < (ns.length : Int) := by omega
      refine B_f (s1 := s) ?_
      simp only [den, denL, test, bind_ok, fin_ok, truth_bl, cmpV_lt, cmpV_le, cmpV_gt, cmpV_ge, binV_add, binV_sub, idx2_0, idx2_1, biV_abs, getO_0, getO_s, set_0, set_s, sif_t, sif_f, if_true, if_false, List.length_cons, List.length_nil, denL, len_scr, h2, decide_false]
  obtain ⟨c, c0, c1, hc⟩ := cell
  have kk : (k : Int) * k < 1000 * 1000 := by
    have : k * k < 1000 * 1000 := Nat.mul_lt_mul'' hk hk
    rw [← Int.natCast_mul]
    omega
  have k0 : (0 : Int) ≤ (k : Int) * k := by rw [← Int.natCast_mul]; omega
  have e40 : (40009 * (k : Int)) * k = 40009 * ((k : Int) * k) := Int.mul_assoc ..
  generalize hd : 1 + ((c % 2147483629 * 16807 + 40009 * (k : Int) * k + 7919 * (k : Int) + 1009) % 2147483645) = d
  have d0 : 0 ≤ d := by omega
  have d1 : d < 2 ^ 31 := by omega
  have run2 : ∀ (w : W) (s' : Vs), (denB ⟨run T gl fl n, gl, fl⟩ (.cons (.ifs (.cmp .lt (.var 2) (.bin .pow (.con (.int 10)) (.con (.int 18)))) (.cons (.ret (.lst (.cons (.con (.int 0)) (.cons (.var 3) .nil)))) .nil) .nil) (.cons (.ret (.lst (.cons (.var 2) (.cons (.var 3) .nil)))) .nil)) [some (.scr ns), some (.int k), some (.int c), some (.int d)] s = .rt w s') → run T gl fl (n + 1) Str.empty "_law_bag" [.scr ns, .int k] s = .ok w s' := fun w s' h => by
    refine run_rt F.bag rfl ?_
    show denB _ (.cons _ (.cons _ (.cons _ _))) [some (.scr ns), some (.int k), none, none] s = _
    rw [hc]
    have m1 : mulFits (c % 2147483629) 16807 = true := mf (by omega) (by decide)
    have m2 : mulFits 40009 (k : Int) = true := mf (by decide) (by omega)
    have m3 : mulFits (40009 * (k : Int)) k = true := mf (by omega) (by omega)
    have m4 : mulFits 7919 (k : Int) = true := mf (by decide) (by omega)
    rw [B_asg (w := .int d) (s1 := s) (by simp only [den, denL, test, bind_ok, fin_ok, truth_bl, cmpV_lt, cmpV_le, cmpV_gt, cmpV_ge, binV_add, binV_sub, idx2_0, idx2_1, biV_abs, getO_0, getO_s, set_0, set_s, sif_t, sif_f, if_true, if_false, List.length_cons, List.length_nil, denL, binV_modP (show (0 : Int) < 2147483629 by decide), binV_modP (show (0 : Int) < 2147483645 by decide), binV_mul m1, binV_mul m2, binV_mul m3, binV_mul m4, hd])]
    exact h
  by_cases h18 : c < 10 ^ 18
  · refine ⟨s ++ [.lst [.int 0, .int d]], run2 _ _ ?_, ⟨0, d, get_last, by decide, by decide, d0, d1⟩, Fr.app⟩
    refine B_tr (s1 := s) (by simp only [den, denL, test, bind_ok, fin_ok, truth_bl, cmpV_lt, cmpV_le, cmpV_gt, cmpV_ge, binV_add, binV_sub, idx2_0, idx2_1, biV_abs, getO_0, getO_s, set_0, set_s, sif_t, sif_f, if_true, if_false, List.length_cons, List.length_nil, denL, pow18, h18, decide_true]) (B_ret ?_)
    simp only [den, denL, test, bind_ok, fin_ok, truth_bl, cmpV_lt, cmpV_le, cmpV_gt, cmpV_ge, binV_add, binV_sub, idx2_0, idx2_1, biV_abs, getO_0, getO_s, set_0, set_s, sif_t, sif_f, if_true, if_false, List.length_cons, List.length_nil, denL]
    rfl
  · refine ⟨s ++ [.lst [.int c, .int d]], run2 _ _ ?_, ⟨c, d, get_last, c0, c1, d0, d1⟩, Fr.app⟩
    rw [B_f (s1 := s) (by simp only [den, denL, test, bind_ok, fin_ok, truth_bl, cmpV_lt, cmpV_le, cmpV_gt, cmpV_ge, binV_add, binV_sub, idx2_0, idx2_1, biV_abs, getO_0, getO_s, set_0, set_s, sif_t, sif_f, if_true, if_false, List.length_cons, List.length_nil, denL, pow18, h18, decide_false])]
    refine B_ret ?_
    simp only [den, denL, test, bind_ok, fin_ok, truth_bl, cmpV_lt, cmpV_le, cmpV_gt, cmpV_ge, binV_add, binV_sub, idx2_0, idx2_1, biV_abs, getO_0, getO_s, set_0, set_s, sif_t, sif_f, if_true, if_false, List.length_cons, List.length_nil, denL]
    rfl
theorem sp_take (F : DrawT T) {b : Nat} {m : Int} (h : BagOk s b) (hm : 0 < m) (hm2 : m < 2 ^ 60) : ∃ r s', run T gl fl (n + 1) Str.empty "_law_take" [.ref b, .int m] s = .ok (.int r) s' ∧ 0 ≤ r ∧ r < m ∧ BagOk s' b ∧ Fr (· = b) s s' ∧ s'.length = s.length := by
  obtain ⟨c, d, hb, c0, c1, d0, d1⟩ := h
  have hl := lt_of_get hb
  have i0 : idxV (.ref b) (.int 0) s = .ok (.int c) s := idx_ref hb (by decide) rfl
  have i1 : idxV (.ref b) (.int 1) s = .ok (.int d) s := idx_ref hb (by decide) rfl
  by_cases hc : 0 < c
  · refine ⟨c % m, s.set b (.lst [.int (c / m), .int d]), ?_, Int.emod_nonneg _ (by omega), Int.emod_lt_of_pos _ hm, ⟨c / m, d, List.getElem?_set_self hl, Int.ediv_nonneg c0 (by omega), ?_, d0, d1⟩, Fr.set rfl, List.length_set⟩
    · refine run_rt F.take rfl ?_
      show denB _ (.cons _ (.cons _ _)) [some (.ref b), some (.int m), none] s = _
      refine B_tr (s1 := s) (by simp only [den, denL, test, bind_ok, fin_ok, truth_bl, cmpV_lt, cmpV_le, cmpV_gt, cmpV_ge, binV_add, binV_sub, idx2_0, idx2_1, biV_abs, getO_0, getO_s, set_0, set_s, sif_t, sif_f, if_true, if_false, List.length_cons, List.length_nil, denL, i0, hc, decide_true]) ?_
      rw [B_asg (w := .int (c % m)) (s1 := s) (by simp only [den, denL, test, bind_ok, fin_ok, truth_bl, cmpV_lt, cmpV_le, cmpV_gt, cmpV_ge, binV_add, binV_sub, idx2_0, idx2_1, biV_abs, getO_0, getO_s, set_0, set_s, sif_t, sif_f, if_true, if_false, List.length_cons, List.length_nil, denL, i0, binV_modP hm])]
      rw [B_ssub (w := .int (c / m)) (x := .ref b) (k := .int 0) (s1 := s) (s2 := s) (s3 := s) (s' := s.set b (.lst [.int (c / m), .int d])) (by simp only [den, denL, test, bind_ok, fin_ok, truth_bl, cmpV_lt, cmpV_le, cmpV_gt, cmpV_ge, binV_add, binV_sub, idx2_0, idx2_1, biV_abs, getO_0, getO_s, set_0, set_s, sif_t, sif_f, if_true, if_false, List.length_cons, List.length_nil, denL, i0, binV_fdivP hm (show m.natAbs < 2 ^ 250 by omega)]) (by simp only [den, denL, test, bind_ok, fin_ok, truth_bl, cmpV_lt, cmpV_le, cmpV_gt, cmpV_ge, binV_add, binV_sub, idx2_0, idx2_1, biV_abs, getO_0, getO_s, set_0, set_s, sif_t, sif_f, if_true, if_false, List.length_cons, List.length_nil, denL]) (by simp only [den, denL, test, bind_ok, fin_ok, truth_bl, cmpV_lt, cmpV_le, cmpV_gt, cmpV_ge, binV_add, binV_sub, idx2_0, idx2_1, biV_abs, getO_0, getO_s, set_0, set_s, sif_t, sif_f, if_true, if_false, List.length_cons, List.length_nil, denL]) (setV_ref hb (by decide) (by show 0 < 2; omega))]
      exact B_ret (by simp only [den, denL, test, bind_ok, fin_ok, truth_bl, cmpV_lt, cmpV_le, cmpV_gt, cmpV_ge, binV_add, binV_sub, idx2_0, idx2_1, biV_abs, getO_0, getO_s, set_0, set_s, sif_t, sif_f, if_true, if_false, List.length_cons, List.length_nil, denL])
    · exact Int.lt_of_le_of_lt (Int.ediv_le_self _ c0) c1
  · generalize hd : d * 48271 % 2147483647 = d2
    have e0 : 0 ≤ d2 := by omega
    have e1 : d2 < 2 ^ 31 := by omega
    generalize hr : d2 / 13 * (d2 % 32749 + 17) % 2147483629 / 32 = r2
    have g2 : (s.set b (.lst [.int c, .int d2]))[b]? = some (.lst [.int c, .int d2]) := List.getElem?_set_self hl
    have j1 : idxV (.ref b) (.int 1) (s.set b (.lst [.int c, .int d2])) = .ok (.int d2) (s.set b (.lst [.int c, .int d2])) := idx_ref g2 (by decide) rfl
    refine ⟨r2 % m, s.set b (.lst [.int c, .int d2]), ?_, Int.emod_nonneg _ (by omega), Int.emod_lt_of_pos _ hm, ⟨c, d2, g2, c0, c1, e0, e1⟩, Fr.set rfl, List.length_set⟩
    refine run_rt F.take rfl ?_
    show denB _ (.cons _ (.cons _ _)) [some (.ref b), some (.int m), none] s = _
    rw [B_f (s1 := s) (by simp only [den, denL, test, bind_ok, fin_ok, truth_bl, cmpV_lt, cmpV_le, cmpV_gt, cmpV_ge, binV_add, binV_sub, idx2_0, idx2_1, biV_abs, getO_0, getO_s, set_0, set_s, sif_t, sif_f, if_true, if_false, List.length_cons, List.length_nil, denL, i0, hc, decide_false])]
    have m1 : mulFits d 48271 = true := mf (by omega) (by decide)
    have m2 : mulFits (d2 / 13) (d2 % 32749 + 17) = true := mf (by omega) (by omega)
    rw [B_ssub (w := .int d2) (x := .ref b) (k := .int 1) (s1 := s) (s2 := s) (s3 := s) (s' := s.set b (.lst [.int c, .int d2])) (by simp only [den, denL, test, bind_ok, fin_ok, truth_bl, cmpV_lt, cmpV_le, cmpV_gt, cmpV_ge, binV_add, binV_sub, idx2_0, idx2_1, biV_abs, getO_0, getO_s, set_0, set_s, sif_t, sif_f, if_true, if_false, List.length_cons, List.length_nil, denL, i1, binV_mul m1, binV_modP (show (0 : Int) < 2147483647 by decide), hd]) (by simp only [den, denL, test, bind_ok, fin_ok, truth_bl, cmpV_lt, cmpV_le, cmpV_gt, cmpV_ge, binV_add, binV_sub, idx2_0, idx2_1, biV_abs, getO_0, getO_s, set_0, set_s, sif_t, sif_f, if_true, if_false, List.length_cons, List.length_nil, denL]) (by simp only [den, denL, test, bind_ok, fin_ok, truth_bl, cmpV_lt, cmpV_le, cmpV_gt, cmpV_ge, binV_add, binV_sub, idx2_0, idx2_1, biV_abs, getO_0, getO_s, set_0, set_s, sif_t, sif_f, if_true, if_false, List.length_cons, List.length_nil, denL]) (setV_ref hb (by decide) (by show 1 < 2; omega))]
    refine B_ret ?_
    simp only [den, denL, test, bind_ok, fin_ok, truth_bl, cmpV_lt, cmpV_le, cmpV_gt, cmpV_ge, binV_add, binV_sub, idx2_0, idx2_1, biV_abs, getO_0, getO_s, set_0, set_s, sif_t, sif_f, if_true, if_false, List.length_cons, List.length_nil, denL, j1, binV_fdivP (show (0 : Int) < 13 by decide) (by decide), binV_modP (show (0 : Int) < 32749 by decide), binV_mul m2, binV_modP (show (0 : Int) < 2147483629 by decide), binV_fdivP (show (0 : Int) < 32 by decide) (by decide), binV_modP hm, hr]
end
end Vm
set_option Elab.async false
set_option linter.all false
set_option maxRecDepth 100000
set_option maxHeartbeats 2000000
/-! The law's own fractions, weights and finenesses. -/
namespace Vm
open PySem
theorem int_bl (b : Bool) (s : Vs) : biV .int [.bl b] s = .ok (.int (if b then 1 else 0)) s := rfl
theorem fits1 : fits (0 + 1) = true := by decide
theorem fits2 : fits (0 + 1 + 1) = true := by decide
theorem fits3 : fits (0 + 1 + 1 + 1) = true := by decide
theorem fits4 : fits (0 + 1 + 1 + 1 + 1) = true := by decide
theorem fits5 : fits (0 + 1 + 1 + 1 + 1 + 1) = true := by decide
theorem fits6 : fits (0 + 1 + 1 + 1 + 1 + 1 + 1) = true := by decide
theorem fits7 : fits (0 + 1 + 1 + 1 + 1 + 1 + 1 + 1) = true := by decide
theorem fits8 : fits (0 + 1 + 1 + 1 + 1 + 1 + 1 + 1 + 1) = true := by decide
theorem newL_eq (l : List W) (s : Vs) : newL l s = .ok (.ref s.length) (s ++ [.lst l]) := rfl
/-- the loop of _law_frac -/
theorem euclidN {D : Wd} {s : Vs} {x0 x1 x2 : Option W} : ∀ (b a : Nat), ∃ k, iter (test D (.cmp .ne (.var 4) (.con (.int 0)))) (denB D (.cons (.par 3 4 (.var 4) (.bin .mod (.var 3) (.var 4))) .nil)) k [x0, x1, x2, some (.int a), some (.int b)] s = .nx [x0, x1, x2, some (.int (Nat.gcd a b)), some (.int 0)] s := by
  intro b
  induction b using Nat.strongRecOn with
  | _ b ih =>
    intro a
    by_cases hb : b = 0
    · subst hb
      refine ⟨1, ?_⟩
      rw [iter_stop (s1 := s) (by simp only [den, denL, test, bind_ok, fin_ok, truth_bl, cmpV_lt, cmpV_le, cmpV_gt, cmpV_ge, binV_add, binV_sub, idx2_0, idx2_1, biV_abs, getO_0, getO_s, set_0, set_s, sif_t, sif_f, if_true, if_false, List.length_cons, List.length_nil, denL, cmpV_neI]; rfl)]
      rw [Nat.gcd_zero_right]
      rfl
    · obtain ⟨k, hk⟩ := ih (a % b) (Nat.mod_lt _ (by omega)) b
      refine ⟨k + 1, ?_⟩
      have hb' : ¬ ((b : Int) = 0) := by omega
      have hb2 : (b : Int) ≠ 0 := by omega
      rw [iter_go (s1 := s) (r' := [x0, x1, x2, some (.int b), some (.int ((a % b : Nat) : Int))]) (s' := s) (by simp only [den, denL, test, bind_ok, fin_ok, truth_bl, cmpV_lt, cmpV_le, cmpV_gt, cmpV_ge, binV_add, binV_sub, idx2_0, idx2_1, biV_abs, getO_0, getO_s, set_0, set_s, sif_t, sif_f, if_true, if_false, List.length_cons, List.length_nil, denL, cmpV_neI, hb', decide_false, Bool.not_false]) (by rw [B_par (x := .int b) (y := .int ((a % b : Nat) : Int)) (s1 := s) (s2 := s) (by simp only [den, denL, test, bind_ok, fin_ok, truth_bl, cmpV_lt, cmpV_le, cmpV_gt, cmpV_ge, binV_add, binV_sub, idx2_0, idx2_1, biV_abs, getO_0, getO_s, set_0, set_s, sif_t, sif_f, if_true, if_false, List.length_cons, List.length_nil, denL]) (by simp only [den, denL, test, bind_ok, fin_ok, truth_bl, cmpV_lt, cmpV_le, cmpV_gt, cmpV_ge, binV_add, binV_sub, idx2_0, idx2_1, biV_abs, getO_0, getO_s, set_0, set_s, sif_t, sif_f, if_true, if_false, List.length_cons, List.length_nil, denL, binV_mod hb2, fmod_nat])]; exact B_nil)]
      rw [hk, Nat.gcd_comm b, Nat.gcd_comm a b, Nat.gcd_rec b a]
theorem gcd_step (a : Int) {b : Nat} (hb : 0 < b) : Nat.gcd b (a % b).toNat = Int.gcd a b := by
  have e : a = a % b + b * (a / b) := (Int.emod_add_mul_ediv a b).symm
  have h0 : 0 ≤ a % (b : Int) := Int.emod_nonneg _ (by omega)
  have h1 : Int.gcd a b = Int.gcd (a % b) b := by
    conv => lhs; rw [e]
    exact Int.gcd_add_mul_left_left ..
  rw [h1]
  unfold Int.gcd
  rw [Int.natAbs_natCast, Nat.gcd_comm]
  congr 1
  omega
theorem euclidZ {D : Wd} {s : Vs} {x0 x1 x2 : Option W} (a : Int) {b : Nat} (hb : 0 < b) : ∃ k, iter (test D (.cmp .ne (.var 4) (.con (.int 0)))) (denB D (.cons (.par 3 4 (.var 4) (.bin .mod (.var 3) (.var 4))) .nil)) k [x0, x1, x2, some (.int a), some (.int b)] s = .nx [x0, x1, x2, some (.int (Int.gcd a b)), some (.int 0)] s := by
  obtain ⟨k, hk⟩ := euclidN (D := D) (s := s) (x0 := x0) (x1 := x1) (x2 := x2) (a % b).toNat b
  refine ⟨k + 1, ?_⟩
  have hb' : ¬ ((b : Int) = 0) := by omega
  have h0 : 0 ≤ a % (b : Int) := Int.emod_nonneg _ (by omega)
  have e : (((a % b).toNat : Nat) : Int) = a % b := Int.toNat_of_nonneg h0
  rw [iter_go (s1 := s) (r' := [x0, x1, x2, some (.int b), some (.int (((a % b).toNat : Nat) : Int))]) (s' := s) (by simp only [den, denL, test, bind_ok, fin_ok, truth_bl, cmpV_lt, cmpV_le, cmpV_gt, cmpV_ge, binV_add, binV_sub, idx2_0, idx2_1, biV_abs, getO_0, getO_s, set_0, set_s, sif_t, sif_f, if_true, if_false, List.length_cons, List.length_nil, denL, cmpV_neI, hb', decide_false, Bool.not_false]) (by rw [B_par (x := .int b) (y := .int (((a % b).toNat : Nat) : Int)) (s1 := s) (s2 := s) (by simp only [den, denL, test, bind_ok, fin_ok, truth_bl, cmpV_lt, cmpV_le, cmpV_gt, cmpV_ge, binV_add, binV_sub, idx2_0, idx2_1, biV_abs, getO_0, getO_s, set_0, set_s, sif_t, sif_f, if_true, if_false, List.length_cons, List.length_nil, denL]) (by simp only [den, denL, test, bind_ok, fin_ok, truth_bl, cmpV_lt, cmpV_le, cmpV_gt, cmpV_ge, binV_add, binV_sub, idx2_0, idx2_1, biV_abs, getO_0, getO_s, set_0, set_s, sif_t, sif_f, if_true, if_false, List.length_cons, List.length_nil, denL, binV_modP (show (0 : Int) < b by omega), e])]; exact B_nil)]
  rw [hk, gcd_step a hb]
structure DrawT2 (T : Str → Str → Option Te) : Prop extends DrawT T, LawT T where
  weight : T Str.empty "_law_weight" = some (.fn d__law_weight)
  fine : T Str.empty "_law_fine" = some (.fn d__law_fine)
section
variable {T : Str → Str → Option Te} {gl : Str → Option W} {fl : Str → List Str} {n : Nat} {s : Vs}
theorem sp_law_frac (L : LawT T) {a b : Int} {k : Nat} (hb : 0 < b) (h : b.natAbs < 2 ^ k) (hk : k < 9000) : run T gl fl (n + 1) Str.empty "_law_frac" [.int a, .int b] s = .ok (fr (Rat.divInt a b)) s := by
  obtain ⟨hl, g0⟩ := gcd_log (a := a) (show b ≠ 0 by omega) h hk
  obtain ⟨B, rfl⟩ : ∃ B : Nat, b = B := ⟨b.toNat, by omega⟩
  obtain ⟨j, hj⟩ := euclidZ (D := ⟨run T gl fl n, gl, fl⟩) (s := s) (x0 := some (.int a)) (x1 := some (.int B)) (x2 := none) a (show 0 < B by omega)
  refine run_rt L.frac rfl ?_
  show denB _ (.cons _ (.cons _ (.cons _ (.cons _ .nil)))) [some (.int a), some (.int B), none, none, none] s = _
  rw [B_par (x := .int a) (y := .int B) (s1 := s) (s2 := s) (by simp only [den, denL, test, bind_ok, fin_ok, truth_bl, cmpV_lt, cmpV_le, cmpV_gt, cmpV_ge, binV_add, binV_sub, idx2_0, idx2_1, biV_abs, getO_0, getO_s, set_0, set_s, sif_t, sif_f, if_true, if_false, List.length_cons, List.length_nil, denL]) (by simp only [den, denL, test, bind_ok, fin_ok, truth_bl, cmpV_lt, cmpV_le, cmpV_gt, cmpV_ge, binV_add, binV_sub, idx2_0, idx2_1, biV_abs, getO_0, getO_s, set_0, set_s, sif_t, sif_f, if_true, if_false, List.length_cons, List.length_nil, denL])]
  simp only [set_0, set_s]
  rw [B_whl hj]
  have gp : (0 : Int) < (Int.gcd a B : Int) := by omega
  have nb : ¬ ((B : Int) < 0) := by omega
  have gl1 : ¬ ((Int.gcd a B : Int) < 0) := by omega
  have dv : Int.gcd a B ∣ (B : Int).natAbs := Nat.gcd_dvd_right _ _
  have gk : Int.gcd a B < 2 ^ k := Nat.lt_of_le_of_lt (Nat.le_of_dvd (by omega) dv) h
  have m1 : mulFits (Int.gcd a B : Int) (1 - 2 * 0) = true := mulFits_of (k := k) (l := 1) (by rw [Int.natAbs_natCast]; exact gk) (by decide) (by omega)
  have m2 : mulFits 2 0 = true := by decide
  rw [B_asg (w := .int (Int.gcd a B)) (s1 := s) (by simp only [den, denL, test, bind_ok, fin_ok, truth_bl, cmpV_lt, cmpV_le, cmpV_gt, cmpV_ge, binV_add, binV_sub, idx2_0, idx2_1, biV_abs, getO_0, getO_s, set_0, set_s, sif_t, sif_f, if_true, if_false, List.length_cons, List.length_nil, denL, nb, decide_false, int_bl, binV_mul m2, Bool.false_eq_true, binV_mul m1, gl1]; congr 2; omega)]
  have gm : (Int.gcd a B : Int) ≠ 0 := by omega
  refine B_ret ?_
  simp only [den, denL, test, bind_ok, fin_ok, truth_bl, cmpV_lt, cmpV_le, cmpV_gt, cmpV_ge, binV_add, binV_sub, idx2_0, idx2_1, biV_abs, getO_0, getO_s, set_0, set_s, sif_t, sif_f, if_true, if_false, List.length_cons, List.length_nil, denL, binV_fdiv gm (show (Int.gcd a B : Int).natAbs.log2 < 9000 by rw [Int.natAbs_natCast]; exact hl)]
  rw [(exact_pos hb).1, (exact_pos hb).2]
  rfl
theorem dd_pos (p q : Rat) : 0 < ((p.den : Int) * (q.den : Int)) := Int.mul_pos (den_pos' p) (den_pos' q)
theorem sp_law_sub (L : LawT T) {k l : Nat} {p q : Rat} (hp : Sm k p) (hq : Sm l q) (h : k + l < 9000) : run T gl fl (n + 2) Str.empty "_law_sub" [fr p, fr q] s = .ok (fr (p - q)) s := by
  obtain ⟨h1, h2, h3, _, _⟩ := mf_num hp hq h
  refine run_rt L.sub rfl (B_ret ?_)
  show den _ _ [some (fr p), some (fr q)] s = _
  simp only [den, denL, test, bind_ok, fin_ok, truth_bl, cmpV_lt, cmpV_le, cmpV_gt, cmpV_ge, binV_add, binV_sub, idx2_0, idx2_1, biV_abs, getO_0, getO_s, set_0, set_s, sif_t, sif_f, if_true, if_false, List.length_cons, List.length_nil, denL, binV_mul h1, binV_mul h2, binV_mul h3, idx_fr0, idx_fr1]
  rw [sub_divInt, Int.natCast_mul]
  exact sp_law_frac L (dd_pos p q) (dd_lt hp hq) h
theorem sp_law_add (L : LawT T) {k l : Nat} {p q : Rat} (hp : Sm k p) (hq : Sm l q) (h : k + l < 9000) : run T gl fl (n + 2) Str.empty "_law_add" [fr p, fr q] s = .ok (fr (p + q)) s := by
  obtain ⟨h1, h2, h3, _, _⟩ := mf_num hp hq h
  refine run_rt L.add rfl (B_ret ?_)
  show den _ _ [some (fr p), some (fr q)] s = _
  simp only [den, denL, test, bind_ok, fin_ok, truth_bl, cmpV_lt, cmpV_le, cmpV_gt, cmpV_ge, binV_add, binV_sub, idx2_0, idx2_1, biV_abs, getO_0, getO_s, set_0, set_s, sif_t, sif_f, if_true, if_false, List.length_cons, List.length_nil, denL, binV_mul h1, binV_mul h2, binV_mul h3, idx_fr0, idx_fr1]
  rw [add_divInt, Int.natCast_mul]
  exact sp_law_frac L (dd_pos p q) (dd_lt hp hq) h
theorem sp_law_mul (L : LawT T) {k l : Nat} {p q : Rat} (hp : Sm k p) (hq : Sm l q) (h : k + l < 9000) : run T gl fl (n + 2) Str.empty "_law_mul" [fr p, fr q] s = .ok (fr (p * q)) s := by
  obtain ⟨h1, h2, h3, h4, _⟩ := mf_num hp hq h
  refine run_rt L.mul rfl (B_ret ?_)
  show den _ _ [some (fr p), some (fr q)] s = _
  simp only [den, denL, test, bind_ok, fin_ok, truth_bl, cmpV_lt, cmpV_le, cmpV_gt, cmpV_ge, binV_add, binV_sub, idx2_0, idx2_1, biV_abs, getO_0, getO_s, set_0, set_s, sif_t, sif_f, if_true, if_false, List.length_cons, List.length_nil, denL, binV_mul h4, binV_mul h3, idx_fr0, idx_fr1]
  rw [mul_divInt, Int.natCast_mul]
  exact sp_law_frac L (dd_pos p q) (dd_lt hp hq) h
theorem sp_law_less (L : LawT T) {k l : Nat} {p q : Rat} (hp : Sm k p) (hq : Sm l q) (h : k + l < 9000) : run T gl fl (n + 1) Str.empty "_law_less" [fr p, fr q] s = .ok (.bl (decide (p < q))) s := by
  obtain ⟨h1, h2, h3, _, _⟩ := mf_num hp hq h
  refine run_rt L.less rfl (B_ret ?_)
  show den _ _ [some (fr p), some (fr q)] s = _
  simp only [den, denL, test, bind_ok, fin_ok, truth_bl, cmpV_lt, cmpV_le, cmpV_gt, cmpV_ge, binV_add, binV_sub, idx2_0, idx2_1, biV_abs, getO_0, getO_s, set_0, set_s, sif_t, sif_f, if_true, if_false, List.length_cons, List.length_nil, denL, binV_mul h1, binV_mul h2, idx_fr0, idx_fr1]
  rw [decide_eq_decide.mpr (Rat.lt_iff p q)]
/-- one of a told list, drawn -/
theorem draw_ix (F : DrawT T) {b : Nat} {l : List W} (h : BagOk s b) (hl : 0 < l.length) (hl2 : l.length < 1000) : ∃ r s', run T gl fl (n + 1) Str.empty "_law_take" [.ref b, .int l.length] (s ++ [.lst l]) = .ok (.int r) s' ∧ (∃ x, l[r.toNat]? = some x ∧ idxV (.ref s.length) (.int r) s' = .ok x s') ∧ BagOk s' b ∧ Fr (· = b) s s' := by
  have f1 : Fr (fun _ => False) s (s ++ [.lst l]) := Fr.app
  obtain ⟨r, s', e, r0, r1, hb, f, _⟩ := sp_take (gl := gl) (fl := fl) (n := n) F (h.fr f1 id) (show (0 : Int) < l.length by omega) (by omega)
  have hr : r.toNat < l.length := by omega
  have hs : (s ++ [.lst l])[s.length]? = some (.lst l) := get_last
  have hx : s'[s.length]? = some (.lst l) := f.get hs (by have := h.lt; omega)
  exact ⟨r, s', e, ⟨l[r.toNat], List.getElem?_eq_getElem hr, idx_ref hx r0 (List.getElem?_eq_getElem hr)⟩, hb, (f1.mono fun _ z => z.elim).trans f⟩
theorem sp_law_weight (F : DrawT2 T) {b : Nat} (h : BagOk s b) : ∃ q s', run T gl fl (n + 2) Str.empty "_law_weight" [.ref b] s = .ok (fr q) s' ∧ 0 < q ∧ Sm 20 q ∧ BagOk s' b ∧ Fr (· = b) s s' := by
  obtain ⟨r1, s1, e1, ⟨x1, hx1, i1⟩, b1, f1⟩ := draw_ix (gl := gl) (fl := fl) (n := n) F.toDrawT (l := [.int 12, .int 99, .int (10 ^ 6)]) h (by decide) (by decide)
  have far : ∃ m : Int, x1 = .int m ∧ 0 < m ∧ m ≤ 10 ^ 6 := by
    have := List.mem_of_getElem? hx1
    simp only [List.mem_cons, List.not_mem_nil, or_false] at this
    rcases this with rfl | rfl | rfl
    · exact ⟨12, rfl, by decide, by decide⟩
    · exact ⟨99, rfl, by decide, by decide⟩
    · exact ⟨_, rfl, by decide, by decide⟩
  obtain ⟨m, rfl, m0, m1⟩ := far
  obtain ⟨t1, s2, e2, t10, t11, b2, f2, _⟩ := sp_take (gl := gl) (fl := fl) (n := n) F.toDrawT b1 m0 (by omega)
  obtain ⟨r2, s3, e3, ⟨x2, hx2, i2⟩, b3, f3⟩ := draw_ix (gl := gl) (fl := fl) (n := n) F.toDrawT (l := [.int 1, .int 4, .int m]) b2 (by show 0 < 3; omega) (by show 3 < 1000; omega)
  have bot : ∃ m2 : Int, x2 = .int m2 ∧ 0 < m2 ∧ m2 ≤ 10 ^ 6 := by
    have := List.mem_of_getElem? hx2
    simp only [List.mem_cons, List.not_mem_nil, or_false] at this
    rcases this with rfl | rfl | rfl
    · exact ⟨1, rfl, by decide, by decide⟩
    · exact ⟨4, rfl, by decide, by decide⟩
    · exact ⟨_, rfl, m0, m1⟩
  obtain ⟨m2, rfl, m20, m21⟩ := bot
  obtain ⟨t2, s4, e4, t20, t21, b4, f4, _⟩ := sp_take (gl := gl) (fl := fl) (n := n) F.toDrawT b3 m20 (by omega)
  have n1 : (1 + t1).natAbs < 2 ^ 20 := by omega
  have n2 : (1 + t2).natAbs < 2 ^ 20 := by omega
  refine ⟨Rat.divInt (1 + t1) (1 + t2), s4, ?_, ?_, sm_divInt (by omega) n1 n2, b4, ((f1.trans f2).trans f3).trans f4⟩
  · refine run_rt F.weight rfl ?_
    show denB _ (.cons _ (.cons _ .nil)) [some (.ref b), none] s = _
    rw [B_asg (w := .int m) (s1 := s1) (by
      have e1' : run T gl fl (n + 1) Str.empty "_law_take" [.ref b, .int 3] (s ++ [.lst [.int 12, .int 99, .int (10 ^ 6)]]) = .ok (.int r1) s1 := e1
      simp only [den, denL, test, bind_ok, fin_ok, truth_bl, cmpV_lt, cmpV_le, cmpV_gt, cmpV_ge, binV_add, binV_sub, idx2_0, idx2_1, biV_abs, getO_0, getO_s, set_0, set_s, sif_t, sif_f, if_true, if_false, List.length_cons, List.length_nil, denL, fits1, fits2, fits3, fits4, fits5, fits6, fits7, fits8, newL_eq, pow6, e1', i1])]
    refine B_ret ?_
    have e3' : run T gl fl (n + 1) Str.empty "_law_take" [.ref b, .int 3] (s2 ++ [.lst [.int 1, .int 4, .int m]]) = .ok (.int r2) s3 := e3
    simp only [den, denL, test, bind_ok, fin_ok, truth_bl, cmpV_lt, cmpV_le, cmpV_gt, cmpV_ge, binV_add, binV_sub, idx2_0, idx2_1, biV_abs, getO_0, getO_s, set_0, set_s, sif_t, sif_f, if_true, if_false, List.length_cons, List.length_nil, denL, fits1, fits2, fits3, fits4, fits5, fits6, fits7, fits8, newL_eq, e2, e3', i2, e4]
    exact sp_law_frac F.toLawT (by omega) n2 (by omega)
  · rw [Rat.divInt_eq_div]
    have a1 : (0 : Rat) < ((1 + t1 : Int) : Rat) := by exact_mod_cast (show (0 : Int) < 1 + t1 by omega)
    have a2 : (0 : Rat) < ((1 + t2 : Int) : Rat) := by exact_mod_cast (show (0 : Int) < 1 + t2 by omega)
    rw [Rat.div_def]
    exact Rat.mul_pos a1 (Rat.inv_pos.mpr a2)
theorem sp_law_fine (F : DrawT2 T) {b : Nat} (h : BagOk s b) : ∃ q s', run T gl fl (n + 2) Str.empty "_law_fine" [.ref b] s = .ok (fr q) s' ∧ 0 ≤ q ∧ q ≤ 1 ∧ Sm 10 q ∧ BagOk s' b ∧ Fr (· = b) s s' := by
  obtain ⟨r1, s1, e1, ⟨x1, hx1, i1⟩, b1, f1⟩ := draw_ix (gl := gl) (fl := fl) (n := n) F.toDrawT (l := [.int 1, .int 4, .int 24, .int 1000]) h (by decide) (by decide)
  have far : ∃ m : Int, x1 = .int m ∧ 0 < m ∧ m ≤ 1000 := by
    have := List.mem_of_getElem? hx1
    simp only [List.mem_cons, List.not_mem_nil, or_false] at this
    rcases this with rfl | rfl | rfl | rfl
    · exact ⟨1, rfl, by decide, by decide⟩
    · exact ⟨4, rfl, by decide, by decide⟩
    · exact ⟨24, rfl, by decide, by decide⟩
    · exact ⟨1000, rfl, by decide, by decide⟩
  obtain ⟨m, rfl, m0, m1⟩ := far
  obtain ⟨t, s2, e2, t0, t1, b2, f2, _⟩ := sp_take (gl := gl) (fl := fl) (n := n) F.toDrawT b1 (show 0 < m + 1 by omega) (by omega)
  have n1 : t.natAbs < 2 ^ 10 := by omega
  have n2 : m.natAbs < 2 ^ 10 := by omega
  refine ⟨Rat.divInt t m, s2, ?_, ?_, ?_, sm_divInt (by omega) n1 n2, b2, f1.trans f2⟩
  · refine run_rt F.fine rfl ?_
    show denB _ (.cons _ (.cons _ .nil)) [some (.ref b), none] s = _
    rw [B_asg (w := .int m) (s1 := s1) (by
      have e1' : run T gl fl (n + 1) Str.empty "_law_take" [.ref b, .int 4] (s ++ [.lst [.int 1, .int 4, .int 24, .int 1000]]) = .ok (.int r1) s1 := e1
      simp only [den, denL, test, bind_ok, fin_ok, truth_bl, cmpV_lt, cmpV_le, cmpV_gt, cmpV_ge, binV_add, binV_sub, idx2_0, idx2_1, biV_abs, getO_0, getO_s, set_0, set_s, sif_t, sif_f, if_true, if_false, List.length_cons, List.length_nil, denL, fits1, fits2, fits3, fits4, fits5, fits6, fits7, fits8, newL_eq, pow6, e1', i1])]
    refine B_ret ?_
    simp only [den, denL, test, bind_ok, fin_ok, truth_bl, cmpV_lt, cmpV_le, cmpV_gt, cmpV_ge, binV_add, binV_sub, idx2_0, idx2_1, biV_abs, getO_0, getO_s, set_0, set_s, sif_t, sif_f, if_true, if_false, List.length_cons, List.length_nil, denL, e2]
    exact sp_law_frac F.toLawT m0 n2 (by omega)
  · exact Rat.divInt_nonneg t0 (by omega)
  · rw [Rat.divInt_eq_div]
    have a2 : (0 : Rat) < ((m : Int) : Rat) := by exact_mod_cast m0
    refine Rat.not_lt.mp fun z => ?_
    rw [Rat.lt_div_iff a2, Rat.one_mul] at z
    have : m < t := by exact_mod_cast z
    omega
end
end Vm
set_option Elab.async false
set_option linter.all false
set_option maxRecDepth 100000
set_option maxHeartbeats 2000000
/-! The order of a stock by fineness. -/
namespace Vm
open PySem
/-- a stock: the list at a, its golds -/
def StockAt (s : Vs) (a : Nat) (gs : List (Rat × Rat)) : Prop := ∃ rs : List Nat, s[a]? = some (.lst (rs.map W.ref)) ∧ rs.length = gs.length ∧ ∀ (i : Nat) (w f : Rat), gs[i]? = some (w, f) → ∃ r : Nat, rs[i]? = some r ∧ s[r]? = some (goldO w f)
theorem StockAt.fr {s s' : Vs} {a : Nat} {gs : List (Rat × Rat)} {b : Nat → Prop} (h : StockAt s a gs) (f : Fr b s s') (hb : ∀ i, b i → ∀ o, s[i]? = some o → (∀ w f, o ≠ goldO w f) ∧ i ≠ a) : StockAt s' a gs := by
  obtain ⟨rs, h1, h2, h3⟩ := h
  refine ⟨rs, f.get h1 (fun z => (hb a z _ h1).2 rfl), h2, fun i w g e => ?_⟩
  obtain ⟨r, e1, e2⟩ := h3 i w g e
  exact ⟨r, e1, f.get e2 (fun z => (hb r z _ e2).1 w g rfl)⟩
theorem StockAt.fr0 {s s' : Vs} {a : Nat} {gs : List (Rat × Rat)} (h : StockAt s a gs) (f : Fr (fun _ => False) s s') : StockAt s' a gs := h.fr f fun _ z => z.elim
/-- golds that a law draws -/
def GoldQ (p : Rat × Rat) : Prop := 0 < p.1 ∧ Sm 24 p.1 ∧ 0 ≤ p.2 ∧ p.2 ≤ 1 ∧ Sm 10 p.2
def finQ (gs : List (Rat × Rat)) (i : Nat) : Rat := (gs[i]?.map (·.2)).getD 0
def aheadQ (gs : List (Rat × Rat)) (l : List Nat) (i : Nat) : Nat := (l.filter fun o => !decide (finQ gs o < finQ gs i)).length
def foQ (gs : List (Rat × Rat)) : Nat → List Nat
  | 0 => []
  | i + 1 => (foQ gs i).take (aheadQ gs (foQ gs i) i) ++ [i] ++ (foQ gs i).drop (aheadQ gs (foQ gs i) i)
def ordQ (gs : List (Rat × Rat)) : List Nat := foQ gs gs.length
theorem foQ_perm (gs : List (Rat × Rat)) : ∀ i, (foQ gs i).Perm (List.range i)
  | 0 => .refl _
  | i + 1 => by
    rw [List.range_succ]
    unfold foQ
    have h := foQ_perm gs i
    generalize aheadQ gs (foQ gs i) i = k
    have e : (foQ gs i).take k ++ [i] ++ (foQ gs i).drop k = (foQ gs i).take k ++ i :: (foQ gs i).drop k := by simp
    rw [e]
    refine (List.perm_middle).trans ?_
    rw [List.take_append_drop]
    exact (List.Perm.cons i h).trans (List.perm_append_singleton i _).symm
theorem foQ_len (gs : List (Rat × Rat)) (i : Nat) : (foQ gs i).length = i := by rw [(foQ_perm gs i).length_eq, List.length_range]
theorem foQ_lt {gs : List (Rat × Rat)} {i j : Nat} (h : j ∈ foQ gs i) : j < i := by
  have := (foQ_perm gs i).mem_iff.mp h
  exact List.mem_range.mp this
theorem ahead_le (gs : List (Rat × Rat)) (i : Nat) : aheadQ gs (foQ gs i) i ≤ i := by
  have := List.length_filter_le (fun o => !decide (finQ gs o < finQ gs i)) (foQ gs i)
  rw [foQ_len] at this
  exact this
theorem enumL_get : ∀ {l : List W} {k i : Nat}, (enumL k l)[i]? = (l[i]?).map fun w => .tup [.int (k + i : Nat), w]
  | [], k, i => by simp [enumL]
  | w :: l, k, 0 => by simp [enumL]
  | w :: l, k, i + 1 => by
    rw [enumL, List.getElem?_cons_succ, List.getElem?_cons_succ, enumL_get]
    congr 1
    funext w
    rw [show k + 1 + i = k + (i + 1) by omega]
theorem lc_pure {ok : Vs → Prop} {f : W → Vs → Out (Option W)} {s : Vs} (g : W → Option W) (h0 : ok s) : ∀ {l : List W}, (∀ x ∈ l, f x s = .ok (g x) s) → lcL ok f l s = .ok (l.filterMap g) s
  | [], _ => by unfold lcL; rw [if_pos h0]; rfl
  | x :: l, h => by
    rw [lcL, if_pos h0, h x (List.mem_cons_self ..)]
    show (lcL ok f l s).bind _ = _
    rw [lc_pure g h0 fun y hy => h y (List.mem_cons_of_mem _ hy)]
    show Out.ok _ s = _
    cases e : g x with
    | none => rw [List.filterMap_cons_none e]
    | some y => rw [List.filterMap_cons_some e]
theorem den_lc {D : Wd} {e c : IE} {tg : Tg} {it : II} {r : Rho} {s s1 s2 : Vs} {q : Src} {ys : List W} (h : denI D it r s = .ok q s1) (hf : fits q.items.length = true) (h2 : lcL q.ok (lcF D e tg c r) q.items s1 = .ok ys s2) : den D (.lc e tg it c) r s = .ok (.ref s2.length) (s2 ++ [.lst ys]) := by
  rw [den, h]
  show (if !fits q.items.length then Out.err else (lcL q.ok (lcF D e tg c r) q.items s1).bind fun ys s6 => newL ys s6) = _
  rw [hf, h2]
  rfl
theorem len_ref {s : Vs} {a : Nat} {l : List W} (h : s[a]? = some (.lst l)) : biV .len [.ref a] s = .ok (.int l.length) s := by
  show (match s[a]? with | some (.lst l) => Out.ok (W.int l.length) s | some (.dct l) => .ok (.int l.length) s | _ => .err) = _
  rw [h]
theorem recv_ins {s : Vs} {a : Nat} {l : List W} (h : s[a]? = some (.lst l)) : recvOk "insert" (.ref a) s = true := by
  have e : tyV (.ref a) s = some "list" := by
    show (match s[a]? with | some (.lst _) => some "list" | some (.dct _) => some "dict" | some (.dtt _) => some "dict" | _ => none) = _
    rw [h]
  have m : mtTy "insert" = some "list" := by decide +kernel
  unfold recvOk
  rw [m, e]
  rfl
theorem mt_ins {s : Vs} {a i : Nat} {l : List W} {w : W} (h : s[a]? = some (.lst l)) (hi : i < 2 ^ 60) (hl : l.length < 2 ^ 20) : mtV "insert" (.ref a) [.int i, w] s = .ok .non (s.set a (.lst (l.take i ++ [w] ++ l.drop i))) := by
  rw [mtV_insert]
  show (match s[a]? with | some (.lst l) => if decide (0 ≤ (i : Int) ∧ (i : Int) < 2 ^ 63) && decide (l.length < sizeLine) then Out.ok W.non (s.set a (.lst (l.take (i : Int).toNat ++ [w] ++ l.drop (i : Int).toNat))) else .err | _ => .err) = _
  rw [h]
  have h1 : (0 ≤ (i : Int) ∧ (i : Int) < 2 ^ 63) := by omega
  have h2 : l.length < sizeLine := by
    have : 2 ^ 20 ≤ sizeLine := by decide
    omega
  show (if decide (0 ≤ (i : Int) ∧ (i : Int) < 2 ^ 63) && decide (l.length < sizeLine) then Out.ok W.non (s.set a (.lst (l.take (i : Int).toNat ++ [w] ++ l.drop (i : Int).toNat))) else .err) = _
  rw [decide_eq_true h1, decide_eq_true h2, Int.toNat_natCast]
  rfl
theorem fits20 {n : Nat} (h : n ≤ 2 ^ 20) : fits n = true := by
  have : 2 ^ 20 ≤ sizeLine := by decide
  exact decide_eq_true (by omega)
def d_finest_first : Fd := ⟨1, 6, [], (.cons (.asg 1 (.lst .nil)) (.cons (.fors (.tp [2, 3]) (.enum (.var 0)) (.cons (.asg 4 (.bi .len (.cons (.lc (.var 5) (.nm 5) (.val (.var 1)) (.not (.call "less" (.cons (.fld (.idx (.var 0) (.var 5)) "fineness") (.cons (.fld (.var 3) "fineness") .nil))))) .nil))) (.cons (.exp (.meth (.var 1) "insert" (.cons (.var 4) (.cons (.var 2) .nil)))) .nil))) (.cons (.ret (.var 1)) .nil)))⟩
def d_taken_of : Fd := ⟨3, 4, [], (.cons (.ifs (.cmp .eq (.fld (.var 0) "fineness") (.glo "NOUGHT")) (.cons (.ret (.glo "NOUGHT")) .nil) .nil) (.cons (.asg 3 (.call "least_of" (.cons (.fld (.var 0) "weight") (.cons (.call "over" (.cons (.var 1) (.cons (.fld (.var 0) "fineness") .nil))) .nil)))) (.cons (.ifs (.cmp .ne (.fld (.var 0) "fineness") (.glo "ONE")) (.cons (.asg 3 (.call "least_of" (.cons (.var 3) (.cons (.call "over" (.cons (.var 2) (.cons (.call "minus" (.cons (.glo "ONE") (.cons (.fld (.var 0) "fineness") .nil))) .nil))) .nil)))) .nil) .nil) (.cons (.ret (.var 3)) .nil))))⟩
def d_mixed : Fd := ⟨3, 9, [], (.cons (.asg 3 (.call "times" (.cons (.var 0) (.cons (.var 1) .nil)))) (.cons (.asg 4 (.call "minus" (.cons (.var 0) (.cons (.var 3) .nil)))) (.cons (.asg 5 (.bin .mul (.lst (.cons (.glo "NOUGHT") .nil)) (.bi .len (.cons (.var 2) .nil)))) (.cons (.fors (.nm 6) (.val (.call "finest_first" (.cons (.var 2) .nil))) (.cons (.asg 7 (.idx (.var 2) (.var 6))) (.cons (.ssub (.var 5) (.var 6) (.call "taken_of" (.cons (.var 7) (.cons (.var 3) (.cons (.var 4) .nil))))) (.cons (.asg 8 (.call "times" (.cons (.idx (.var 5) (.var 6)) (.cons (.fld (.var 7) "fineness") .nil)))) (.cons (.asg 3 (.call "minus" (.cons (.var 3) (.cons (.var 8) .nil)))) (.cons (.asg 4 (.call "minus" (.cons (.var 4) (.cons (.call "minus" (.cons (.idx (.var 5) (.var 6)) (.cons (.var 8) .nil))) .nil)))) .nil)))))) (.cons (.ret (.tup (.cons (.var 3) (.cons (.var 4) (.cons (.bi .tuple (.cons (.var 5) .nil)) .nil))))) .nil)))))⟩
def d_least_new : Fd := ⟨4, 8, [], (.cons (.asg 4 (.call "times" (.cons (.var 0) (.cons (.var 1) .nil)))) (.cons (.asg 5 (.call "minus" (.cons (.var 4) (.cons (.call "times" (.cons (.var 3) (.cons (.call "minus" (.cons (.var 0) (.cons (.var 4) .nil))) .nil))) .nil)))) (.cons (.fors (.nm 6) (.val (.var 2)) (.cons (.asg 7 (.call "minus" (.cons (.omt "Gold" "pure" (.var 6) .nil) (.cons (.call "times" (.cons (.var 3) (.cons (.call "copper_in" (.cons (.var 6) .nil)) .nil))) .nil)))) (.cons (.ifs (.call "less" (.cons (.glo "NOUGHT") (.cons (.var 7) .nil))) (.cons (.asg 5 (.call "minus" (.cons (.var 5) (.cons (.var 7) .nil)))) .nil) .nil) .nil))) (.cons (.ifs (.call "less" (.cons (.var 5) (.cons (.glo "NOUGHT") .nil))) (.cons (.ret (.glo "NOUGHT")) .nil) .nil) (.cons (.ret (.var 5)) .nil)))))⟩
def d_paper_for : Fd := ⟨3, 8, [], (.cons (.asgT [4, 5, 6] (.call "mixed" (.cons (.var 0) (.cons (.var 1) (.cons (.var 2) .nil))))) (.cons (.ifs (.cmp .eq (.var 4) (.glo "NOUGHT")) (.cons (.ret (.glo "NOUGHT")) .nil) .nil) (.cons (.fors (.nm 3) (.val (.call "finest_first" (.cons (.var 2) .nil))) (.cons (.asg 7 (.idx (.var 2) (.var 3))) (.cons (.ifs (.cmp .ne (.idx (.var 6) (.var 3)) (.fld (.var 7) "weight")) (.cons (.ret (.call "over" (.cons (.fld (.var 7) "fineness") (.cons (.call "minus" (.cons (.glo "ONE") (.cons (.fld (.var 7) "fineness") .nil))) .nil)))) .nil) .nil) .nil))) (.cons (.ret (.glo "NOUGHT")) .nil))))⟩
structure MixT (T : Str → Str → Option Te) (gl : Str → Option W) (fl : Str → List Str) : Prop extends GoldT T gl fl where
  finest : T Str.empty "finest_first" = some (.fn d_finest_first)
  taken : T Str.empty "taken_of" = some (.fn d_taken_of)
  mixed : T Str.empty "mixed" = some (.fn d_mixed)
  least : T Str.empty "least_new" = some (.fn d_least_new)
  paper : T Str.empty "paper_for" = some (.fn d_paper_for)
section
variable {T : Str → Str → Option Te} {gl : Str → Option W} {fl : Str → List Str} {n : Nat} {s : Vs}
theorem filt_map {l : List Nat} (p : Nat → Bool) : (l.map fun i => W.int (i : Nat)).filterMap (fun x => match x with | .int i => if p i.toNat then some (.int i) else none | _ => none) = (l.filter p).map fun i => W.int (i : Nat) := by
  induction l with
  | nil => rfl
  | cons x l ih =>
    rw [List.map_cons]
    by_cases h : p x
    · rw [List.filterMap_cons_some (b := .int (x : Nat)) (by show (if p (x : Int).toNat then some (W.int x) else none) = _; rw [Int.toNat_natCast, if_pos h]), ih, List.filter_cons_of_pos h, List.map_cons]
    · rw [List.filterMap_cons_none (by show (if p (x : Int).toNat then some (W.int x) else none) = _; rw [Int.toNat_natCast, if_neg h]), ih, List.filter_cons_of_neg h]
theorem sp_finest (M : MixT T gl fl) {a : Nat} {gs : List (Rat × Rat)} (h : StockAt s a gs) (hq : ∀ p ∈ gs, GoldQ p) (hl : gs.length ≤ 1000) :
    ∃ s', run T gl fl (n + 2) Str.empty "finest_first" [.ref a] s = .ok (.ref s.length) s' ∧ s'[s.length]? = some (.lst ((ordQ gs).map fun i => .int (i : Nat))) ∧ Fr (fun _ => False) s s' := by
  obtain ⟨rs, ha, hlen, hg⟩ := h
  let D : Wd := ⟨run T gl fl (n + 1), gl, fl⟩
  have al := lt_of_get ha
  -- the loop
  let I : List W → Rho → Vs → Prop := fun l r s' => ∃ i x2 x3 x4 x5, i ≤ gs.length ∧ l = enumL i ((rs.drop i).map W.ref) ∧ s'[s.length]? = some (.lst ((foQ gs i).map fun i => .int (i : Nat))) ∧ Fr (fun _ => False) s s' ∧ r = [some (.ref a), some (.ref s.length), x2, x3, x4, x5]
  have inv := for_nx (I := I) (ok := Src.ok ⟨enumL 0 (rs.map W.ref), [(a, rs.map W.ref)]⟩) (f := forF D (.tp [2, 3]) (.cons (.asg 4 (.bi .len (.cons (.lc (.var 5) (.nm 5) (.val (.var 1)) (.not (.call "less" (.cons (.fld (.idx (.var 0) (.var 5)) "fineness") (.cons (.fld (.var 3) "fineness") .nil))))) .nil))) (.cons (.exp (.meth (.var 1) "insert" (.cons (.var 4) (.cons (.var 2) .nil)))) .nil)))
    (l := enumL 0 (rs.map W.ref)) (r := [some (.ref a), some (.ref s.length), none, none, none, none]) (s := s ++ [.lst []])
    (fun l r s' ⟨i, x2, x3, x4, x5, _, _, _, f, _⟩ p hp => by
      rw [List.mem_singleton.mp hp]
      exact lst_at (f.get ha id))
    (fun x l r s' ⟨i, x2, x3, x4, x5, hi, el, hf, f, er⟩ => by
      -- the piece
      have hi2 : i < gs.length := by
        rcases Nat.lt_or_ge i gs.length with k | k
        · exact k
        · rw [List.drop_eq_nil_of_le (by omega)] at el
          cases el
      have hr : i < rs.length := by omega
      obtain ⟨⟨w, g⟩, eg⟩ : ∃ p, gs[i]? = some p := ⟨gs[i], List.getElem?_eq_getElem hi2⟩
      obtain ⟨rr, e1, e2⟩ := hg i w g eg
      have hgr : s'[rr]? = some (goldO w g) := f.get e2 id
      rw [List.drop_eq_getElem_cons hr, List.map_cons, enumL] at el
      have e1' : rs[i] = rr := by rw [List.getElem?_eq_getElem hr] at e1; exact Option.some.inj e1
      rw [e1'] at el
      cases el
      subst er
      have qg := hq (w, g) (List.mem_of_getElem? eg)
      have ha' : s'[a]? = some (.lst (rs.map W.ref)) := f.get ha id
      have fi : finQ gs i = g := by unfold finQ; rw [eg]; rfl
      -- the comprehension
      have hc : lcL (Src.ok ⟨(foQ gs i).map fun i => .int (i : Nat), [(s.length, (foQ gs i).map fun i => .int (i : Nat))]⟩) (lcF D (.var 5) (.nm 5) (.not (.call "less" (.cons (.fld (.idx (.var 0) (.var 5)) "fineness") (.cons (.fld (.var 3) "fineness") .nil)))) [some (.ref a), some (.ref s.length), some (.int (i : Nat)), some (.ref rr), x4, x5])
          ((foQ gs i).map fun i => .int (i : Nat)) s' = .ok (((foQ gs i).filter fun o => !decide (finQ gs o < finQ gs i)).map fun i => W.int (i : Nat)) s' := by
        rw [← filt_map]
        refine lc_pure _ (fun p hp => by rw [List.mem_singleton.mp hp]; exact lst_at hf) fun x hx => ?_
        obtain ⟨o, ho, rfl⟩ := List.mem_map.mp hx
        have ol : o < gs.length := by have := foQ_lt ho; omega
        obtain ⟨⟨w2, g2⟩, eg2⟩ : ∃ p, gs[o]? = some p := ⟨gs[o], List.getElem?_eq_getElem ol⟩
        obtain ⟨r2, k1, k2⟩ := hg o w2 g2 eg2
        have hgr2 : s'[r2]? = some (goldO w2 g2) := f.get k2 id
        have q2 := hq (w2, g2) (List.mem_of_getElem? eg2)
        have fo2 : finQ gs o = g2 := by unfold finQ; rw [eg2]; rfl
        have ix : idxV (.ref a) (.int (o : Nat)) s' = .ok (.ref r2) s' := idx_ref ha' (by omega) (by rw [Int.toNat_natCast, List.getElem?_map, k1]; rfl)
        show ((den D (.not (.call "less" _)) [some (.ref a), some (.ref s.length), some (.int (i : Nat)), some (.ref rr), x4, some (.int (o : Nat))] s').bind _) = _
        simp only [den, denL, test, bind_ok, fin_ok, truth_bl, cmpV_lt, cmpV_le, cmpV_gt, cmpV_ge, binV_add, binV_sub, idx2_0, idx2_1, biV_abs, getO_0, getO_s, set_0, set_s, sif_t, sif_f, if_true, if_false, List.length_cons, List.length_nil, denL, fits1, fits2, fits3, fits4, fits5, fits6, fits7, fits8, newL_eq, ix, fld_fineness hgr2, fld_fineness hgr, sp_less (gl := gl) (fl := fl) (n := n) (s := s') M.toFracT q2.2.2.2.2 qg.2.2.2.2 (show 10 + 10 < 9000 by omega), Int.toNat_natCast, fi, fo2, D]
        cases hd : decide (g2 < g)
        · rfl
        · rfl
      have hlen2 : ((foQ gs i).filter fun o => !decide (finQ gs o < finQ gs i)).length = aheadQ gs (foQ gs i) i := rfl
      have fl2 : (foQ gs i).length = i := foQ_len gs i
      let s2 : Vs := s' ++ [.lst (((foQ gs i).filter fun o => !decide (finQ gs o < finQ gs i)).map fun i => W.int (i : Nat))]
      have f2 : Fr (fun _ => False) s' s2 := Fr.app
      have hf2 : s2[s.length]? = some (.lst ((foQ gs i).map fun i => .int (i : Nat))) := f2.get hf id
      refine ⟨[some (.ref a), some (.ref s.length), some (.int (i : Nat)), some (.ref rr), some (.int (aheadQ gs (foQ gs i) i : Nat)), x5], s2.set s.length (.lst ((foQ gs (i + 1)).map fun i => .int (i : Nat))), ?_, i + 1, _, _, _, _, hi2, rfl, List.getElem?_set_self (lt_of_get hf2), ?_, rfl⟩
      · show denB D _ [some (.ref a), some (.ref s.length), some (.int (i : Nat)), some (.ref rr), x4, x5] s' = _
        rw [B_asg (w := .int (aheadQ gs (foQ gs i) i : Nat)) (s1 := s2) (by
          have e := den_lc (D := D) (e := .var 5) (tg := .nm 5) (it := .val (.var 1)) (c := .not (.call "less" (.cons (.fld (.idx (.var 0) (.var 5)) "fineness") (.cons (.fld (.var 3) "fineness") .nil)))) (r := [some (.ref a), some (.ref s.length), some (.int (i : Nat)), some (.ref rr), x4, x5]) (s := s') (s1 := s') (q := ⟨(foQ gs i).map fun i => .int (i : Nat), [(s.length, (foQ gs i).map fun i => .int (i : Nat))]⟩)
            (by rw [denI]; simp only [den, denL, test, bind_ok, fin_ok, truth_bl, cmpV_lt, cmpV_le, cmpV_gt, cmpV_ge, binV_add, binV_sub, idx2_0, idx2_1, biV_abs, getO_0, getO_s, set_0, set_s, sif_t, sif_f, if_true, if_false, List.length_cons, List.length_nil, denL, fits1, fits2, fits3, fits4, fits5, fits6, fits7, fits8, newL_eq]; show (match lstAt s' s.length with | some l => Out.ok (⟨l, [(s.length, l)]⟩ : Src) s' | none => .err) = _; rw [lst_at hf])
            (fits20 (by show ((foQ gs i).map _).length ≤ _; rw [List.length_map, fl2]; omega)) hc
          rw [den, denL, e]
          show (biV .len [.ref s'.length] s2) = _
          rw [len_ref (l := ((foQ gs i).filter fun o => !decide (finQ gs o < finQ gs i)).map fun i => W.int (i : Nat)) get_last, List.length_map, hlen2])]
        have al2 := ahead_le gs i
        rw [B_exp (w := .non) (s1 := s2.set s.length (.lst ((foQ gs (i + 1)).map fun i => .int (i : Nat)))) (by
          simp only [den, denL, test, bind_ok, fin_ok, truth_bl, cmpV_lt, cmpV_le, cmpV_gt, cmpV_ge, binV_add, binV_sub, idx2_0, idx2_1, biV_abs, getO_0, getO_s, set_0, set_s, sif_t, sif_f, if_true, if_false, List.length_cons, List.length_nil, denL, fits1, fits2, fits3, fits4, fits5, fits6, fits7, fits8, newL_eq, recv_ins hf2]
          rw [mt_ins hf2 (by omega) (by rw [List.length_map, fl2]; omega)]
          rw [← List.map_take, ← List.map_drop, show foQ gs (i + 1) = (foQ gs i).take (aheadQ gs (foQ gs i) i) ++ [i] ++ (foQ gs i).drop (aheadQ gs (foQ gs i) i) from rfl, List.map_append, List.map_append]
          rfl)]
        exact B_nil
      · exact (f.trans f2).weak (c := fun j => j = s.length) (Fr.set rfl) fun j hj e => by omega)
    ⟨0, none, none, none, none, Nat.zero_le _, rfl, get_last, Fr.app, rfl⟩
  obtain ⟨r', s', e, i, x2, x3, x4, x5, hi, el, hf, f, er⟩ := inv
  have hi3 : i = gs.length := by
    rcases Nat.lt_or_ge i gs.length with k | k
    · rw [List.drop_eq_getElem_cons (show i < rs.length by omega), List.map_cons, enumL] at el
      cases el
    · omega
  subst hi3
  refine ⟨s', ?_, hf, f⟩
  refine run_rt M.finest rfl ?_
  show denB D (.cons _ (.cons _ (.cons _ .nil))) [some (.ref a), none, none, none, none, none] s = _
  rw [B_asg (w := .ref s.length) (s1 := s ++ [.lst []]) (by simp only [den, denL, test, bind_ok, fin_ok, truth_bl, cmpV_lt, cmpV_le, cmpV_gt, cmpV_ge, binV_add, binV_sub, idx2_0, idx2_1, biV_abs, getO_0, getO_s, set_0, set_s, sif_t, sif_f, if_true, if_false, List.length_cons, List.length_nil, denL, fits1, fits2, fits3, fits4, fits5, fits6, fits7, fits8, newL_eq]; rfl)]
  simp only [set_0, set_s]
  have f0 : Fr (fun _ => False) s (s ++ [.lst []]) := Fr.app
  rw [B_for (q := ⟨enumL 0 (rs.map W.ref), [(a, rs.map W.ref)]⟩) (s1 := s ++ [.lst []]) (by
    rw [denI]
    simp only [den, denL, test, bind_ok, fin_ok, truth_bl, cmpV_lt, cmpV_le, cmpV_gt, cmpV_ge, binV_add, binV_sub, idx2_0, idx2_1, biV_abs, getO_0, getO_s, set_0, set_s, sif_t, sif_f, if_true, if_false, List.length_cons, List.length_nil, denL, fits1, fits2, fits3, fits4, fits5, fits6, fits7, fits8, newL_eq]
    show (match lstAt (s ++ [Ob.lst []]) a with | some l => Out.ok (⟨enumL 0 l, [(a, l)]⟩ : Src) (s ++ [Ob.lst []]) | none => .err) = _
    rw [lst_at (f0.get ha id)]) e]
  subst er
  exact B_ret (by simp only [den, denL, test, bind_ok, fin_ok, truth_bl, cmpV_lt, cmpV_le, cmpV_gt, cmpV_ge, binV_add, binV_sub, idx2_0, idx2_1, biV_abs, getO_0, getO_s, set_0, set_s, sif_t, sif_f, if_true, if_false, List.length_cons, List.length_nil, denL, fits1, fits2, fits3, fits4, fits5, fits6, fits7, fits8, newL_eq])
end
end Vm
set_option Elab.async false
set_option linter.all false
set_option maxRecDepth 100000
set_option maxHeartbeats 4000000
/-! Mixing, as numbers. -/
namespace Vm
open PySem
def minQ (p q : Rat) : Rat := if q < p then q else p
theorem minQ_le (p q : Rat) : minQ p q ≤ p ∧ minQ p q ≤ q := by
  unfold minQ
  split
  · exact ⟨Rat.le_of_lt (by assumption), Rat.le_refl⟩
  · exact ⟨Rat.le_refl, Rat.not_lt.mp (by assumption)⟩
theorem minQ_or (p q : Rat) : minQ p q = p ∨ minQ p q = q := by
  unfold minQ
  split
  · exact .inr rfl
  · exact .inl rfl
theorem minQ_nonneg {p q : Rat} (hp : 0 ≤ p) (hq : 0 ≤ q) : 0 ≤ minQ p q := by
  rcases minQ_or p q with e | e <;> rw [e] <;> assumption
theorem div_nonneg {p q : Rat} (hp : 0 ≤ p) (hq : 0 < q) : 0 ≤ p / q := by
  rw [Rat.div_def]
  exact Rat.mul_nonneg hp (Rat.le_of_lt (Rat.inv_pos.mpr hq))
def takeQ (w f P C : Rat) : Rat := if f = 0 then 0 else if f = 1 then minQ w (P / f) else minQ (minQ w (P / f)) (C / (1 - f))
theorem one_sub_pos {f : Rat} (h : f ≤ 1) (h1 : f ≠ 1) : 0 < 1 - f := by grind
theorem pos_of {f : Rat} (h : 0 ≤ f) (h1 : f ≠ 0) : 0 < f := by grind
/-- what is taken -/
structure TakeOk (w f P C t : Rat) : Prop where
  nn : 0 ≤ t
  le : t ≤ w
  p : t * f ≤ P
  c : t - t * f ≤ C
theorem take_ok {w f P C : Rat} (hw : 0 < w) (h0 : 0 ≤ f) (h1 : f ≤ 1) (hP : 0 ≤ P) (hC : 0 ≤ C) : TakeOk w f P C (takeQ w f P C) := by
  unfold takeQ
  by_cases hf : f = 0
  · rw [if_pos hf]
    exact ⟨Rat.le_refl, Rat.le_of_lt hw, by rw [Rat.zero_mul]; exact hP, by rw [Rat.zero_mul]; grind⟩
  · rw [if_neg hf]
    have fp := pos_of h0 hf
    have n1 : 0 ≤ P / f := div_nonneg hP fp
    have n2 : 0 ≤ minQ w (P / f) := minQ_nonneg (Rat.le_of_lt hw) n1
    have k1 : minQ w (P / f) * f ≤ P := by
      have := Rat.mul_le_mul_of_nonneg_right (minQ_le w (P / f)).2 h0
      rw [Rat.div_mul_cancel hf] at this
      exact this
    by_cases h : f = 1
    · rw [if_pos h]
      refine ⟨n2, (minQ_le _ _).1, k1, ?_⟩
      rw [h, Rat.mul_one]
      grind
    · rw [if_neg h]
      have op := one_sub_pos h1 h
      have n3 : 0 ≤ C / (1 - f) := div_nonneg hC op
      have k2 : minQ (minQ w (P / f)) (C / (1 - f)) * (1 - f) ≤ C := by
        have := Rat.mul_le_mul_of_nonneg_right (minQ_le (minQ w (P / f)) (C / (1 - f))).2 (Rat.le_of_lt op)
        rw [Rat.div_mul_cancel (by grind)] at this
        exact this
      have k3 := (minQ_le (minQ w (P / f)) (C / (1 - f))).1
      refine ⟨minQ_nonneg n2 n3, Rat.le_trans k3 (minQ_le _ _).1, ?_, ?_⟩
      · exact Rat.le_trans (Rat.mul_le_mul_of_nonneg_right k3 h0) k1
      · have e : minQ (minQ w (P / f)) (C / (1 - f)) - minQ (minQ w (P / f)) (C / (1 - f)) * f = minQ (minQ w (P / f)) (C / (1 - f)) * (1 - f) := by grind
        rw [e]
        exact k2
/-- the sizes of what is left, i pieces gone through -/
def MI (i : Nat) (P C : Rat) : Prop := 0 ≤ P ∧ 0 ≤ C ∧ ((Sm (30 + 35 * i) P ∧ Sm (51 + 60 * i) C) ∨ (C = 0 ∧ Sm (2000 + 35 * i) P) ∨ (P = 0 ∧ Sm 2700 C))
theorem MI.sm {i : Nat} {P C : Rat} (h : MI i P C) (hi : i ≤ 20) : Sm 2700 P ∧ Sm 2700 C := by
  rcases h.2.2 with ⟨a, b⟩ | ⟨a, b⟩ | ⟨a, b⟩
  · exact ⟨a.mono (by omega), b.mono (by omega)⟩
  · exact ⟨b.mono (by omega), by rw [a]; exact sm_zero.mono (by omega)⟩
  · exact ⟨by rw [a]; exact sm_zero.mono (by omega), b⟩
theorem take_zeroP {w f C : Rat} (hw : 0 < w) (h0 : 0 ≤ f) (h1 : f ≤ 1) (hC : 0 ≤ C) : takeQ w f 0 C = 0 := by
  unfold takeQ
  by_cases hf : f = 0
  · rw [if_pos hf]
  · rw [if_neg hf]
    have e : (0 : Rat) / f = 0 := by rw [Rat.div_def, Rat.zero_mul]
    have m : minQ w 0 = 0 := by unfold minQ; rw [if_pos hw]
    rw [e, m]
    by_cases h : f = 1
    · rw [if_pos h]
    · rw [if_neg h]
      have := div_nonneg hC (one_sub_pos h1 h)
      unfold minQ
      rw [if_neg (Rat.not_lt.mpr this)]
theorem take_zeroC {w f P : Rat} (hw : 0 < w) (h0 : 0 ≤ f) (h1 : f ≠ 1) (hP : 0 ≤ P) : takeQ w f P 0 = 0 := by
  unfold takeQ
  by_cases hf : f = 0
  · rw [if_pos hf]
  · rw [if_neg hf, if_neg h1]
    have e : (0 : Rat) / (1 - f) = 0 := by rw [Rat.div_def, Rat.zero_mul]
    have n2 : 0 ≤ minQ w (P / f) := minQ_nonneg (Rat.le_of_lt hw) (div_nonneg hP (pos_of h0 hf))
    rw [e]
    show (if 0 < minQ w (P / f) then 0 else minQ w (P / f)) = 0
    split
    · rfl
    · rename_i z
      exact Rat.le_antisymm (Rat.not_lt.mp z) n2
/-- what is taken is all there is, or all that is wanted -/
theorem take_cases {w f P C : Rat} (h1 : f ≤ 1) : takeQ w f P C = 0 ∨ takeQ w f P C = w ∨ (f ≠ 0 ∧ takeQ w f P C = P / f) ∨ (f ≠ 1 ∧ takeQ w f P C = C / (1 - f)) := by
  unfold takeQ
  by_cases hf : f = 0
  · rw [if_pos hf]; exact .inl rfl
  · rw [if_neg hf]
    by_cases h : f = 1
    · rw [if_pos h]
      rcases minQ_or w (P / f) with e | e <;> rw [e]
      · exact .inr (.inl rfl)
      · exact .inr (.inr (.inl ⟨hf, rfl⟩))
    · rw [if_neg h]
      rcases minQ_or (minQ w (P / f)) (C / (1 - f)) with e | e <;> rw [e]
      · rcases minQ_or w (P / f) with e | e <;> rw [e]
        · exact .inr (.inl rfl)
        · exact .inr (.inr (.inl ⟨hf, rfl⟩))
      · exact .inr (.inr (.inr ⟨h, rfl⟩))
theorem sm_one_sub {f : Rat} (hf : Sm 10 f) : Sm 12 (1 - f) := sm_sub sm_one hf
theorem MI.step {i : Nat} {w f P C : Rat} (g : GoldQ (w, f)) (h : MI i P C) (hi : i < 20) : MI (i + 1) (P - takeQ w f P C * f) (C - (takeQ w f P C - takeQ w f P C * f)) ∧ Sm 2700 (takeQ w f P C) := by
  obtain ⟨hw, sw, h0, h1, sf⟩ := g
  have hw : 0 < w := hw
  have h0 : 0 ≤ f := h0
  have h1 : f ≤ 1 := h1
  have sw : Sm 24 w := sw
  have sf : Sm 10 f := sf
  obtain ⟨hP, hC, ph⟩ := h
  have ok := take_ok hw h0 h1 hP hC
  have nP : 0 ≤ P - takeQ w f P C * f := by have := ok.p; grind
  have nC : 0 ≤ C - (takeQ w f P C - takeQ w f P C * f) := by have := ok.c; grind
  -- t nought: nothing changes
  have zero : takeQ w f P C = 0 → MI (i + 1) (P - takeQ w f P C * f) (C - (takeQ w f P C - takeQ w f P C * f)) ∧ Sm 2700 (takeQ w f P C) := fun e => by
    rw [e, show P - 0 * f = P by grind, show C - (0 - 0 * f) = C by grind]
    refine ⟨⟨hP, hC, ?_⟩, sm_zero.mono (by omega)⟩
    rcases ph with ⟨a, b⟩ | ⟨a, b⟩ | ⟨a, b⟩
    · exact .inl ⟨a.mono (by omega), b.mono (by omega)⟩
    · exact .inr (.inl ⟨a, b.mono (by omega)⟩)
    · exact .inr (.inr ⟨a, b⟩)
  rcases ph with ⟨a, b⟩ | ⟨a, b⟩ | ⟨a, b⟩
  · rcases take_cases (w := w) (f := f) (P := P) (C := C) h1 with e | e | ⟨hf, e⟩ | ⟨hf, e⟩
    · exact zero e
    · rw [e] at nP nC ⊢
      have s1 := sm_mul sw sf
      have s2 := sm_sub sw s1
      exact ⟨⟨nP, nC, .inl ⟨(sm_sub a s1).mono (by omega), (sm_sub b s2).mono (by omega)⟩⟩, sw.mono (by omega)⟩
    · rw [e] at nP nC ⊢
      have s0 := sm_div a sf hf
      have s1 := sm_mul s0 sf
      have s2 := sm_sub s0 s1
      have e0 : P - P / f * f = 0 := by rw [Rat.div_mul_cancel hf]; grind
      exact ⟨⟨nP, nC, .inr (.inr ⟨e0, (sm_sub b s2).mono (by omega)⟩)⟩, s0.mono (by omega)⟩
    · rw [e] at nP nC ⊢
      have n1 : 1 - f ≠ 0 := by grind
      have s0 := sm_div b (sm_one_sub sf) n1
      have s1 := sm_mul s0 sf
      have e0 : C - (C / (1 - f) - C / (1 - f) * f) = 0 := by
        have : C / (1 - f) - C / (1 - f) * f = C / (1 - f) * (1 - f) := by grind
        rw [this, Rat.div_mul_cancel n1]
        grind
      exact ⟨⟨nP, nC, .inr (.inl ⟨e0, (sm_sub a s1).mono (by omega)⟩)⟩, s0.mono (by omega)⟩
  · by_cases hf : f = 1
    · have s1 := sm_mul sw sf
      subst hf
      have tc : takeQ w 1 P C = w ∨ takeQ w 1 P C = P := by
        unfold takeQ
        rw [if_neg (by decide), if_pos rfl]
        have e1 : P / 1 = P := by rw [Rat.div_def, show (1 : Rat)⁻¹ = 1 by decide +kernel, Rat.mul_one]
        rw [e1]
        exact minQ_or w P
      rcases tc with e | e
      · rw [e] at nP nC ⊢
        exact ⟨⟨nP, nC, .inr (.inl ⟨by rw [a]; grind, (sm_sub b s1).mono (by omega)⟩)⟩, sw.mono (by omega)⟩
      · rw [e] at nP nC ⊢
        exact ⟨⟨nP, nC, .inr (.inr ⟨by grind, by rw [a, show (0 : Rat) - (P - P * 1) = 0 by grind]; exact sm_zero.mono (by omega)⟩)⟩, b.mono (by omega)⟩
    · exact zero (by rw [a]; exact take_zeroC hw h0 hf hP)
  · exact zero (by rw [a]; exact take_zeroP hw h0 h1 hC)
theorem MI.start {W F : Rat} (hW : 0 < W) (sW : Sm 20 W) (h0 : 0 ≤ F) (h1 : F ≤ 1) (sF : Sm 10 F) : MI 0 (W * F) (W - W * F) := by
  have s1 := sm_mul sW sF
  refine ⟨Rat.mul_nonneg (Rat.le_of_lt hW) h0, ?_, .inl ⟨s1, sm_sub sW s1⟩⟩
  have := Rat.mul_le_mul_of_nonneg_left h1 (Rat.le_of_lt hW)
  grind
/-! ### the mix -/
def gQ (gs : List (Rat × Rat)) (i : Nat) : Rat × Rat := gs[i]?.getD (1, 0)
structure MxS where
  p : Rat
  c : Rat
  t : List Rat
def mixS (gs : List (Rat × Rat)) (st : MxS) (i : Nat) : MxS :=
  ⟨st.p - takeQ (gQ gs i).1 (gQ gs i).2 st.p st.c * (gQ gs i).2, st.c - (takeQ (gQ gs i).1 (gQ gs i).2 st.p st.c - takeQ (gQ gs i).1 (gQ gs i).2 st.p st.c * (gQ gs i).2), st.t.set i (takeQ (gQ gs i).1 (gQ gs i).2 st.p st.c)⟩
def mix0 (W F : Rat) (gs : List (Rat × Rat)) : MxS := ⟨W * F, W - W * F, List.replicate gs.length 0⟩
def mixQ (W F : Rat) (gs : List (Rat × Rat)) : MxS := (ordQ gs).foldl (mixS gs) (mix0 W F gs)
theorem gQ_of {gs : List (Rat × Rat)} {i : Nat} {w f : Rat} (h : gs[i]? = some (w, f)) : gQ gs i = (w, f) := by unfold gQ; rw [h]; rfl
theorem gQ_ok {gs : List (Rat × Rat)} (hq : ∀ p ∈ gs, GoldQ p) (i : Nat) : GoldQ (gQ gs i) := by
  unfold gQ
  cases e : gs[i]? with
  | none => exact ⟨show (0 : Rat) < 1 by decide, sm_one.mono (l := 24) (by omega), Rat.le_refl, show (0 : Rat) ≤ 1 by decide, sm_zero.mono (l := 10) (by omega)⟩
  | some p => exact hq p (List.mem_of_getElem? e)
/-- what a paper shows of a piece -/
def mxQ (p : Rat) (g : Rat × Rat) : Rat := if 0 < g.1 * g.2 - p * (g.1 - g.1 * g.2) then g.1 * g.2 - p * (g.1 - g.1 * g.2) else 0
def sumQ : List Rat → Rat
  | [] => 0
  | x :: l => x + sumQ l
theorem sumQ_perm {l m : List Rat} (h : l.Perm m) : sumQ l = sumQ m := by
  induction h with
  | nil => rfl
  | cons x _ ih => unfold sumQ; rw [ih]
  | swap x y l => unfold sumQ; unfold sumQ; grind
  | trans _ _ h1 h2 => rw [h1, h2]
theorem map_range {gs : List (Rat × Rat)} (f : Rat × Rat → Rat) : (List.range gs.length).map (fun i => f (gQ gs i)) = gs.map f := by
  refine List.ext_getElem? fun i => ?_
  rw [List.getElem?_map, List.getElem?_map]
  by_cases h : i < gs.length
  · rw [List.getElem?_range h, List.getElem?_eq_getElem h]
    show some (f (gQ gs i)) = some (f gs[i])
    unfold gQ
    rw [List.getElem?_eq_getElem h]
    rfl
  · rw [List.getElem?_eq_none (by simpa using h), List.getElem?_eq_none (by simpa using h)]
    rfl
theorem sum_ord {gs : List (Rat × Rat)} (f : Rat × Rat → Rat) : sumQ ((ordQ gs).map fun i => f (gQ gs i)) = sumQ (gs.map f) := by
  rw [← map_range]
  exact sumQ_perm ((foQ_perm gs gs.length).map _)
theorem mx_step {p w f P C : Rat} (hw : 0 < w) (h0 : 0 ≤ f) (h1 : f ≤ 1) (hP : 0 ≤ P) (hC : 0 ≤ C) : (P - p * C) - mxQ p (w, f) ≤ (P - takeQ w f P C * f) - p * (C - (takeQ w f P C - takeQ w f P C * f)) := by
  have ok := take_ok hw h0 h1 hP hC
  generalize takeQ w f P C = t at ok
  obtain ⟨n, l, _, _⟩ := ok
  have key : t * (f - p * (1 - f)) ≤ mxQ p (w, f) := by
    unfold mxQ
    have e : w * f - p * (w - w * f) = w * (f - p * (1 - f)) := by grind
    show t * (f - p * (1 - f)) ≤ if 0 < w * f - p * (w - w * f) then w * f - p * (w - w * f) else 0
    rw [e]
    by_cases hm : 0 < f - p * (1 - f)
    · rw [if_pos (Rat.mul_pos hw hm)]
      exact Rat.mul_le_mul_of_nonneg_right l (Rat.le_of_lt hm)
    · have hm' : f - p * (1 - f) ≤ 0 := Rat.not_lt.mp hm
      have a1 : t * (f - p * (1 - f)) ≤ t * 0 := Rat.mul_le_mul_of_nonneg_left hm' n
      have a2 : ¬ 0 < w * (f - p * (1 - f)) := fun z => hm ((Rat.mul_pos_iff_of_pos_left hw).mp z)
      rw [if_neg a2]
      rw [Rat.mul_zero] at a1
      exact a1
  grind
/-- the invariant of the mix's loop -/
theorem mix_inv {gs : List (Rat × Rat)} (hq : ∀ p ∈ gs, GoldQ p) (p : Rat) : ∀ (l : List Nat) (i : Nat) (st : MxS), MI i st.p st.c → i + l.length ≤ 20 → MI (i + l.length) (l.foldl (mixS gs) st).p (l.foldl (mixS gs) st).c ∧
    (st.p - p * st.c) - sumQ (l.map fun i => mxQ p (gQ gs i)) ≤ (l.foldl (mixS gs) st).p - p * (l.foldl (mixS gs) st).c
  | [], i, st, h, _ => ⟨h, by show st.p - p * st.c - 0 ≤ st.p - p * st.c; grind⟩
  | j :: l, i, st, h, hl => by
    have g := gQ_ok hq j
    rw [List.length_cons] at hl ⊢
    have h2 := (h.step g (by omega)).1
    obtain ⟨a, b⟩ := mix_inv hq p l (i + 1) (mixS gs st j) h2 (by omega)
    have k := mx_step (p := p) g.1 g.2.2.1 g.2.2.2.1 h.1 h.2.1
    refine ⟨by rw [show i + (l.length + 1) = i + 1 + l.length by omega]; exact a, ?_⟩
    show st.p - p * st.c - (mxQ p (gQ gs j) + sumQ (l.map fun i => mxQ p (gQ gs i))) ≤ _
    refine Rat.le_trans ?_ b
    have k' : st.p - p * st.c - mxQ p (gQ gs j) ≤ (mixS gs st j).p - p * (mixS gs st j).c := k
    grind
/-- what mixed tells: as a paper shows at the most -/
theorem mix_dual {W F : Rat} {gs : List (Rat × Rat)} (hq : ∀ p ∈ gs, GoldQ p) (hl : gs.length ≤ 20) (hW : 0 < W) (sW : Sm 20 W) (h0 : 0 ≤ F) (h1 : F ≤ 1) (sF : Sm 10 F) {p : Rat} (hp : 0 ≤ p) :
    0 ≤ (mixQ W F gs).p ∧ W * F - p * (W - W * F) - sumQ (gs.map (mxQ p)) ≤ (mixQ W F gs).p ∧ Sm 2700 (mixQ W F gs).p := by
  have ol : (ordQ gs).length = gs.length := foQ_len gs gs.length
  obtain ⟨a, b⟩ := mix_inv hq p (ordQ gs) 0 (mix0 W F gs) (MI.start hW sW h0 h1 sF) (by omega)
  rw [sum_ord] at b
  have b' : W * F - p * (W - W * F) - sumQ (gs.map (mxQ p)) ≤ (mixQ W F gs).p - p * (mixQ W F gs).c := b
  have a1 : 0 ≤ (mixQ W F gs).p := a.1
  have a2 : 0 ≤ (mixQ W F gs).c := a.2.1
  have := Rat.mul_nonneg hp a2
  exact ⟨a1, by grind, (a.sm (by omega)).1⟩
/-- all pure gold goes in where some is wanted still -/
theorem mix_pure {gs : List (Rat × Rat)} (hq : ∀ p ∈ gs, GoldQ p) : ∀ (l pre : List Nat) (st : MxS), 0 ≤ st.p → 0 ≤ st.c → (pre ++ l).Nodup → (∀ j ∈ pre ++ l, j < st.t.length) → (st.p = 0 ∨ ∀ j ∈ pre, (gQ gs j).2 = 1 → st.t[j]? = some (gQ gs j).1) →
    ((l.foldl (mixS gs) st).p = 0 ∨ ∀ j ∈ pre ++ l, (gQ gs j).2 = 1 → (l.foldl (mixS gs) st).t[j]? = some (gQ gs j).1)
  | [], pre, st, _, _, _, _, h => by rw [List.append_nil]; exact h
  | i :: l, pre, st, hP, hC, nd, hlt, h => by
    have g := gQ_ok hq i
    have ok := take_ok g.1 g.2.2.1 g.2.2.2.1 hP hC
    have e : pre ++ i :: l = (pre ++ [i]) ++ l := by simp
    rw [e] at nd hlt ⊢
    refine mix_pure hq l (pre ++ [i]) (mixS gs st i) ?_ ?_ nd (fun j hj => by show j < (st.t.set i _).length; rw [List.length_set]; exact hlt j hj) ?_
    · have := ok.p; show 0 ≤ st.p - _; grind
    · have := ok.c; show 0 ≤ st.c - (_ - _); grind
    · by_cases hp : st.p = 0
      · left
        have := ok.p
        have n : 0 ≤ takeQ (gQ gs i).1 (gQ gs i).2 st.p st.c * (gQ gs i).2 := Rat.mul_nonneg ok.nn g.2.2.1
        show st.p - _ = 0
        grind
      · rcases h with h | h
        · exact absurd h hp
        · have hi : i < st.t.length := hlt i (by simp)
          have ni : ∀ j ∈ pre, j ≠ i := fun j hj z => by
            subst z
            have := (List.nodup_append.mp ((List.nodup_append.mp nd).1)).2.2 j hj j (List.mem_singleton_self j)
            exact this rfl
          have old : ∀ j ∈ pre, (gQ gs j).2 = 1 → (mixS gs st i).t[j]? = some (gQ gs j).1 := fun j hj hf => by
            show (st.t.set i _)[j]? = _
            rw [List.getElem?_set_ne (Ne.symm (ni j hj))]
            exact h j hj hf
          by_cases h1 : (gQ gs i).2 = 1
          · have tc : takeQ (gQ gs i).1 (gQ gs i).2 st.p st.c = (gQ gs i).1 ∨ takeQ (gQ gs i).1 (gQ gs i).2 st.p st.c = st.p / (gQ gs i).2 := by
              unfold takeQ
              rw [if_neg (by rw [h1]; decide), if_pos h1]
              exact minQ_or _ _
            rcases tc with t | t
            · right
              intro j hj hf
              rcases List.mem_append.mp hj with hj | hj
              · exact old j hj hf
              · rw [List.mem_singleton.mp hj]
                show (st.t.set i _)[i]? = _
                rw [List.getElem?_set_self hi, t]
            · left
              show st.p - takeQ (gQ gs i).1 (gQ gs i).2 st.p st.c * (gQ gs i).2 = 0
              rw [t, Rat.div_mul_cancel (by rw [h1]; decide)]
              grind
          · right
            intro j hj hf
            rcases List.mem_append.mp hj with hj | hj
            · exact old j hj hf
            · rw [List.mem_singleton.mp hj] at hf
              exact absurd hf h1
end Vm
set_option Elab.async false
set_option linter.all false
set_option maxRecDepth 100000
set_option maxHeartbeats 4000000
/-! What the text's functions of mixes tell. -/
namespace Vm
open PySem
theorem lst_idx {s : Vs} {a i : Nat} {l : List W} {x : W} (h : s[a]? = some (.lst l)) (hx : l[i]? = some x) : idxV (.ref a) (.int (i : Nat)) s = .ok x s := idx_ref h (by omega) (by rw [Int.toNat_natCast]; exact hx)
theorem tup_idx {s : Vs} {i : Nat} {l : List W} {x : W} (hx : l[i]? = some x) : idxV (.tup l) (.int (i : Nat)) s = .ok x s := by
  show (match L2.atI l ((i : Nat) : Int) with | some w => Out.ok w s | none => .err) = _
  rw [atI_nat (by omega) (by rw [Int.toNat_natCast]; exact hx)]
theorem lst_set {s : Vs} {a i : Nat} {l : List W} {v : W} (h : s[a]? = some (.lst l)) (hi : i < l.length) : setV (.ref a) (.int (i : Nat)) v s = some (s.set a (.lst (l.set i v))) := by
  rw [setV_ref h (by omega) (by rw [Int.toNat_natCast]; exact hi), Int.toNat_natCast]
theorem flat_rep (n : Nat) (x : W) : (List.replicate n [x]).flatten = List.replicate n x := by
  induction n with
  | zero => rfl
  | succ n ih => rw [List.replicate_succ, List.flatten_cons, ih]; rfl
theorem mul_lst {s : Vs} {a n : Nat} {x : W} (h : s[a]? = some (.lst [x])) (hn : n ≤ 2 ^ 20) : binV .mul (.ref a) (.int (n : Nat)) s = .ok (.ref s.length) (s ++ [.lst (List.replicate n x)]) := by
  show (match s[a]? with | some (.lst l) => if decide (-(2 ^ 63) ≤ (n : Int) ∧ (n : Int) < 2 ^ 63) && fits (l.length * (n : Int).toNat) then newL (List.replicate (n : Int).toNat l).flatten s else .err | _ => .err) = _
  rw [h]
  show (if decide (-(2 ^ 63) ≤ (n : Int) ∧ (n : Int) < 2 ^ 63) && fits (1 * (n : Int).toNat) then newL (List.replicate (n : Int).toNat [x]).flatten s else .err) = _
  rw [Int.toNat_natCast, Nat.one_mul, fits20 hn, decide_eq_true (by omega), flat_rep]
  rfl
theorem src_ref {s : Vs} {a : Nat} {l : List W} (h : s[a]? = some (.lst l)) : srcV (.ref a) s = .ok ⟨l, [(a, l)]⟩ s := by
  show (match lstAt s a with | some l => Out.ok (⟨l, [(a, l)]⟩ : Src) s | none => .err) = _
  rw [lst_at h]
theorem setTs3 (x y z : W) (i j k : Nat) (r : Rho) (s : Vs) : setTs [i, j, k] (.tup [x, y, z]) r s = some (((r.set i (some x)).set j (some y)).set k (some z)) := rfl
theorem setT2 (x y : W) (i j : Nat) (r : Rho) : setT (.tp [i, j]) (.tup [x, y]) r = some ((r.set i (some x)).set j (some y)) := rfl
section
variable {T : Str → Str → Option Te} {gl : Str → Option W} {fl : Str → List Str} {n : Nat} {s : Vs}
theorem sp_taken (M : MixT T gl fl) {r : Nat} {w f P C : Rat} (hr : s[r]? = some (goldO w f)) (g : GoldQ (w, f)) (sP : Sm 2700 P) (sC : Sm 2700 C) : run T gl fl (n + 4) Str.empty "taken_of" [.ref r, fr P, fr C] s = .ok (fr (takeQ w f P C)) s := by
  have sw : Sm 24 w := g.2.1
  have sf : Sm 10 f := g.2.2.2.2
  refine run_rt M.taken rfl ?_
  show denB _ (.cons _ (.cons _ (.cons _ (.cons _ .nil)))) [some (.ref r), some (fr P), some (fr C), none] s = _
  unfold takeQ
  by_cases hf : f = 0
  · rw [if_pos hf]
    exact B_tr (s1 := s) (by simp only [den, denL, test, bind_ok, fin_ok, truth_bl, cmpV_lt, cmpV_le, cmpV_gt, cmpV_ge, binV_add, binV_sub, idx2_0, idx2_1, biV_abs, getO_0, getO_s, set_0, set_s, sif_t, sif_f, if_true, if_false, List.length_cons, List.length_nil, denL, fits1, fits2, fits3, fits4, fits5, fits6, fits7, fits8, newL_eq, fld_fineness hr, M.nought, cmpV_eqF, hf, decide_true]) (B_ret (by simp only [den, denL, test, bind_ok, fin_ok, truth_bl, cmpV_lt, cmpV_le, cmpV_gt, cmpV_ge, binV_add, binV_sub, idx2_0, idx2_1, biV_abs, getO_0, getO_s, set_0, set_s, sif_t, sif_f, if_true, if_false, List.length_cons, List.length_nil, denL, fits1, fits2, fits3, fits4, fits5, fits6, fits7, fits8, newL_eq, M.nought]))
  · rw [if_neg hf, B_f (s1 := s) (by simp only [den, denL, test, bind_ok, fin_ok, truth_bl, cmpV_lt, cmpV_le, cmpV_gt, cmpV_ge, binV_add, binV_sub, idx2_0, idx2_1, biV_abs, getO_0, getO_s, set_0, set_s, sif_t, sif_f, if_true, if_false, List.length_cons, List.length_nil, denL, fits1, fits2, fits3, fits4, fits5, fits6, fits7, fits8, newL_eq, fld_fineness hr, M.nought, cmpV_eqF, hf, decide_false])]
    have s1 := sm_div sP sf hf
    rw [B_asg (w := fr (minQ w (P / f))) (s1 := s) (by simp only [den, denL, test, bind_ok, fin_ok, truth_bl, cmpV_lt, cmpV_le, cmpV_gt, cmpV_ge, binV_add, binV_sub, idx2_0, idx2_1, biV_abs, getO_0, getO_s, set_0, set_s, sif_t, sif_f, if_true, if_false, List.length_cons, List.length_nil, denL, fits1, fits2, fits3, fits4, fits5, fits6, fits7, fits8, newL_eq, fld_weight hr, fld_fineness hr, sp_over M.toFracT sP sf (show 2700 + 10 < 9000 by omega) hf, sp_least_of M.toGoldT sw s1 (show 24 + (2700 + 10) < 9000 by omega)]; rfl)]
    simp only [set_0, set_s]
    by_cases h1 : f = 1
    · rw [if_pos h1, B_f (s1 := s) (by simp only [den, denL, test, bind_ok, fin_ok, truth_bl, cmpV_lt, cmpV_le, cmpV_gt, cmpV_ge, binV_add, binV_sub, idx2_0, idx2_1, biV_abs, getO_0, getO_s, set_0, set_s, sif_t, sif_f, if_true, if_false, List.length_cons, List.length_nil, denL, fits1, fits2, fits3, fits4, fits5, fits6, fits7, fits8, newL_eq, fld_fineness hr, M.one, cmpV_neF, h1, decide_true, Bool.not_true])]
      exact B_ret (by simp only [den, denL, test, bind_ok, fin_ok, truth_bl, cmpV_lt, cmpV_le, cmpV_gt, cmpV_ge, binV_add, binV_sub, idx2_0, idx2_1, biV_abs, getO_0, getO_s, set_0, set_s, sif_t, sif_f, if_true, if_false, List.length_cons, List.length_nil, denL, fits1, fits2, fits3, fits4, fits5, fits6, fits7, fits8, newL_eq])
    · rw [if_neg h1]
      have s2 : Sm 2710 (minQ w (P / f)) := by
        rcases minQ_or w (P / f) with e | e
        · rw [e]; exact sw.mono (by omega)
        · rw [e]; exact s1
      have n1 : 1 - f ≠ 0 := by grind
      have s3 := sm_div sC (sm_one_sub sf) n1
      rw [B_tt (r' := [some (.ref r), some (fr P), some (fr C), some (fr (minQ (minQ w (P / f)) (C / (1 - f))))]) (s1 := s) (s' := s) (by simp only [den, denL, test, bind_ok, fin_ok, truth_bl, cmpV_lt, cmpV_le, cmpV_gt, cmpV_ge, binV_add, binV_sub, idx2_0, idx2_1, biV_abs, getO_0, getO_s, set_0, set_s, sif_t, sif_f, if_true, if_false, List.length_cons, List.length_nil, denL, fits1, fits2, fits3, fits4, fits5, fits6, fits7, fits8, newL_eq, fld_fineness hr, M.one, cmpV_neF, h1, decide_false, Bool.not_false]) (by
        rw [B_asg (w := fr (minQ (minQ w (P / f)) (C / (1 - f)))) (s1 := s) (by simp only [den, denL, test, bind_ok, fin_ok, truth_bl, cmpV_lt, cmpV_le, cmpV_gt, cmpV_ge, binV_add, binV_sub, idx2_0, idx2_1, biV_abs, getO_0, getO_s, set_0, set_s, sif_t, sif_f, if_true, if_false, List.length_cons, List.length_nil, denL, fits1, fits2, fits3, fits4, fits5, fits6, fits7, fits8, newL_eq, fld_fineness hr, M.one, sp_minus M.toFracT sm_one sf (show 1 + 10 < 9000 by omega), sp_over M.toFracT sC (sm_one_sub sf) (show 2700 + 12 < 9000 by omega) n1, sp_least_of M.toGoldT s2 s3 (show 2710 + (2700 + 12) < 9000 by omega)]; rfl)]
        exact B_nil)]
      exact B_ret (by simp only [den, denL, test, bind_ok, fin_ok, truth_bl, cmpV_lt, cmpV_le, cmpV_gt, cmpV_ge, binV_add, binV_sub, idx2_0, idx2_1, biV_abs, getO_0, getO_s, set_0, set_s, sif_t, sif_f, if_true, if_false, List.length_cons, List.length_nil, denL, fits1, fits2, fits3, fits4, fits5, fits6, fits7, fits8, newL_eq])
theorem fr_set {l : List Rat} {i : Nat} {t : Rat} : (l.map fr).set i (fr t) = (l.set i t).map fr := List.map_set.symm
theorem mixS_len {gs : List (Rat × Rat)} : ∀ (l : List Nat) (st : MxS), (l.foldl (mixS gs) st).t.length = st.t.length
  | [], _ => rfl
  | j :: l, st => by
    rw [List.foldl_cons, mixS_len l]
    exact List.length_set
theorem sp_mixed (M : MixT T gl fl) {a : Nat} {gs : List (Rat × Rat)} {W0 F : Rat} (h : StockAt s a gs) (hq : ∀ p ∈ gs, GoldQ p) (hl : gs.length ≤ 20) (hW : 0 < W0) (sW : Sm 20 W0) (h0 : 0 ≤ F) (h1 : F ≤ 1) (sF : Sm 10 F) :
    ∃ s', run T gl fl (n + 5) Str.empty "mixed" [fr W0, fr F, .ref a] s = .ok (.tup [fr (mixQ W0 F gs).p, fr (mixQ W0 F gs).c, .tup ((mixQ W0 F gs).t.map fr)]) s' ∧ Fr (fun _ => False) s s' := by
  let D : Wd := ⟨run T gl fl (n + 4), gl, fl⟩
  have h' := h
  obtain ⟨rs, ha, hlen, hg⟩ := h
  let s1 : Vs := s ++ [.lst [fr 0]]
  let s2 : Vs := s1 ++ [.lst (List.replicate gs.length (fr 0))]
  have f1 : Fr (fun _ => False) s s1 := Fr.app
  have f2 : Fr (fun _ => False) s1 s2 := Fr.app
  obtain ⟨s3, eo, ho, f3⟩ := sp_finest (n := n + 2) M (h'.fr0 (f1.trans f2)) hq (by omega)
  have ol : (ordQ gs).length = gs.length := foQ_len gs gs.length
  have b1 : s1.length < s2.length := by rw [show s2.length = s1.length + 1 from List.length_append]; omega
  have hb3 : s3[s1.length]? = some (.lst ((mix0 W0 F gs).t.map fr)) := by
    have e : (mix0 W0 F gs).t.map fr = List.replicate gs.length (fr 0) := List.map_replicate
    rw [e]
    exact f3.get get_last id
  have f03 : Fr (fun _ => False) s s3 := (f1.trans f2).trans f3
  have q0 := mix_inv hq 0
  -- the loop
  let I : List W → Rho → Vs → Prop := fun l r s' => ∃ (pre rest : List Nat) (x6 x7 x8 : Option W), ordQ gs = pre ++ rest ∧ l = rest.map (fun i => W.int (i : Nat)) ∧ MI pre.length (pre.foldl (mixS gs) (mix0 W0 F gs)).p (pre.foldl (mixS gs) (mix0 W0 F gs)).c ∧
    s'[s1.length]? = some (.lst ((pre.foldl (mixS gs) (mix0 W0 F gs)).t.map fr)) ∧ Fr (· = s1.length) s3 s' ∧ r = [some (fr W0), some (fr F), some (.ref a), some (fr (pre.foldl (mixS gs) (mix0 W0 F gs)).p), some (fr (pre.foldl (mixS gs) (mix0 W0 F gs)).c), some (.ref s1.length), x6, x7, x8]
  have al := lt_of_get ha
  have a1 : s.length < s1.length := by rw [show s1.length = s.length + 1 from List.length_append]; omega
  have inv := for_nx (I := I) (ok := Src.ok ⟨(ordQ gs).map fun i => W.int (i : Nat), [(s2.length, (ordQ gs).map fun i => W.int (i : Nat))]⟩)
    (f := forF D (.nm 6) (.cons (.asg 7 (.idx (.var 2) (.var 6))) (.cons (.ssub (.var 5) (.var 6) (.call "taken_of" (.cons (.var 7) (.cons (.var 3) (.cons (.var 4) .nil))))) (.cons (.asg 8 (.call "times" (.cons (.idx (.var 5) (.var 6)) (.cons (.fld (.var 7) "fineness") .nil)))) (.cons (.asg 3 (.call "minus" (.cons (.var 3) (.cons (.var 8) .nil)))) (.cons (.asg 4 (.call "minus" (.cons (.var 4) (.cons (.call "minus" (.cons (.idx (.var 5) (.var 6)) (.cons (.var 8) .nil))) .nil)))) .nil))))))
    (l := (ordQ gs).map fun i => W.int (i : Nat)) (r := [some (fr W0), some (fr F), some (.ref a), some (fr (W0 * F)), some (fr (W0 - W0 * F)), some (.ref s1.length), none, none, none]) (s := s3)
    (fun l r s' ⟨pre, rest, x6, x7, x8, e1, e2, e3, e4, f, e5⟩ p hp => by
      rw [List.mem_singleton.mp hp]
      exact lst_at (f.get ho (by omega)))
    (fun x l r s' ⟨pre, rest, x6, x7, x8, e1, e2, e3, e4, f, e5⟩ => by
      cases rest with
      | nil => cases e2
      | cons i rest =>
        rw [List.map_cons] at e2
        cases e2
        subst e5
        have im : i ∈ ordQ gs := by rw [e1]; simp
        have il : i < gs.length := foQ_lt im
        obtain ⟨⟨w, g⟩, eg⟩ : ∃ p, gs[i]? = some p := ⟨gs[i], List.getElem?_eq_getElem il⟩
        have qg := hq (w, g) (List.mem_of_getElem? eg)
        obtain ⟨rr, k1, k2⟩ := hg i w g eg
        have rl : rr < s.length := lt_of_get k2
        have hr : s'[rr]? = some (goldO w g) := f.get (f03.get k2 id) (by omega)
        have ha' : s'[a]? = some (.lst (rs.map W.ref)) := f.get (f03.get ha id) (by omega)
        have pl : pre.length < 20 := by
          have := congrArg List.length e1
          rw [List.length_append, List.length_cons] at this
          omega
        have eQ : gQ gs i = (w, g) := gQ_of eg
        have st2 : (pre ++ [i]).foldl (mixS gs) (mix0 W0 F gs) = mixS gs (pre.foldl (mixS gs) (mix0 W0 F gs)) i := by rw [List.foldl_append]; rfl
        have tl : (pre.foldl (mixS gs) (mix0 W0 F gs)).t.length = gs.length := by rw [mixS_len]; exact List.length_replicate
        obtain ⟨nx, st⟩ := e3.step qg pl
        have nx' : MI (pre ++ [i]).length ((pre ++ [i]).foldl (mixS gs) (mix0 W0 F gs)).p ((pre ++ [i]).foldl (mixS gs) (mix0 W0 F gs)).c := by
          rw [st2, List.length_append]
          show MI (pre.length + 1) (_ - takeQ (gQ gs i).1 (gQ gs i).2 _ _ * (gQ gs i).2) (_ - (takeQ (gQ gs i).1 (gQ gs i).2 _ _ - takeQ (gQ gs i).1 (gQ gs i).2 _ _ * (gQ gs i).2))
          rw [eQ]
          exact nx
        have sm := e3.sm (by omega)
        have eS : mixS gs (pre.foldl (mixS gs) (mix0 W0 F gs)) i = ⟨(pre.foldl (mixS gs) (mix0 W0 F gs)).p - takeQ w g (pre.foldl (mixS gs) (mix0 W0 F gs)).p (pre.foldl (mixS gs) (mix0 W0 F gs)).c * g, (pre.foldl (mixS gs) (mix0 W0 F gs)).c - (takeQ w g (pre.foldl (mixS gs) (mix0 W0 F gs)).p (pre.foldl (mixS gs) (mix0 W0 F gs)).c - takeQ w g (pre.foldl (mixS gs) (mix0 W0 F gs)).p (pre.foldl (mixS gs) (mix0 W0 F gs)).c * g), (pre.foldl (mixS gs) (mix0 W0 F gs)).t.set i (takeQ w g (pre.foldl (mixS gs) (mix0 W0 F gs)).p (pre.foldl (mixS gs) (mix0 W0 F gs)).c)⟩ := by
          show MxS.mk (_ - takeQ (gQ gs i).1 (gQ gs i).2 _ _ * (gQ gs i).2) _ _ = _
          rw [eQ]
        rw [eS] at st2
        generalize hst : pre.foldl (mixS gs) (mix0 W0 F gs) = st0 at *
        generalize ht : takeQ w g st0.p st0.c = t at *
        have sf : Sm 10 g := qg.2.2.2.2
        have spu := sm_mul st sf
        have sdi := sm_sub st spu
        have hset : setV (.ref s1.length) (.int (i : Nat)) (fr t) s' = some (s'.set s1.length (.lst ((st0.t.set i t).map fr))) := by
          rw [lst_set e4 (by rw [List.length_map, tl]; exact il), fr_set]
        let s4 : Vs := s'.set s1.length (.lst ((st0.t.set i t).map fr))
        have f4 : Fr (· = s1.length) s' s4 := Fr.set rfl
        have h4 : s4[s1.length]? = some (.lst ((st0.t.set i t).map fr)) := List.getElem?_set_self (lt_of_get e4)
        have g4 : s4[rr]? = some (goldO w g) := f4.get hr (by omega)
        have ti : ((st0.t.set i t).map fr)[i]? = some (fr t) := by rw [List.getElem?_map, List.getElem?_set_self (by rw [tl]; exact il)]; rfl
        refine ⟨[some (fr W0), some (fr F), some (.ref a), some (fr (st0.p - t * g)), some (fr (st0.c - (t - t * g))), some (.ref s1.length), some (.int (i : Nat)), some (.ref rr), some (fr (t * g))], s4, ?_, pre ++ [i], rest, _, _, _, by rw [e1]; simp, rfl, nx', by rw [st2]; exact h4, f.trans f4, by rw [st2]⟩
        show denB D _ [some (fr W0), some (fr F), some (.ref a), some (fr st0.p), some (fr st0.c), some (.ref s1.length), some (.int (i : Nat)), x7, x8] s' = _
        rw [B_asg (w := .ref rr) (s1 := s') (by simp only [den, denL, test, bind_ok, fin_ok, truth_bl, cmpV_lt, cmpV_le, cmpV_gt, cmpV_ge, binV_add, binV_sub, idx2_0, idx2_1, biV_abs, getO_0, getO_s, set_0, set_s, sif_t, sif_f, if_true, if_false, List.length_cons, List.length_nil, denL, fits1, fits2, fits3, fits4, fits5, fits6, fits7, fits8, newL_eq, lst_idx ha' (show (rs.map W.ref)[i]? = some (.ref rr) by rw [List.getElem?_map, k1]; rfl)])]
        simp only [set_0, set_s]
        rw [B_ssub (w := fr t) (x := .ref s1.length) (k := .int (i : Nat)) (s1 := s') (s2 := s') (s3 := s') (s' := s4) (by simp only [den, denL, test, bind_ok, fin_ok, truth_bl, cmpV_lt, cmpV_le, cmpV_gt, cmpV_ge, binV_add, binV_sub, idx2_0, idx2_1, biV_abs, getO_0, getO_s, set_0, set_s, sif_t, sif_f, if_true, if_false, List.length_cons, List.length_nil, denL, fits1, fits2, fits3, fits4, fits5, fits6, fits7, fits8, newL_eq, D, sp_taken (n := n) M hr qg sm.1 sm.2, ht]) (by simp only [den, denL, test, bind_ok, fin_ok, truth_bl, cmpV_lt, cmpV_le, cmpV_gt, cmpV_ge, binV_add, binV_sub, idx2_0, idx2_1, biV_abs, getO_0, getO_s, set_0, set_s, sif_t, sif_f, if_true, if_false, List.length_cons, List.length_nil, denL, fits1, fits2, fits3, fits4, fits5, fits6, fits7, fits8, newL_eq]) (by simp only [den, denL, test, bind_ok, fin_ok, truth_bl, cmpV_lt, cmpV_le, cmpV_gt, cmpV_ge, binV_add, binV_sub, idx2_0, idx2_1, biV_abs, getO_0, getO_s, set_0, set_s, sif_t, sif_f, if_true, if_false, List.length_cons, List.length_nil, denL, fits1, fits2, fits3, fits4, fits5, fits6, fits7, fits8, newL_eq]) hset]
        rw [B_asg (w := fr (t * g)) (s1 := s4) (by simp only [den, denL, test, bind_ok, fin_ok, truth_bl, cmpV_lt, cmpV_le, cmpV_gt, cmpV_ge, binV_add, binV_sub, idx2_0, idx2_1, biV_abs, getO_0, getO_s, set_0, set_s, sif_t, sif_f, if_true, if_false, List.length_cons, List.length_nil, denL, fits1, fits2, fits3, fits4, fits5, fits6, fits7, fits8, newL_eq, D, lst_idx h4 ti, fld_fineness g4, sp_times (n := n + 1) M.toFracT st sf (show 2700 + 10 < 9000 by omega)])]
        simp only [set_0, set_s]
        rw [B_asg (w := fr (st0.p - t * g)) (s1 := s4) (by simp only [den, denL, test, bind_ok, fin_ok, truth_bl, cmpV_lt, cmpV_le, cmpV_gt, cmpV_ge, binV_add, binV_sub, idx2_0, idx2_1, biV_abs, getO_0, getO_s, set_0, set_s, sif_t, sif_f, if_true, if_false, List.length_cons, List.length_nil, denL, fits1, fits2, fits3, fits4, fits5, fits6, fits7, fits8, newL_eq, D, sp_minus (n := n + 1) M.toFracT sm.1 spu (show 2700 + (2700 + 10) < 9000 by omega)])]
        simp only [set_0, set_s]
        rw [B_asg (w := fr (st0.c - (t - t * g))) (s1 := s4) (by simp only [den, denL, test, bind_ok, fin_ok, truth_bl, cmpV_lt, cmpV_le, cmpV_gt, cmpV_ge, binV_add, binV_sub, idx2_0, idx2_1, biV_abs, getO_0, getO_s, set_0, set_s, sif_t, sif_f, if_true, if_false, List.length_cons, List.length_nil, denL, fits1, fits2, fits3, fits4, fits5, fits6, fits7, fits8, newL_eq, D, lst_idx h4 ti, sp_minus (n := n + 1) M.toFracT st spu (show 2700 + (2700 + 10) < 9000 by omega), sp_minus (n := n + 1) M.toFracT sm.2 sdi (show 2700 + (2700 + (2700 + 10) + 1) < 9000 by omega)])]
        simp only [set_0, set_s]
        exact B_nil)
    ⟨[], ordQ gs, none, none, none, rfl, rfl, MI.start hW sW h0 h1 sF, hb3, Fr.refl, rfl⟩
  obtain ⟨r', s', e, pre, rest, x6, x7, x8, e1, e2, e3, e4, f, e5⟩ := inv
  have er : rest = [] := by cases rest with | nil => rfl | cons _ _ => cases e2
  subst er
  rw [List.append_nil] at e1
  rw [← e1] at e4 e5
  refine ⟨s', ?_, (f03.weak f fun j hj z => by omega)⟩
  refine run_rt M.mixed rfl ?_
  show denB D (.cons _ (.cons _ (.cons _ (.cons _ (.cons _ .nil))))) [some (fr W0), some (fr F), some (.ref a), none, none, none, none, none, none] s = _
  have z1 := sm_mul sW sF
  rw [B_asg (w := fr (W0 * F)) (s1 := s) (by simp only [den, denL, test, bind_ok, fin_ok, truth_bl, cmpV_lt, cmpV_le, cmpV_gt, cmpV_ge, binV_add, binV_sub, idx2_0, idx2_1, biV_abs, getO_0, getO_s, set_0, set_s, sif_t, sif_f, if_true, if_false, List.length_cons, List.length_nil, denL, fits1, fits2, fits3, fits4, fits5, fits6, fits7, fits8, newL_eq, D, sp_times (n := n + 1) M.toFracT sW sF (show 20 + 10 < 9000 by omega)])]
  simp only [set_0, set_s]
  rw [B_asg (w := fr (W0 - W0 * F)) (s1 := s) (by simp only [den, denL, test, bind_ok, fin_ok, truth_bl, cmpV_lt, cmpV_le, cmpV_gt, cmpV_ge, binV_add, binV_sub, idx2_0, idx2_1, biV_abs, getO_0, getO_s, set_0, set_s, sif_t, sif_f, if_true, if_false, List.length_cons, List.length_nil, denL, fits1, fits2, fits3, fits4, fits5, fits6, fits7, fits8, newL_eq, D, sp_minus (n := n + 1) M.toFracT sW z1 (show 20 + (20 + 10) < 9000 by omega)])]
  simp only [set_0, set_s]
  have z2 : s1[s.length]? = some (.lst [fr 0]) := get_last
  have z3 : s1[a]? = some (.lst (rs.map W.ref)) := f1.get ha id
  have z4 : ((rs.map W.ref).length : Int) = ((gs.length : Nat) : Int) := by rw [List.length_map, hlen]
  rw [B_asg (w := .ref s1.length) (s1 := s2) (by
    simp only [den, denL, test, bind_ok, fin_ok, truth_bl, cmpV_lt, cmpV_le, cmpV_gt, cmpV_ge, binV_add, binV_sub, idx2_0, idx2_1, biV_abs, getO_0, getO_s, set_0, set_s, sif_t, sif_f, if_true, if_false, List.length_cons, List.length_nil, denL, fits1, fits2, fits3, fits4, fits5, fits6, fits7, fits8, newL_eq, D, M.nought]
    have e9 : biV .len [.ref a] (s ++ [.lst [fr 0]]) = .ok (.int (gs.length : Nat)) s1 := by rw [len_ref z3, z4]
    simp only [den, denL, test, bind_ok, fin_ok, truth_bl, cmpV_lt, cmpV_le, cmpV_gt, cmpV_ge, binV_add, binV_sub, idx2_0, idx2_1, biV_abs, getO_0, getO_s, set_0, set_s, sif_t, sif_f, if_true, if_false, List.length_cons, List.length_nil, denL, fits1, fits2, fits3, fits4, fits5, fits6, fits7, fits8, newL_eq, e9]
    exact mul_lst z2 (by omega))]
  simp only [set_0, set_s]
  rw [B_for (q := ⟨(ordQ gs).map fun i => W.int (i : Nat), [(s2.length, (ordQ gs).map fun i => W.int (i : Nat))]⟩) (s1 := s3) (by
    rw [denI]
    simp only [den, denL, test, bind_ok, fin_ok, truth_bl, cmpV_lt, cmpV_le, cmpV_gt, cmpV_ge, binV_add, binV_sub, idx2_0, idx2_1, biV_abs, getO_0, getO_s, set_0, set_s, sif_t, sif_f, if_true, if_false, List.length_cons, List.length_nil, denL, fits1, fits2, fits3, fits4, fits5, fits6, fits7, fits8, newL_eq, D, eo]
    exact src_ref ho) e]
  subst e5
  refine B_ret ?_
  have e8 : biV .tuple [.ref s1.length] s' = .ok (.tup ((mixQ W0 F gs).t.map fr)) s' := by
    show (match lstAt s' s1.length with | some l => Out.ok (W.tup l) s' | none => .err) = _
    rw [lst_at e4]
    rfl
  simp only [den, denL, test, bind_ok, fin_ok, truth_bl, cmpV_lt, cmpV_le, cmpV_gt, cmpV_ge, binV_add, binV_sub, idx2_0, idx2_1, biV_abs, getO_0, getO_s, set_0, set_s, sif_t, sif_f, if_true, if_false, List.length_cons, List.length_nil, denL, fits1, fits2, fits3, fits4, fits5, fits6, fits7, fits8, newL_eq, e8]
  rfl
end
end Vm
set_option Elab.async false
set_option linter.all false
set_option maxRecDepth 100000
set_option maxHeartbeats 4000000
/-! Papers: least_new, paper_for. -/
namespace Vm
open PySem
theorem sumQ_app : ∀ (l m : List Rat), sumQ (l ++ m) = sumQ l + sumQ m
  | [], m => by show sumQ m = 0 + sumQ m; grind
  | x :: l, m => by show x + sumQ (l ++ m) = x + sumQ l + sumQ m; rw [sumQ_app l m]; grind
/-- what a paper shows, k pieces gone through -/
def vQ (W0 F : Rat) (gs : List (Rat × Rat)) (p : Rat) (k : Nat) : Rat := W0 * F - p * (W0 - W0 * F) - sumQ ((gs.take k).map (mxQ p))
theorem vQ_succ {W0 F p : Rat} {gs : List (Rat × Rat)} {k : Nat} {g : Rat × Rat} (h : gs[k]? = some g) : vQ W0 F gs p (k + 1) = vQ W0 F gs p k - mxQ p g := by
  unfold vQ
  have hk : k < gs.length := (List.getElem?_eq_some_iff.mp h).1
  rw [List.take_succ, h]
  show _ - sumQ ((gs.take k ++ [g]).map (mxQ p)) = _
  rw [List.map_append, sumQ_app]
  show _ - (_ + (mxQ p g + 0)) = _
  grind
def lnewQ (W0 F : Rat) (gs : List (Rat × Rat)) (p : Rat) : Rat := if vQ W0 F gs p gs.length < 0 then 0 else vQ W0 F gs p gs.length
def meQ (p : Rat) (g : Rat × Rat) : Rat := g.1 * g.2 - p * (g.1 - g.1 * g.2)
theorem mx_me (p : Rat) (g : Rat × Rat) : mxQ p g = if 0 < meQ p g then meQ p g else 0 := rfl
theorem sm_me {p : Rat} {g : Rat × Rat} (hg : GoldQ g) (sp : Sm 30 p) : Sm 124 (meQ p g) := by
  have s1 := sm_mul hg.2.1 hg.2.2.2.2
  exact (sm_sub s1 (sm_mul sp (sm_sub hg.2.1 s1))).mono (by omega)
theorem sm_mx {p : Rat} {g : Rat × Rat} (hg : GoldQ g) (sp : Sm 30 p) : Sm 124 (mxQ p g) := by
  rw [mx_me]
  split
  · exact sm_me hg sp
  · exact sm_zero.mono (by omega)
theorem sm_v {W0 F p : Rat} {gs : List (Rat × Rat)} (hq : ∀ p ∈ gs, GoldQ p) (sW : Sm 20 W0) (sF : Sm 10 F) (sp : Sm 30 p) : ∀ k, k ≤ gs.length → Sm (112 + 125 * k) (vQ W0 F gs p k)
  | 0, _ => by
    have s1 := sm_mul sW sF
    have e : vQ W0 F gs p 0 = W0 * F - p * (W0 - W0 * F) := by show _ - 0 = _; grind
    rw [e]
    exact (sm_sub s1 (sm_mul sp (sm_sub sW s1))).mono (by omega)
  | k + 1, h => by
    have e : gs[k]? = some gs[k] := List.getElem?_eq_getElem h
    rw [vQ_succ e]
    exact (sm_sub (sm_v hq sW sF sp k (by omega)) (sm_mx (hq _ (List.getElem_mem h)) sp)).mono (by omega)
section
variable {T : Str → Str → Option Te} {gl : Str → Option W} {fl : Str → List Str} {n : Nat} {s : Vs}
theorem sp_least_new (M : MixT T gl fl) {a : Nat} {gs : List (Rat × Rat)} {W0 F p : Rat} (h : StockAt s a gs) (hq : ∀ p ∈ gs, GoldQ p) (hl : gs.length ≤ 20) (sW : Sm 20 W0) (sF : Sm 10 F) (sp : Sm 30 p) :
    run T gl fl (n + 6) Str.empty "least_new" [fr W0, fr F, .ref a, fr p] s = .ok (fr (lnewQ W0 F gs p)) s := by
  let D : Wd := ⟨run T gl fl (n + 5), gl, fl⟩
  obtain ⟨rs, ha, hlen, hg⟩ := h
  have s1 := sm_mul sW sF
  have s2 := sm_sub sW s1
  have s3 := sm_mul sp s2
  have e0 : vQ W0 F gs p 0 = W0 * F - p * (W0 - W0 * F) := by show _ - 0 = _; grind
  let I : List W → Rho → Vs → Prop := fun l r s' => ∃ k x6 x7, k ≤ gs.length ∧ l = (rs.drop k).map W.ref ∧ s' = s ∧ r = [some (fr W0), some (fr F), some (.ref a), some (fr p), some (fr (W0 * F)), some (fr (vQ W0 F gs p k)), x6, x7]
  have inv := for_nx (I := I) (ok := Src.ok ⟨rs.map W.ref, [(a, rs.map W.ref)]⟩)
    (f := forF D (.nm 6) (.cons (.asg 7 (.call "minus" (.cons (.omt "Gold" "pure" (.var 6) .nil) (.cons (.call "times" (.cons (.var 3) (.cons (.call "copper_in" (.cons (.var 6) .nil)) .nil))) .nil)))) (.cons (.ifs (.call "less" (.cons (.glo "NOUGHT") (.cons (.var 7) .nil))) (.cons (.asg 5 (.call "minus" (.cons (.var 5) (.cons (.var 7) .nil)))) .nil) .nil) .nil)))
    (l := rs.map W.ref) (r := [some (fr W0), some (fr F), some (.ref a), some (fr p), some (fr (W0 * F)), some (fr (vQ W0 F gs p 0)), none, none]) (s := s)
    (fun l r s' ⟨k, x6, x7, _, _, es, _⟩ q hq2 => by
      rw [List.mem_singleton.mp hq2, es]
      exact lst_at ha)
    (fun x l r s' ⟨k, x6, x7, hk, el, es, er⟩ => by
      subst es er
      have hk2 : k < gs.length := by
        rcases Nat.lt_or_ge k gs.length with z | z
        · exact z
        · rw [List.drop_eq_nil_of_le (by omega)] at el
          cases el
      have hr : k < rs.length := by omega
      obtain ⟨⟨w, g⟩, eg⟩ : ∃ p, gs[k]? = some p := ⟨gs[k], List.getElem?_eq_getElem hk2⟩
      obtain ⟨rr, k1, k2⟩ := hg k w g eg
      have qg := hq (w, g) (List.mem_of_getElem? eg)
      have sw : Sm 24 w := qg.2.1
      have sg : Sm 10 g := qg.2.2.2.2
      rw [List.drop_eq_getElem_cons hr, List.map_cons] at el
      have k1' : rs[k] = rr := by rw [List.getElem?_eq_getElem hr] at k1; exact Option.some.inj k1
      rw [k1'] at el
      cases el
      have m1 := sm_mul sw sg
      have m2 := sm_sub sw m1
      have m3 := sm_mul sp m2
      have m4 : Sm 124 (w * g - p * (w - w * g)) := (sm_sub m1 m3).mono (by omega)
      have sv := sm_v hq sW sF sp k hk
      refine ⟨[some (fr W0), some (fr F), some (.ref a), some (fr p), some (fr (W0 * F)), some (fr (vQ W0 F gs p (k + 1))), some (.ref rr), some (fr (w * g - p * (w - w * g)))], s', ?_, k + 1, _, _, hk2, rfl, rfl, rfl⟩
      show denB D _ [some (fr W0), some (fr F), some (.ref a), some (fr p), some (fr (W0 * F)), some (fr (vQ W0 F gs p k)), some (.ref rr), x7] s' = _
      rw [B_asg (w := fr (w * g - p * (w - w * g))) (s1 := s') (by simp only [den, denL, test, bind_ok, fin_ok, truth_bl, cmpV_lt, cmpV_le, cmpV_gt, cmpV_ge, binV_add, binV_sub, idx2_0, idx2_1, biV_abs, getO_0, getO_s, set_0, set_s, sif_t, sif_f, if_true, if_false, List.length_cons, List.length_nil, denL, fits1, fits2, fits3, fits4, fits5, fits6, fits7, fits8, newL_eq, D, own_pure k2, sp_pure (n := n + 1) M.toGoldT k2 sw sg (show 24 + 10 < 9000 by omega), sp_copper_in (n := n) M.toGoldT k2 sw sg (show 24 + (24 + 10) < 9000 by omega), sp_times (n := n + 2) M.toFracT sp m2 (show 30 + (24 + (24 + 10) + 1) < 9000 by omega), sp_minus (n := n + 2) M.toFracT m1 m3 (show 24 + 10 + (30 + (24 + (24 + 10) + 1)) < 9000 by omega)])]
      simp only [set_0, set_s]
      rw [vQ_succ eg, mx_me]
      show denB D _ _ s' = Fin.nx [_, _, _, _, _, some (fr (vQ W0 F gs p k - if 0 < w * g - p * (w - w * g) then w * g - p * (w - w * g) else 0)), _, _] s'
      by_cases hm : 0 < w * g - p * (w - w * g)
      · rw [if_pos hm]
        rw [B_tt (r' := [some (fr W0), some (fr F), some (.ref a), some (fr p), some (fr (W0 * F)), some (fr (vQ W0 F gs p k - (w * g - p * (w - w * g)))), some (.ref rr), some (fr (w * g - p * (w - w * g)))]) (s1 := s') (s' := s') (by simp only [den, denL, test, bind_ok, fin_ok, truth_bl, cmpV_lt, cmpV_le, cmpV_gt, cmpV_ge, binV_add, binV_sub, idx2_0, idx2_1, biV_abs, getO_0, getO_s, set_0, set_s, sif_t, sif_f, if_true, if_false, List.length_cons, List.length_nil, denL, fits1, fits2, fits3, fits4, fits5, fits6, fits7, fits8, newL_eq, D, M.nought, sp_less (n := n + 4) M.toFracT sm_zero m4 (show 1 + 124 < 9000 by omega), hm, decide_true]) (by
          rw [B_asg (w := fr (vQ W0 F gs p k - (w * g - p * (w - w * g)))) (s1 := s') (by simp only [den, denL, test, bind_ok, fin_ok, truth_bl, cmpV_lt, cmpV_le, cmpV_gt, cmpV_ge, binV_add, binV_sub, idx2_0, idx2_1, biV_abs, getO_0, getO_s, set_0, set_s, sif_t, sif_f, if_true, if_false, List.length_cons, List.length_nil, denL, fits1, fits2, fits3, fits4, fits5, fits6, fits7, fits8, newL_eq, D, sp_minus (n := n + 2) M.toFracT sv m4 (show 112 + 125 * k + 124 < 9000 by omega)])]
          exact B_nil)]
        exact B_nil
      · rw [if_neg hm, B_f (s1 := s') (by simp only [den, denL, test, bind_ok, fin_ok, truth_bl, cmpV_lt, cmpV_le, cmpV_gt, cmpV_ge, binV_add, binV_sub, idx2_0, idx2_1, biV_abs, getO_0, getO_s, set_0, set_s, sif_t, sif_f, if_true, if_false, List.length_cons, List.length_nil, denL, fits1, fits2, fits3, fits4, fits5, fits6, fits7, fits8, newL_eq, D, M.nought, sp_less (n := n + 4) M.toFracT sm_zero m4 (show 1 + 124 < 9000 by omega), hm, decide_false])]
        rw [show vQ W0 F gs p k - 0 = vQ W0 F gs p k by grind]
        exact B_nil)
    ⟨0, none, none, Nat.zero_le _, rfl, rfl, rfl⟩
  obtain ⟨r', s', e, k, x6, x7, hk, el, es, er⟩ := inv
  have hk3 : k = gs.length := by
    rcases Nat.lt_or_ge k gs.length with z | z
    · rw [List.drop_eq_getElem_cons (show k < rs.length by omega), List.map_cons] at el
      cases el
    · omega
  subst hk3 es er
  refine run_rt M.least rfl ?_
  show denB D (.cons _ (.cons _ (.cons _ (.cons _ (.cons _ .nil))))) [some (fr W0), some (fr F), some (.ref a), some (fr p), none, none, none, none] s' = _
  rw [B_asg (w := fr (W0 * F)) (s1 := s') (by simp only [den, denL, test, bind_ok, fin_ok, truth_bl, cmpV_lt, cmpV_le, cmpV_gt, cmpV_ge, binV_add, binV_sub, idx2_0, idx2_1, biV_abs, getO_0, getO_s, set_0, set_s, sif_t, sif_f, if_true, if_false, List.length_cons, List.length_nil, denL, fits1, fits2, fits3, fits4, fits5, fits6, fits7, fits8, newL_eq, D, sp_times (n := n + 2) M.toFracT sW sF (show 20 + 10 < 9000 by omega)])]
  simp only [set_0, set_s]
  rw [B_asg (w := fr (vQ W0 F gs p 0)) (s1 := s') (by rw [e0]; simp only [den, denL, test, bind_ok, fin_ok, truth_bl, cmpV_lt, cmpV_le, cmpV_gt, cmpV_ge, binV_add, binV_sub, idx2_0, idx2_1, biV_abs, getO_0, getO_s, set_0, set_s, sif_t, sif_f, if_true, if_false, List.length_cons, List.length_nil, denL, fits1, fits2, fits3, fits4, fits5, fits6, fits7, fits8, newL_eq, D, sp_minus (n := n + 2) M.toFracT sW s1 (show 20 + (20 + 10) < 9000 by omega), sp_times (n := n + 2) M.toFracT sp s2 (show 30 + (20 + (20 + 10) + 1) < 9000 by omega), sp_minus (n := n + 2) M.toFracT s1 s3 (show 20 + 10 + (30 + (20 + (20 + 10) + 1)) < 9000 by omega)])]
  simp only [set_0, set_s]
  rw [B_for (q := ⟨rs.map W.ref, [(a, rs.map W.ref)]⟩) (s1 := s') (by
    rw [denI]
    simp only [den, denL, test, bind_ok, fin_ok, truth_bl, cmpV_lt, cmpV_le, cmpV_gt, cmpV_ge, binV_add, binV_sub, idx2_0, idx2_1, biV_abs, getO_0, getO_s, set_0, set_s, sif_t, sif_f, if_true, if_false, List.length_cons, List.length_nil, denL, fits1, fits2, fits3, fits4, fits5, fits6, fits7, fits8, newL_eq]
    exact src_ref ha) e]
  have sv := sm_v hq sW sF sp gs.length (Nat.le_refl _)
  unfold lnewQ
  by_cases hv : vQ W0 F gs p gs.length < 0
  · rw [if_pos hv]
    exact B_tr (s1 := s') (by simp only [den, denL, test, bind_ok, fin_ok, truth_bl, cmpV_lt, cmpV_le, cmpV_gt, cmpV_ge, binV_add, binV_sub, idx2_0, idx2_1, biV_abs, getO_0, getO_s, set_0, set_s, sif_t, sif_f, if_true, if_false, List.length_cons, List.length_nil, denL, fits1, fits2, fits3, fits4, fits5, fits6, fits7, fits8, newL_eq, D, M.nought, sp_less (n := n + 4) M.toFracT sv sm_zero (show 112 + 125 * gs.length + 1 < 9000 by omega), hv, decide_true]) (B_ret (by simp only [den, denL, test, bind_ok, fin_ok, truth_bl, cmpV_lt, cmpV_le, cmpV_gt, cmpV_ge, binV_add, binV_sub, idx2_0, idx2_1, biV_abs, getO_0, getO_s, set_0, set_s, sif_t, sif_f, if_true, if_false, List.length_cons, List.length_nil, denL, fits1, fits2, fits3, fits4, fits5, fits6, fits7, fits8, newL_eq, D, M.nought]))
  · rw [if_neg hv, B_f (s1 := s') (by simp only [den, denL, test, bind_ok, fin_ok, truth_bl, cmpV_lt, cmpV_le, cmpV_gt, cmpV_ge, binV_add, binV_sub, idx2_0, idx2_1, biV_abs, getO_0, getO_s, set_0, set_s, sif_t, sif_f, if_true, if_false, List.length_cons, List.length_nil, denL, fits1, fits2, fits3, fits4, fits5, fits6, fits7, fits8, newL_eq, D, M.nought, sp_less (n := n + 4) M.toFracT sv sm_zero (show 112 + 125 * gs.length + 1 < 9000 by omega), hv, decide_false])]
    exact B_ret (by simp only [den, denL, test, bind_ok, fin_ok, truth_bl, cmpV_lt, cmpV_le, cmpV_gt, cmpV_ge, binV_add, binV_sub, idx2_0, idx2_1, biV_abs, getO_0, getO_s, set_0, set_s, sif_t, sif_f, if_true, if_false, List.length_cons, List.length_nil, denL, fits1, fits2, fits3, fits4, fits5, fits6, fits7, fits8, newL_eq])
theorem sp_paper_for (M : MixT T gl fl) {a : Nat} {gs : List (Rat × Rat)} {W0 F : Rat} (h : StockAt s a gs) (hq : ∀ p ∈ gs, GoldQ p) (hl : gs.length ≤ 20) (hW : 0 < W0) (sW : Sm 20 W0) (h0 : 0 ≤ F) (h1 : F ≤ 1) (sF : Sm 10 F) :
    ∃ q s', run T gl fl (n + 6) Str.empty "paper_for" [fr W0, fr F, .ref a] s = .ok (fr q) s' ∧ 0 ≤ q ∧ Sm 22 q ∧ Fr (fun _ => False) s s' := by
  let D : Wd := ⟨run T gl fl (n + 5), gl, fl⟩
  have h' := h
  obtain ⟨rs, ha, hlen, hg⟩ := h
  obtain ⟨s1, em, f1⟩ := sp_mixed (n := n) M h' hq hl hW sW h0 h1 sF
  obtain ⟨s2, eo, ho, f2⟩ := sp_finest (n := n + 3) M (h'.fr0 f1) hq (by omega)
  have z22 : Sm 22 (0 : Rat) := sm_zero.mono (by omega)
  have first : ∀ b, denB D (.cons (.asgT [4, 5, 6] (.call "mixed" (.cons (.var 0) (.cons (.var 1) (.cons (.var 2) .nil))))) b) [some (fr W0), some (fr F), some (.ref a), none, none, none, none, none] s = denB D b [some (fr W0), some (fr F), some (.ref a), none, some (fr (mixQ W0 F gs).p), some (fr (mixQ W0 F gs).c), some (.tup ((mixQ W0 F gs).t.map fr)), none] s1 := fun b => by
    rw [B_asgT (w := .tup [fr (mixQ W0 F gs).p, fr (mixQ W0 F gs).c, .tup ((mixQ W0 F gs).t.map fr)]) (s1 := s1) (by simp only [den, denL, test, bind_ok, fin_ok, truth_bl, cmpV_lt, cmpV_le, cmpV_gt, cmpV_ge, binV_add, binV_sub, idx2_0, idx2_1, biV_abs, getO_0, getO_s, set_0, set_s, sif_t, sif_f, if_true, if_false, List.length_cons, List.length_nil, denL, fits1, fits2, fits3, fits4, fits5, fits6, fits7, fits8, newL_eq, D, em]) (setTs3 ..)]
    rfl
  by_cases hn : (mixQ W0 F gs).p = 0
  · refine ⟨0, s1, ?_, Rat.le_refl, z22, f1⟩
    refine run_rt M.paper rfl ?_
    show denB D (.cons _ (.cons _ (.cons _ (.cons _ .nil)))) [some (fr W0), some (fr F), some (.ref a), none, none, none, none, none] s = _
    rw [first]
    exact B_tr (s1 := s1) (by simp only [den, denL, test, bind_ok, fin_ok, truth_bl, cmpV_lt, cmpV_le, cmpV_gt, cmpV_ge, binV_add, binV_sub, idx2_0, idx2_1, biV_abs, getO_0, getO_s, set_0, set_s, sif_t, sif_f, if_true, if_false, List.length_cons, List.length_nil, denL, fits1, fits2, fits3, fits4, fits5, fits6, fits7, fits8, newL_eq, D, M.nought, cmpV_eqF, hn, decide_true]) (B_ret (by simp only [den, denL, test, bind_ok, fin_ok, truth_bl, cmpV_lt, cmpV_le, cmpV_gt, cmpV_ge, binV_add, binV_sub, idx2_0, idx2_1, biV_abs, getO_0, getO_s, set_0, set_s, sif_t, sif_f, if_true, if_false, List.length_cons, List.length_nil, denL, fits1, fits2, fits3, fits4, fits5, fits6, fits7, fits8, newL_eq, D, M.nought]))
  have pure1 : ∀ j, j < gs.length → (gQ gs j).2 = 1 → (mixQ W0 F gs).t[j]? = some (gQ gs j).1 := by
    have st := MI.start hW sW h0 h1 sF
    rcases mix_pure hq (ordQ gs) [] (mix0 W0 F gs) st.1 st.2.1 (by rw [List.nil_append]; exact (foQ_perm gs gs.length).nodup_iff.mpr List.nodup_range) (fun j hj => by rw [List.nil_append] at hj; have := foQ_lt hj; show j < (List.replicate gs.length (0 : Rat)).length; rw [List.length_replicate]; exact this) (.inr fun j hj => by cases hj) with z | z
    · exact absurd z hn
    · exact fun j hj hf => z j (by rw [List.nil_append]; exact (foQ_perm gs gs.length).mem_iff.mpr (List.mem_range.mpr hj)) hf
  have tl : (mixQ W0 F gs).t.length = gs.length := by unfold mixQ; rw [mixS_len]; exact List.length_replicate
  have fin : ∀ o, (∃ r' s', forL (Src.ok ⟨(ordQ gs).map fun i => W.int (i : Nat), [(s1.length, (ordQ gs).map fun i => W.int (i : Nat))]⟩) (forF D (.nm 3) (.cons (.asg 7 (.idx (.var 2) (.var 3))) (.cons (.ifs (.cmp .ne (.idx (.var 6) (.var 3)) (.fld (.var 7) "weight")) (.cons (.ret (.call "over" (.cons (.fld (.var 7) "fineness") (.cons (.call "minus" (.cons (.glo "ONE") (.cons (.fld (.var 7) "fineness") .nil))) .nil)))) .nil) .nil) .nil))) ((ordQ gs).map fun i => W.int (i : Nat)) [some (fr W0), some (fr F), some (.ref a), none, some (fr (mixQ W0 F gs).p), some (fr (mixQ W0 F gs).c), some (.tup ((mixQ W0 F gs).t.map fr)), none] s2 = o ∧ ((o = .nx r' s' ∧ s' = s2))) ∨ True := fun _ => .inr trivial
  let I : List W → Rho → Vs → Prop := fun l r s' => ∃ (rest : List Nat) (x3 x7 : Option W), (∀ j ∈ rest, j < gs.length) ∧ l = rest.map (fun i => W.int (i : Nat)) ∧ s' = s2 ∧ r = [some (fr W0), some (fr F), some (.ref a), x3, some (fr (mixQ W0 F gs).p), some (fr (mixQ W0 F gs).c), some (.tup ((mixQ W0 F gs).t.map fr)), x7]
  have f02 := f1.trans f2
  have inv := for_inv (I := I) (Q := fun w s' => ∃ q, w = fr q ∧ 0 ≤ q ∧ Sm 22 q ∧ s' = s2) (ok := Src.ok ⟨(ordQ gs).map fun i => W.int (i : Nat), [(s1.length, (ordQ gs).map fun i => W.int (i : Nat))]⟩)
    (f := forF D (.nm 3) (.cons (.asg 7 (.idx (.var 2) (.var 3))) (.cons (.ifs (.cmp .ne (.idx (.var 6) (.var 3)) (.fld (.var 7) "weight")) (.cons (.ret (.call "over" (.cons (.fld (.var 7) "fineness") (.cons (.call "minus" (.cons (.glo "ONE") (.cons (.fld (.var 7) "fineness") .nil))) .nil)))) .nil) .nil) .nil)))
    (fun l r s' ⟨rest, x3, x7, _, _, es, _⟩ q hq2 => by
      rw [List.mem_singleton.mp hq2, es]
      exact lst_at ho)
    (fun x l r s' ⟨rest, x3, x7, hr, el, es, er⟩ => by
      subst es er
      cases rest with
      | nil => cases el
      | cons i rest =>
        rw [List.map_cons] at el
        cases el
        have il := hr i (List.mem_cons_self ..)
        obtain ⟨⟨w, g⟩, eg⟩ : ∃ p, gs[i]? = some p := ⟨gs[i], List.getElem?_eq_getElem il⟩
        obtain ⟨rr, k1, k2⟩ := hg i w g eg
        have qg := hq (w, g) (List.mem_of_getElem? eg)
        have sg : Sm 10 g := qg.2.2.2.2
        have hrr : s'[rr]? = some (goldO w g) := f02.get k2 id
        have ha' : s'[a]? = some (.lst (rs.map W.ref)) := f02.get ha id
        obtain ⟨t, et⟩ : ∃ t, (mixQ W0 F gs).t[i]? = some t := ⟨_, List.getElem?_eq_getElem (by rw [tl]; exact il)⟩
        have eQ : gQ gs i = (w, g) := gQ_of eg
        have ti : ((mixQ W0 F gs).t.map fr)[i]? = some (fr t) := by rw [List.getElem?_map, et]; rfl
        have ev : ∀ b r7, denB D (.cons (.asg 7 (.idx (.var 2) (.var 3))) b) [some (fr W0), some (fr F), some (.ref a), some (.int (i : Nat)), some (fr (mixQ W0 F gs).p), some (fr (mixQ W0 F gs).c), some (.tup ((mixQ W0 F gs).t.map fr)), r7] s' = denB D b [some (fr W0), some (fr F), some (.ref a), some (.int (i : Nat)), some (fr (mixQ W0 F gs).p), some (fr (mixQ W0 F gs).c), some (.tup ((mixQ W0 F gs).t.map fr)), some (.ref rr)] s' := fun b r7 => by
          rw [B_asg (w := .ref rr) (s1 := s') (by simp only [den, denL, test, bind_ok, fin_ok, truth_bl, cmpV_lt, cmpV_le, cmpV_gt, cmpV_ge, binV_add, binV_sub, idx2_0, idx2_1, biV_abs, getO_0, getO_s, set_0, set_s, sif_t, sif_f, if_true, if_false, List.length_cons, List.length_nil, denL, fits1, fits2, fits3, fits4, fits5, fits6, fits7, fits8, newL_eq, lst_idx ha' (show (rs.map W.ref)[i]? = some (.ref rr) by rw [List.getElem?_map, k1]; rfl)])]
          rfl
        by_cases htw : t = w
        · left
          refine ⟨[some (fr W0), some (fr F), some (.ref a), some (.int (i : Nat)), some (fr (mixQ W0 F gs).p), some (fr (mixQ W0 F gs).c), some (.tup ((mixQ W0 F gs).t.map fr)), some (.ref rr)], s', .inl ?_, rest, _, _, fun j hj => hr j (List.mem_cons_of_mem _ hj), rfl, rfl, rfl⟩
          show denB D _ [some (fr W0), some (fr F), some (.ref a), some (.int (i : Nat)), some (fr (mixQ W0 F gs).p), some (fr (mixQ W0 F gs).c), some (.tup ((mixQ W0 F gs).t.map fr)), x7] s' = _
          rw [ev, B_f (s1 := s') (by simp only [den, denL, test, bind_ok, fin_ok, truth_bl, cmpV_lt, cmpV_le, cmpV_gt, cmpV_ge, binV_add, binV_sub, idx2_0, idx2_1, biV_abs, getO_0, getO_s, set_0, set_s, sif_t, sif_f, if_true, if_false, List.length_cons, List.length_nil, denL, fits1, fits2, fits3, fits4, fits5, fits6, fits7, fits8, newL_eq, tup_idx ti, fld_weight hrr, cmpV_neF, htw, decide_true, Bool.not_true])]
          exact B_nil
        · right
          have g1 : g ≠ 1 := fun z => by
            have := pure1 i il (by rw [eQ]; exact z)
            rw [eQ, et] at this
            exact htw (Option.some.inj this)
          have n1 : 1 - g ≠ 0 := by grind
          have op := one_sub_pos qg.2.2.2.1 g1
          refine ⟨fr (g / (1 - g)), s', ?_, _, rfl, div_nonneg qg.2.2.1 op, (sm_div sg (sm_one_sub sg) n1).mono (by omega), rfl⟩
          show denB D _ [some (fr W0), some (fr F), some (.ref a), some (.int (i : Nat)), some (fr (mixQ W0 F gs).p), some (fr (mixQ W0 F gs).c), some (.tup ((mixQ W0 F gs).t.map fr)), x7] s' = _
          rw [ev]
          refine B_tr (s1 := s') (by simp only [den, denL, test, bind_ok, fin_ok, truth_bl, cmpV_lt, cmpV_le, cmpV_gt, cmpV_ge, binV_add, binV_sub, idx2_0, idx2_1, biV_abs, getO_0, getO_s, set_0, set_s, sif_t, sif_f, if_true, if_false, List.length_cons, List.length_nil, denL, fits1, fits2, fits3, fits4, fits5, fits6, fits7, fits8, newL_eq, tup_idx ti, fld_weight hrr, cmpV_neF, htw, decide_false, Bool.not_false]) (B_ret ?_)
          simp only [den, denL, test, bind_ok, fin_ok, truth_bl, cmpV_lt, cmpV_le, cmpV_gt, cmpV_ge, binV_add, binV_sub, idx2_0, idx2_1, biV_abs, getO_0, getO_s, set_0, set_s, sif_t, sif_f, if_true, if_false, List.length_cons, List.length_nil, denL, fits1, fits2, fits3, fits4, fits5, fits6, fits7, fits8, newL_eq, D, fld_fineness hrr, M.one, sp_minus (n := n + 2) M.toFracT sm_one sg (show 1 + 10 < 9000 by omega), sp_over (n := n + 2) M.toFracT sg (sm_one_sub sg) (show 10 + 12 < 9000 by omega) n1])
    ((ordQ gs).map fun i => W.int (i : Nat)) [some (fr W0), some (fr F), some (.ref a), none, some (fr (mixQ W0 F gs).p), some (fr (mixQ W0 F gs).c), some (.tup ((mixQ W0 F gs).t.map fr)), none] s2 ⟨ordQ gs, none, none, fun j hj => foQ_lt hj, rfl, rfl, rfl⟩
  have start : ∀ b, denB D (.cons (.asgT [4, 5, 6] (.call "mixed" (.cons (.var 0) (.cons (.var 1) (.cons (.var 2) .nil))))) (.cons (.ifs (.cmp .eq (.var 4) (.glo "NOUGHT")) (.cons (.ret (.glo "NOUGHT")) .nil) .nil) b)) [some (fr W0), some (fr F), some (.ref a), none, none, none, none, none] s = denB D b [some (fr W0), some (fr F), some (.ref a), none, some (fr (mixQ W0 F gs).p), some (fr (mixQ W0 F gs).c), some (.tup ((mixQ W0 F gs).t.map fr)), none] s1 := fun b => by
    rw [first, B_f (s1 := s1) (by simp only [den, denL, test, bind_ok, fin_ok, truth_bl, cmpV_lt, cmpV_le, cmpV_gt, cmpV_ge, binV_add, binV_sub, idx2_0, idx2_1, biV_abs, getO_0, getO_s, set_0, set_s, sif_t, sif_f, if_true, if_false, List.length_cons, List.length_nil, denL, fits1, fits2, fits3, fits4, fits5, fits6, fits7, fits8, newL_eq, D, M.nought, cmpV_eqF, hn, decide_false])]
  have it : denI D (.val (.call "finest_first" (.cons (.var 2) .nil))) [some (fr W0), some (fr F), some (.ref a), none, some (fr (mixQ W0 F gs).p), some (fr (mixQ W0 F gs).c), some (.tup ((mixQ W0 F gs).t.map fr)), none] s1 = .ok ⟨(ordQ gs).map fun i => W.int (i : Nat), [(s1.length, (ordQ gs).map fun i => W.int (i : Nat))]⟩ s2 := by
    rw [denI]
    simp only [den, denL, test, bind_ok, fin_ok, truth_bl, cmpV_lt, cmpV_le, cmpV_gt, cmpV_ge, binV_add, binV_sub, idx2_0, idx2_1, biV_abs, getO_0, getO_s, set_0, set_s, sif_t, sif_f, if_true, if_false, List.length_cons, List.length_nil, denL, fits1, fits2, fits3, fits4, fits5, fits6, fits7, fits8, newL_eq, D, eo]
    exact src_ref ho
  rcases inv with ⟨r', s', e, rest, x3, x7, _, _, es, er⟩ | ⟨w, s', e, q, ew, q0, q1, es⟩
  · subst es er
    refine ⟨0, s', ?_, Rat.le_refl, z22, f02⟩
    refine run_rt M.paper rfl ?_
    show denB D (.cons _ (.cons _ (.cons _ (.cons _ .nil)))) [some (fr W0), some (fr F), some (.ref a), none, none, none, none, none] s = _
    rw [start, B_for it e]
    exact B_ret (by simp only [den, denL, test, bind_ok, fin_ok, truth_bl, cmpV_lt, cmpV_le, cmpV_gt, cmpV_ge, binV_add, binV_sub, idx2_0, idx2_1, biV_abs, getO_0, getO_s, set_0, set_s, sif_t, sif_f, if_true, if_false, List.length_cons, List.length_nil, denL, fits1, fits2, fits3, fits4, fits5, fits6, fits7, fits8, newL_eq, D, M.nought])
  · subst es ew
    refine ⟨q, s', ?_, q0, q1, f02⟩
    refine run_rt M.paper rfl ?_
    show denB D (.cons _ (.cons _ (.cons _ (.cons _ .nil)))) [some (fr W0), some (fr F), some (.ref a), none, none, none, none, none] s = _
    rw [start, B_forr it e]
end
end Vm
set_option Elab.async false
set_option linter.all false
set_option maxRecDepth 100000
set_option maxHeartbeats 4000000
/-! The order of a stock falls. -/
namespace Vm
open PySem
def Desc (gs : List (Rat × Rat)) (l : List Nat) : Prop := l.Pairwise fun a b => finQ gs b ≤ finQ gs a
theorem split_desc {gs : List (Rat × Rat)} {i : Nat} : ∀ {l : List Nat}, Desc gs l → (∀ x ∈ l.take (aheadQ gs l i), finQ gs i ≤ finQ gs x) ∧ ∀ x ∈ l.drop (aheadQ gs l i), finQ gs x ≤ finQ gs i
  | [], _ => ⟨fun x hx => by simp at hx, fun x hx => by simp at hx⟩
  | a :: l, h => by
    have h' : (∀ b ∈ l, finQ gs b ≤ finQ gs a) ∧ Desc gs l := List.pairwise_cons.mp h
    obtain ⟨h1, h2⟩ := h'
    have ih := split_desc (i := i) h2
    by_cases hp : finQ gs a < finQ gs i
    · have e : aheadQ gs (a :: l) i = 0 := by
        unfold aheadQ
        rw [List.length_eq_zero_iff, List.filter_eq_nil_iff]
        intro x hx
        rcases List.mem_cons.mp hx with rfl | hx
        · simp [hp]
        · have := h1 x hx
          have : finQ gs x < finQ gs i := by grind
          simp [this]
      rw [e]
      refine ⟨fun x hx => by simp at hx, fun x hx => ?_⟩
      rw [List.drop_zero] at hx
      rcases List.mem_cons.mp hx with rfl | hx
      · exact Rat.le_of_lt hp
      · have := h1 x hx
        grind
    · have e : aheadQ gs (a :: l) i = aheadQ gs l i + 1 := by
        unfold aheadQ
        rw [List.filter_cons_of_pos (by simp [hp]), List.length_cons]
      rw [e, List.take_succ_cons, List.drop_succ_cons]
      refine ⟨fun x hx => ?_, ih.2⟩
      rcases List.mem_cons.mp hx with rfl | hx
      · exact Rat.not_lt.mp hp
      · exact ih.1 x hx
theorem foQ_desc (gs : List (Rat × Rat)) : ∀ i, Desc gs (foQ gs i)
  | 0 => List.Pairwise.nil
  | i + 1 => by
    have ih := foQ_desc gs i
    obtain ⟨h1, h2⟩ := split_desc (i := i) ih
    unfold foQ
    generalize aheadQ gs (foQ gs i) i = k at h1 h2
    have ih2 : Desc gs ((foQ gs i).take k ++ (foQ gs i).drop k) := by rw [List.take_append_drop]; exact ih
    obtain ⟨a1, a2, a3⟩ := List.pairwise_append.mp ih2
    unfold Desc
    rw [List.append_assoc]
    refine List.pairwise_append.mpr ⟨a1, List.pairwise_cons.mpr ⟨fun b hb => h2 b hb, a2⟩, fun x hx y hy => ?_⟩
    rcases List.mem_cons.mp hy with rfl | hy
    · exact h1 x hx
    · exact a3 x hx y hy
theorem ordQ_desc (gs : List (Rat × Rat)) : Desc gs (ordQ gs) := foQ_desc gs gs.length
end Vm
set_option Elab.async false
set_option linter.all false
set_option maxRecDepth 100000
set_option maxHeartbeats 4000000
/-! The told paper shows just what mixed wants (strong duality). -/
namespace Vm
open PySem
theorem take_cases2 {w f P C : Rat} : (f = 0 ∧ takeQ w f P C = 0) ∨ takeQ w f P C = w ∨ (f ≠ 0 ∧ takeQ w f P C = P / f) ∨ (f ≠ 0 ∧ f ≠ 1 ∧ takeQ w f P C = C / (1 - f)) := by
  unfold takeQ
  by_cases hf : f = 0
  · rw [if_pos hf]; exact .inl ⟨hf, rfl⟩
  · rw [if_neg hf]
    by_cases h : f = 1
    · rw [if_pos h]
      rcases minQ_or w (P / f) with e | e <;> rw [e]
      · exact .inr (.inl rfl)
      · exact .inr (.inr (.inl ⟨hf, rfl⟩))
    · rw [if_neg h]
      rcases minQ_or (minQ w (P / f)) (C / (1 - f)) with e | e <;> rw [e]
      · rcases minQ_or w (P / f) with e | e <;> rw [e]
        · exact .inr (.inl rfl)
        · exact .inr (.inr (.inl ⟨hf, rfl⟩))
      · exact .inr (.inr (.inr ⟨hf, h, rfl⟩))
/-- the paper, along the order -/
def papS (gs : List (Rat × Rat)) : List Nat → MxS → Rat
  | [], _ => 0
  | j :: l, st => if takeQ (gQ gs j).1 (gQ gs j).2 st.p st.c = (gQ gs j).1 then papS gs l (mixS gs st j) else (gQ gs j).2 / (1 - (gQ gs j).2)
theorem step_nn {gs : List (Rat × Rat)} (hq : ∀ p ∈ gs, GoldQ p) {st : MxS} (hP : 0 ≤ st.p) (hC : 0 ≤ st.c) (j : Nat) : 0 ≤ (mixS gs st j).p ∧ 0 ≤ (mixS gs st j).c := by
  have g := gQ_ok hq j
  have ok := take_ok g.1 g.2.2.1 g.2.2.2.1 hP hC
  have h1 := ok.p
  have h2 := ok.c
  exact ⟨by show 0 ≤ st.p - _; grind, by show 0 ≤ st.c - (_ - _); grind⟩
theorem zero_stays {gs : List (Rat × Rat)} (hq : ∀ p ∈ gs, GoldQ p) : ∀ (l : List Nat) (st : MxS), st.p = 0 → 0 ≤ st.c → (l.foldl (mixS gs) st).p = 0
  | [], st, h, _ => h
  | j :: l, st, h, hC => by
    have g := gQ_ok hq j
    refine zero_stays hq l (mixS gs st j) ?_ (step_nn hq (by rw [h]; exact Rat.le_refl) hC j).2
    show st.p - takeQ _ _ st.p st.c * _ = 0
    rw [h, take_zeroP g.1 g.2.2.1 g.2.2.2.1 hC]
    grind
theorem papS_or {gs : List (Rat × Rat)} (hq : ∀ p ∈ gs, GoldQ p) : ∀ (l : List Nat) (st : MxS), 0 ≤ st.p → 0 ≤ st.c → (l.foldl (mixS gs) st).p ≠ 0 → papS gs l st = 0 ∨ ∃ k ∈ l, (gQ gs k).2 ≠ 1 ∧ papS gs l st = (gQ gs k).2 / (1 - (gQ gs k).2)
  | [], _, _, _, _ => .inl rfl
  | j :: l, st, hP, hC, h => by
    have nn := step_nn hq hP hC j
    unfold papS
    by_cases ht : takeQ (gQ gs j).1 (gQ gs j).2 st.p st.c = (gQ gs j).1
    · rw [if_pos ht]
      rcases papS_or hq l (mixS gs st j) nn.1 nn.2 h with k | ⟨k, hk, k1, k2⟩
      · exact .inl k
      · exact .inr ⟨k, List.mem_cons_of_mem _ hk, k1, k2⟩
    · rw [if_neg ht]
      refine .inr ⟨j, List.mem_cons_self .., fun z => ?_, rfl⟩
      rcases take_cases2 (w := (gQ gs j).1) (f := (gQ gs j).2) (P := st.p) (C := st.c) with ⟨e, _⟩ | e | ⟨e0, e⟩ | ⟨_, e1, _⟩
      · rw [z] at e; exact absurd e (by decide)
      · exact ht e
      · refine h (zero_stays hq l (mixS gs st j) ?_ nn.2)
        show st.p - takeQ _ _ st.p st.c * _ = 0
        rw [e, Rat.div_mul_cancel e0]
        grind
      · exact e1 z
/-- where nothing goes in any more -/
theorem none_more {gs : List (Rat × Rat)} (hq : ∀ p ∈ gs, GoldQ p) : ∀ (l : List Nat) (st : MxS), 0 ≤ st.p → st.c = 0 → (∀ k ∈ l, (gQ gs k).2 ≠ 1) → (l.foldl (mixS gs) st).p = st.p
  | [], _, _, _, _ => rfl
  | j :: l, st, hP, hC, h => by
    have g := gQ_ok hq j
    have t0 : takeQ (gQ gs j).1 (gQ gs j).2 st.p st.c = 0 := by rw [hC]; exact take_zeroC g.1 g.2.2.1 (h j (List.mem_cons_self ..)) hP
    have e1 : (mixS gs st j).p = st.p := by show st.p - takeQ _ _ st.p st.c * _ = _; rw [t0]; grind
    have e2 : (mixS gs st j).c = 0 := by show st.c - (takeQ _ _ st.p st.c - takeQ _ _ st.p st.c * _) = _; rw [t0, hC]; grind
    rw [List.foldl_cons, none_more hq l _ (by rw [e1]; exact hP) e2 fun k hk => h k (List.mem_cons_of_mem _ hk), e1]
theorem none_poor {gs : List (Rat × Rat)} : ∀ (l : List Nat) (st : MxS), (∀ k ∈ l, (gQ gs k).2 = 0) → (l.foldl (mixS gs) st).p = st.p
  | [], _, _ => rfl
  | j :: l, st, h => by
    have t0 : takeQ (gQ gs j).1 (gQ gs j).2 st.p st.c = 0 := by unfold takeQ; rw [if_pos (h j (List.mem_cons_self ..))]
    have e1 : (mixS gs st j).p = st.p := by show st.p - takeQ _ _ st.p st.c * _ = _; rw [t0]; grind
    rw [List.foldl_cons, none_poor l _ fun k hk => h k (List.mem_cons_of_mem _ hk), e1]
theorem sum_zero {gs : List (Rat × Rat)} {p : Rat} : ∀ {l : List Nat}, (∀ k ∈ l, mxQ p (gQ gs k) = 0) → sumQ (l.map fun k => mxQ p (gQ gs k)) = 0
  | [], _ => rfl
  | j :: l, h => by
    rw [List.map_cons]
    show mxQ p (gQ gs j) + sumQ _ = 0
    rw [h j (List.mem_cons_self ..), sum_zero fun k hk => h k (List.mem_cons_of_mem _ hk)]
    grind
/-- a paper of a fineness g shows nothing of what is not finer -/
theorem mx_poor {w f g : Rat} (hw : 0 < w) (hg : g < 1) (h : f ≤ g) : mxQ (g / (1 - g)) (w, f) = 0 := by
  have op : 0 < 1 - g := by grind
  have e : g / (1 - g) * (1 - g) = g := Rat.div_mul_cancel (by grind)
  generalize hp : g / (1 - g) = p at e ⊢
  have k : (f - p * (1 - f)) * (1 - g) ≤ 0 := by
    have : (f - p * (1 - f)) * (1 - g) = f - g := by grind
    rw [this]; grind
  have k2 : f - p * (1 - f) ≤ 0 := by
    refine Rat.not_lt.mp fun z => ?_
    have := Rat.mul_pos z op
    grind
  have k3 : ¬ 0 < w * (f - p * (1 - f)) := fun z => by
    have := (Rat.mul_pos_iff_of_pos_left hw).mp z
    grind
  unfold mxQ
  rw [if_neg]
  show ¬ 0 < w * f - p * (w - w * f)
  rw [show w * f - p * (w - w * f) = w * (f - p * (1 - f)) by grind]
  exact k3
/-- .. and all of what is as fine -/
theorem mx_rich {w f g : Rat} (hw : 0 < w) (hg : g < 1) (h : g ≤ f) : mxQ (g / (1 - g)) (w, f) = w * f - g / (1 - g) * (w - w * f) := by
  have op : 0 < 1 - g := by grind
  have e : g / (1 - g) * (1 - g) = g := Rat.div_mul_cancel (by grind)
  generalize hp : g / (1 - g) = p at e ⊢
  have k2 : 0 ≤ f - p * (1 - f) := by
    refine Rat.not_lt.mp fun z => ?_
    have := Rat.mul_pos (show 0 < -(f - p * (1 - f)) by grind) op
    have e2 : (f - p * (1 - f)) * (1 - g) = f - g := by grind
    grind
  have k3 : 0 ≤ w * (f - p * (1 - f)) := Rat.mul_nonneg (Rat.le_of_lt hw) k2
  have e3 : w * f - p * (w - w * f) = w * (f - p * (1 - f)) := by grind
  unfold mxQ
  show (if 0 < w * f - p * (w - w * f) then w * f - p * (w - w * f) else 0) = _
  rw [e3]
  split
  · rfl
  · grind
theorem mx_nought {w f : Rat} (hw : 0 < w) (h0 : 0 ≤ f) : mxQ 0 (w, f) = w * f := by
  unfold mxQ
  show (if 0 < w * f - 0 * (w - w * f) then w * f - 0 * (w - w * f) else 0) = _
  have := Rat.mul_nonneg (Rat.le_of_lt hw) h0
  rw [show w * f - 0 * (w - w * f) = w * f by grind]
  split
  · rfl
  · grind
theorem strong {gs : List (Rat × Rat)} (hq : ∀ p ∈ gs, GoldQ p) : ∀ (l : List Nat) (st : MxS), l.Pairwise (fun a b => (gQ gs b).2 ≤ (gQ gs a).2) → 0 ≤ st.p → 0 ≤ st.c → (l.foldl (mixS gs) st).p ≠ 0 →
    st.p - papS gs l st * st.c - sumQ (l.map fun k => mxQ (papS gs l st) (gQ gs k)) = (l.foldl (mixS gs) st).p
  | [], st, _, _, _, _ => by show st.p - 0 * st.c - 0 = st.p; grind
  | j :: l, st, hd, hP, hC, h => by
    obtain ⟨hd1, hd2⟩ := List.pairwise_cons.mp hd
    have nn := step_nn hq hP hC j
    have g := gQ_ok hq j
    have g1 : (gQ gs j).2 ≤ 1 := g.2.2.2.1
    by_cases ht : takeQ (gQ gs j).1 (gQ gs j).2 st.p st.c = (gQ gs j).1
    · have e : papS gs (j :: l) st = papS gs l (mixS gs st j) := by rw [papS, if_pos ht]
      rw [e]
      have ih := strong hq l (mixS gs st j) hd2 nn.1 nn.2 h
      have mj : mxQ (papS gs l (mixS gs st j)) (gQ gs j) = (gQ gs j).1 * (gQ gs j).2 - papS gs l (mixS gs st j) * ((gQ gs j).1 - (gQ gs j).1 * (gQ gs j).2) := by
        rcases papS_or hq l (mixS gs st j) nn.1 nn.2 h with k | ⟨k, hk, k1, k2⟩
        · rw [k]
          have := mx_nought g.1 g.2.2.1
          rw [this]; grind
        · rw [k2]
          have gk := gQ_ok hq k
          have : (gQ gs k).2 < 1 := by have := gk.2.2.2.1; grind
          exact mx_rich g.1 this (hd1 k hk)
      have p1 : (mixS gs st j).p = st.p - (gQ gs j).1 * (gQ gs j).2 := by show st.p - takeQ _ _ st.p st.c * _ = _; rw [ht]
      have c1 : (mixS gs st j).c = st.c - ((gQ gs j).1 - (gQ gs j).1 * (gQ gs j).2) := by show st.c - (takeQ _ _ st.p st.c - takeQ _ _ st.p st.c * _) = _; rw [ht]
      rw [p1, c1] at ih
      rw [List.map_cons, List.foldl_cons]
      show st.p - _ - (mxQ _ (gQ gs j) + sumQ _) = _
      rw [mj]
      rw [← ih]
      grind
    · have e : papS gs (j :: l) st = (gQ gs j).2 / (1 - (gQ gs j).2) := by rw [papS, if_neg ht]
      rcases take_cases2 (w := (gQ gs j).1) (f := (gQ gs j).2) (P := st.p) (C := st.c) with ⟨f0, t0⟩ | t0 | ⟨f0, t0⟩ | ⟨f0, f1, t0⟩
      · have z : papS gs (j :: l) st = 0 := by rw [e, f0, Rat.div_def, Rat.zero_mul]
        have poor : ∀ k ∈ j :: l, (gQ gs k).2 = 0 := fun k hk => by
          rcases List.mem_cons.mp hk with rfl | hk
          · exact f0
          · have := hd1 k hk
            have := (gQ_ok hq k).2.2.1
            grind
        rw [z, sum_zero fun k hk => by
          have := mx_nought (gQ_ok hq k).1 (gQ_ok hq k).2.2.1
          rw [this, poor k hk]; grind, none_poor _ _ poor]
        grind
      · exact absurd t0 ht
      · exact absurd (zero_stays hq l (mixS gs st j) (by show st.p - takeQ _ _ st.p st.c * _ = 0; rw [t0, Rat.div_mul_cancel f0]; grind) nn.2) h
      · have lt : (gQ gs j).2 < 1 := by grind
        have n1 : 1 - (gQ gs j).2 ≠ 0 := by grind
        have c1 : (mixS gs st j).c = 0 := by
          show st.c - (takeQ _ _ st.p st.c - takeQ _ _ st.p st.c * _) = 0
          rw [t0]
          have := Rat.div_mul_cancel (a := st.c) n1
          grind
        have p1 : (mixS gs st j).p = st.p - (gQ gs j).2 / (1 - (gQ gs j).2) * st.c := by
          show st.p - takeQ _ _ st.p st.c * _ = _
          rw [t0, Rat.div_def, Rat.div_def]
          grind
        rw [e, sum_zero fun k hk => by
          refine mx_poor (gQ_ok hq k).1 lt ?_
          rcases List.mem_cons.mp hk with rfl | hk
          · exact Rat.le_refl
          · exact hd1 k hk]
        rw [List.foldl_cons, none_more hq l _ nn.1 c1 fun k hk z => by have := hd1 k hk; rw [z] at this; grind, p1]
        grind
end Vm
set_option Elab.async false
set_option linter.all false
set_option maxRecDepth 100000
set_option maxHeartbeats 4000000
/-! The paper by the parts told. -/
namespace Vm
open PySem
/-- as paper_for finds it: the first piece that is not all taken -/
def papL (gs : List (Rat × Rat)) (t : List Rat) : List Nat → Rat
  | [] => 0
  | j :: l => if t[j]? = some (gQ gs j).1 then papL gs t l else (gQ gs j).2 / (1 - (gQ gs j).2)
theorem fold_other {gs : List (Rat × Rat)} {j : Nat} : ∀ (l : List Nat) (st : MxS), j ∉ l → (l.foldl (mixS gs) st).t[j]? = st.t[j]?
  | [], _, _ => rfl
  | i :: l, st, h => by
    have ne : i ≠ j := fun z => h (z ▸ List.mem_cons_self ..)
    rw [List.foldl_cons, fold_other l _ fun k => h (List.mem_cons_of_mem _ k)]
    show (st.t.set i _)[j]? = _
    exact List.getElem?_set_ne ne
theorem fold_at {gs : List (Rat × Rat)} {j : Nat} {l : List Nat} {st : MxS} (h : j ∉ l) (hj : j < st.t.length) : ((j :: l).foldl (mixS gs) st).t[j]? = some (takeQ (gQ gs j).1 (gQ gs j).2 st.p st.c) := by
  rw [List.foldl_cons, fold_other l _ h]
  show (st.t.set j _)[j]? = _
  exact List.getElem?_set_self hj
theorem papL_papS {gs : List (Rat × Rat)} : ∀ (l : List Nat) (st : MxS), l.Nodup → (∀ j ∈ l, j < st.t.length) → papL gs (l.foldl (mixS gs) st).t l = papS gs l st
  | [], _, _, _ => rfl
  | j :: l, st, nd, hl => by
    obtain ⟨n1, n2⟩ := List.nodup_cons.mp nd
    have ih := papL_papS (gs := gs) l (mixS gs st j) n2 fun k hk => by show k < (st.t.set j _).length; rw [List.length_set]; exact hl k (List.mem_cons_of_mem _ hk)
    unfold papL papS
    rw [fold_at n1 (hl j (List.mem_cons_self ..)), List.foldl_cons, ih]
    by_cases h : takeQ (gQ gs j).1 (gQ gs j).2 st.p st.c = (gQ gs j).1
    · rw [if_pos h, if_pos (by rw [h])]
    · rw [if_neg h, if_neg fun z => h (Option.some.inj z)]
/-- the paper that paper_for tells -/
def papQ (W0 F : Rat) (gs : List (Rat × Rat)) : Rat := if (mixQ W0 F gs).p = 0 then 0 else papL gs (mixQ W0 F gs).t (ordQ gs)
theorem ord_nodup (gs : List (Rat × Rat)) : (ordQ gs).Nodup := (foQ_perm gs gs.length).nodup_iff.mpr List.nodup_range
theorem papQ_eq {W0 F : Rat} {gs : List (Rat × Rat)} (h : (mixQ W0 F gs).p ≠ 0) : papQ W0 F gs = papS gs (ordQ gs) (mix0 W0 F gs) := by
  unfold papQ
  rw [if_neg h]
  exact papL_papS _ _ (ord_nodup gs) fun j hj => by show j < (List.replicate gs.length (0 : Rat)).length; rw [List.length_replicate]; exact foQ_lt hj
theorem gQ_fin {gs : List (Rat × Rat)} {j : Nat} (h : j < gs.length) : finQ gs j = (gQ gs j).2 := by
  unfold finQ gQ
  rw [List.getElem?_eq_getElem h]
  rfl
/-- the paper shows just as much new gold as mixed wants -/
theorem shown_eq {W0 F : Rat} {gs : List (Rat × Rat)} (hq : ∀ p ∈ gs, GoldQ p) (hW : 0 < W0) (h0 : 0 ≤ F) (h1 : F ≤ 1) (hp : 0 ≤ (mixQ W0 F gs).p) (h : (mixQ W0 F gs).p ≠ 0) : lnewQ W0 F gs (papQ W0 F gs) = (mixQ W0 F gs).p := by
  have desc : (ordQ gs).Pairwise fun a b => (gQ gs b).2 ≤ (gQ gs a).2 := by
    refine (ordQ_desc gs).imp_of_mem fun {a b} ha hb k => ?_
    rw [← gQ_fin (foQ_lt ha), ← gQ_fin (foQ_lt hb)]
    exact k
  have c0 : 0 ≤ W0 - W0 * F := by
    have := Rat.mul_le_mul_of_nonneg_left h1 (Rat.le_of_lt hW)
    grind
  have st := strong hq (ordQ gs) (mix0 W0 F gs) desc (Rat.mul_nonneg (Rat.le_of_lt hW) h0) c0 h
  rw [← papQ_eq h, sum_ord] at st
  have st' : W0 * F - papQ W0 F gs * (W0 - W0 * F) - sumQ (gs.map (mxQ (papQ W0 F gs))) = (mixQ W0 F gs).p := st
  have tk : gs.take gs.length = gs := List.take_length
  have e : vQ W0 F gs (papQ W0 F gs) gs.length = (mixQ W0 F gs).p := by unfold vQ; rw [tk]; exact st'
  unfold lnewQ
  rw [e, if_neg (Rat.not_lt.mpr hp)]
end Vm
set_option Elab.async false
set_option linter.all false
set_option maxRecDepth 100000
set_option maxHeartbeats 4000000
/-! paper_for, to the paper. -/
namespace Vm
open PySem
section
variable {T : Str → Str → Option Te} {gl : Str → Option W} {fl : Str → List Str} {n : Nat} {s : Vs}
theorem sp_paper_exact (M : MixT T gl fl) {a : Nat} {gs : List (Rat × Rat)} {W0 F : Rat} (h : StockAt s a gs) (hq : ∀ p ∈ gs, GoldQ p) (hl : gs.length ≤ 20) (hW : 0 < W0) (sW : Sm 20 W0) (h0 : 0 ≤ F) (h1 : F ≤ 1) (sF : Sm 10 F) :
    ∃ s', run T gl fl (n + 6) Str.empty "paper_for" [fr W0, fr F, .ref a] s = .ok (fr (papQ W0 F gs)) s' ∧ 0 ≤ papQ W0 F gs ∧ Sm 22 (papQ W0 F gs) ∧ Fr (fun _ => False) s s' := by
  let D : Wd := ⟨run T gl fl (n + 5), gl, fl⟩
  have h' := h
  obtain ⟨rs, ha, hlen, hg⟩ := h
  obtain ⟨s1, em, f1⟩ := sp_mixed (n := n) M h' hq hl hW sW h0 h1 sF
  obtain ⟨s2, eo, ho, f2⟩ := sp_finest (n := n + 3) M (h'.fr0 f1) hq (by omega)
  have z22 : Sm 22 (0 : Rat) := sm_zero.mono (by omega)
  have first : ∀ b, denB D (.cons (.asgT [4, 5, 6] (.call "mixed" (.cons (.var 0) (.cons (.var 1) (.cons (.var 2) .nil))))) b) [some (fr W0), some (fr F), some (.ref a), none, none, none, none, none] s = denB D b [some (fr W0), some (fr F), some (.ref a), none, some (fr (mixQ W0 F gs).p), some (fr (mixQ W0 F gs).c), some (.tup ((mixQ W0 F gs).t.map fr)), none] s1 := fun b => by
    rw [B_asgT (w := .tup [fr (mixQ W0 F gs).p, fr (mixQ W0 F gs).c, .tup ((mixQ W0 F gs).t.map fr)]) (s1 := s1) (by simp only [den, denL, test, bind_ok, fin_ok, truth_bl, cmpV_lt, cmpV_le, cmpV_gt, cmpV_ge, binV_add, binV_sub, idx2_0, idx2_1, biV_abs, getO_0, getO_s, set_0, set_s, sif_t, sif_f, if_true, if_false, List.length_cons, List.length_nil, denL, fits1, fits2, fits3, fits4, fits5, fits6, fits7, fits8, newL_eq, D, em]) (setTs3 ..)]
    rfl
  by_cases hn : (mixQ W0 F gs).p = 0
  · have pz : papQ W0 F gs = 0 := by unfold papQ; rw [if_pos hn]
    rw [pz]
    refine ⟨s1, ?_, Rat.le_refl, z22, f1⟩
    refine run_rt M.paper rfl ?_
    show denB D (.cons _ (.cons _ (.cons _ (.cons _ .nil)))) [some (fr W0), some (fr F), some (.ref a), none, none, none, none, none] s = _
    rw [first]
    exact B_tr (s1 := s1) (by simp only [den, denL, test, bind_ok, fin_ok, truth_bl, cmpV_lt, cmpV_le, cmpV_gt, cmpV_ge, binV_add, binV_sub, idx2_0, idx2_1, biV_abs, getO_0, getO_s, set_0, set_s, sif_t, sif_f, if_true, if_false, List.length_cons, List.length_nil, denL, fits1, fits2, fits3, fits4, fits5, fits6, fits7, fits8, newL_eq, D, M.nought, cmpV_eqF, hn, decide_true]) (B_ret (by simp only [den, denL, test, bind_ok, fin_ok, truth_bl, cmpV_lt, cmpV_le, cmpV_gt, cmpV_ge, binV_add, binV_sub, idx2_0, idx2_1, biV_abs, getO_0, getO_s, set_0, set_s, sif_t, sif_f, if_true, if_false, List.length_cons, List.length_nil, denL, fits1, fits2, fits3, fits4, fits5, fits6, fits7, fits8, newL_eq, D, M.nought]))
  have pure1 : ∀ j, j < gs.length → (gQ gs j).2 = 1 → (mixQ W0 F gs).t[j]? = some (gQ gs j).1 := by
    have st := MI.start hW sW h0 h1 sF
    rcases mix_pure hq (ordQ gs) [] (mix0 W0 F gs) st.1 st.2.1 (by rw [List.nil_append]; exact (foQ_perm gs gs.length).nodup_iff.mpr List.nodup_range) (fun j hj => by rw [List.nil_append] at hj; have := foQ_lt hj; show j < (List.replicate gs.length (0 : Rat)).length; rw [List.length_replicate]; exact this) (.inr fun j hj => by cases hj) with z | z
    · exact absurd z hn
    · exact fun j hj hf => z j (by rw [List.nil_append]; exact (foQ_perm gs gs.length).mem_iff.mpr (List.mem_range.mpr hj)) hf
  have tl : (mixQ W0 F gs).t.length = gs.length := by unfold mixQ; rw [mixS_len]; exact List.length_replicate
  have pL : papQ W0 F gs = papL gs (mixQ W0 F gs).t (ordQ gs) := by unfold papQ; rw [if_neg hn]
  let I : List W → Rho → Vs → Prop := fun l r s' => ∃ (rest : List Nat) (x3 x7 : Option W), ((∀ j ∈ rest, j < gs.length) ∧ papQ W0 F gs = papL gs (mixQ W0 F gs).t rest) ∧ l = rest.map (fun i => W.int (i : Nat)) ∧ s' = s2 ∧ r = [some (fr W0), some (fr F), some (.ref a), x3, some (fr (mixQ W0 F gs).p), some (fr (mixQ W0 F gs).c), some (.tup ((mixQ W0 F gs).t.map fr)), x7]
  have f02 := f1.trans f2
  have inv := for_inv (I := I) (Q := fun w s' => w = fr (papQ W0 F gs) ∧ 0 ≤ papQ W0 F gs ∧ Sm 22 (papQ W0 F gs) ∧ s' = s2) (ok := Src.ok ⟨(ordQ gs).map fun i => W.int (i : Nat), [(s1.length, (ordQ gs).map fun i => W.int (i : Nat))]⟩)
    (f := forF D (.nm 3) (.cons (.asg 7 (.idx (.var 2) (.var 3))) (.cons (.ifs (.cmp .ne (.idx (.var 6) (.var 3)) (.fld (.var 7) "weight")) (.cons (.ret (.call "over" (.cons (.fld (.var 7) "fineness") (.cons (.call "minus" (.cons (.glo "ONE") (.cons (.fld (.var 7) "fineness") .nil))) .nil)))) .nil) .nil) .nil)))
    (fun l r s' ⟨rest, x3, x7, _, _, es, _⟩ q hq2 => by
      rw [List.mem_singleton.mp hq2, es]
      exact lst_at ho)
    (fun x l r s' ⟨rest, x3, x7, hr, el, es, er⟩ => by
      subst es er
      cases rest with
      | nil => cases el
      | cons i rest =>
        rw [List.map_cons] at el
        cases el
        obtain ⟨hr, hpl⟩ := hr
        have il := hr i (List.mem_cons_self ..)
        obtain ⟨⟨w, g⟩, eg⟩ : ∃ p, gs[i]? = some p := ⟨gs[i], List.getElem?_eq_getElem il⟩
        obtain ⟨rr, k1, k2⟩ := hg i w g eg
        have qg := hq (w, g) (List.mem_of_getElem? eg)
        have sg : Sm 10 g := qg.2.2.2.2
        have hrr : s'[rr]? = some (goldO w g) := f02.get k2 id
        have ha' : s'[a]? = some (.lst (rs.map W.ref)) := f02.get ha id
        obtain ⟨t, et⟩ : ∃ t, (mixQ W0 F gs).t[i]? = some t := ⟨_, List.getElem?_eq_getElem (by rw [tl]; exact il)⟩
        have eQ : gQ gs i = (w, g) := gQ_of eg
        have ti : ((mixQ W0 F gs).t.map fr)[i]? = some (fr t) := by rw [List.getElem?_map, et]; rfl
        have ev : ∀ b r7, denB D (.cons (.asg 7 (.idx (.var 2) (.var 3))) b) [some (fr W0), some (fr F), some (.ref a), some (.int (i : Nat)), some (fr (mixQ W0 F gs).p), some (fr (mixQ W0 F gs).c), some (.tup ((mixQ W0 F gs).t.map fr)), r7] s' = denB D b [some (fr W0), some (fr F), some (.ref a), some (.int (i : Nat)), some (fr (mixQ W0 F gs).p), some (fr (mixQ W0 F gs).c), some (.tup ((mixQ W0 F gs).t.map fr)), some (.ref rr)] s' := fun b r7 => by
          rw [B_asg (w := .ref rr) (s1 := s') (by simp only [den, denL, test, bind_ok, fin_ok, truth_bl, cmpV_lt, cmpV_le, cmpV_gt, cmpV_ge, binV_add, binV_sub, idx2_0, idx2_1, biV_abs, getO_0, getO_s, set_0, set_s, sif_t, sif_f, if_true, if_false, List.length_cons, List.length_nil, denL, fits1, fits2, fits3, fits4, fits5, fits6, fits7, fits8, newL_eq, lst_idx ha' (show (rs.map W.ref)[i]? = some (.ref rr) by rw [List.getElem?_map, k1]; rfl)])]
          rfl
        by_cases htw : t = w
        · left
          refine ⟨[some (fr W0), some (fr F), some (.ref a), some (.int (i : Nat)), some (fr (mixQ W0 F gs).p), some (fr (mixQ W0 F gs).c), some (.tup ((mixQ W0 F gs).t.map fr)), some (.ref rr)], s', .inl ?_, rest, _, _, ⟨fun j hj => hr j (List.mem_cons_of_mem _ hj), by rw [hpl, papL, if_pos (by rw [et, htw, eQ])]⟩, rfl, rfl, rfl⟩
          show denB D _ [some (fr W0), some (fr F), some (.ref a), some (.int (i : Nat)), some (fr (mixQ W0 F gs).p), some (fr (mixQ W0 F gs).c), some (.tup ((mixQ W0 F gs).t.map fr)), x7] s' = _
          rw [ev, B_f (s1 := s') (by simp only [den, denL, test, bind_ok, fin_ok, truth_bl, cmpV_lt, cmpV_le, cmpV_gt, cmpV_ge, binV_add, binV_sub, idx2_0, idx2_1, biV_abs, getO_0, getO_s, set_0, set_s, sif_t, sif_f, if_true, if_false, List.length_cons, List.length_nil, denL, fits1, fits2, fits3, fits4, fits5, fits6, fits7, fits8, newL_eq, tup_idx ti, fld_weight hrr, cmpV_neF, htw, decide_true, Bool.not_true])]
          exact B_nil
        · right
          have g1 : g ≠ 1 := fun z => by
            have := pure1 i il (by rw [eQ]; exact z)
            rw [eQ, et] at this
            exact htw (Option.some.inj this)
          have n1 : 1 - g ≠ 0 := by grind
          have op := one_sub_pos qg.2.2.2.1 g1
          have pe : papQ W0 F gs = g / (1 - g) := by rw [hpl, papL, if_neg (by rw [et, eQ]; exact fun z => htw (Option.some.inj z)), eQ]
          rw [pe]
          refine ⟨fr (g / (1 - g)), s', ?_, rfl, div_nonneg qg.2.2.1 op, (sm_div sg (sm_one_sub sg) n1).mono (by omega), rfl⟩
          show denB D _ [some (fr W0), some (fr F), some (.ref a), some (.int (i : Nat)), some (fr (mixQ W0 F gs).p), some (fr (mixQ W0 F gs).c), some (.tup ((mixQ W0 F gs).t.map fr)), x7] s' = _
          rw [ev]
          refine B_tr (s1 := s') (by simp only [den, denL, test, bind_ok, fin_ok, truth_bl, cmpV_lt, cmpV_le, cmpV_gt, cmpV_ge, binV_add, binV_sub, idx2_0, idx2_1, biV_abs, getO_0, getO_s, set_0, set_s, sif_t, sif_f, if_true, if_false, List.length_cons, List.length_nil, denL, fits1, fits2, fits3, fits4, fits5, fits6, fits7, fits8, newL_eq, tup_idx ti, fld_weight hrr, cmpV_neF, htw, decide_false, Bool.not_false]) (B_ret ?_)
          simp only [den, denL, test, bind_ok, fin_ok, truth_bl, cmpV_lt, cmpV_le, cmpV_gt, cmpV_ge, binV_add, binV_sub, idx2_0, idx2_1, biV_abs, getO_0, getO_s, set_0, set_s, sif_t, sif_f, if_true, if_false, List.length_cons, List.length_nil, denL, fits1, fits2, fits3, fits4, fits5, fits6, fits7, fits8, newL_eq, D, fld_fineness hrr, M.one, sp_minus (n := n + 2) M.toFracT sm_one sg (show 1 + 10 < 9000 by omega), sp_over (n := n + 2) M.toFracT sg (sm_one_sub sg) (show 10 + 12 < 9000 by omega) n1])
    ((ordQ gs).map fun i => W.int (i : Nat)) [some (fr W0), some (fr F), some (.ref a), none, some (fr (mixQ W0 F gs).p), some (fr (mixQ W0 F gs).c), some (.tup ((mixQ W0 F gs).t.map fr)), none] s2 ⟨ordQ gs, none, none, ⟨fun j hj => foQ_lt hj, pL⟩, rfl, rfl, rfl⟩
  have start : ∀ b, denB D (.cons (.asgT [4, 5, 6] (.call "mixed" (.cons (.var 0) (.cons (.var 1) (.cons (.var 2) .nil))))) (.cons (.ifs (.cmp .eq (.var 4) (.glo "NOUGHT")) (.cons (.ret (.glo "NOUGHT")) .nil) .nil) b)) [some (fr W0), some (fr F), some (.ref a), none, none, none, none, none] s = denB D b [some (fr W0), some (fr F), some (.ref a), none, some (fr (mixQ W0 F gs).p), some (fr (mixQ W0 F gs).c), some (.tup ((mixQ W0 F gs).t.map fr)), none] s1 := fun b => by
    rw [first, B_f (s1 := s1) (by simp only [den, denL, test, bind_ok, fin_ok, truth_bl, cmpV_lt, cmpV_le, cmpV_gt, cmpV_ge, binV_add, binV_sub, idx2_0, idx2_1, biV_abs, getO_0, getO_s, set_0, set_s, sif_t, sif_f, if_true, if_false, List.length_cons, List.length_nil, denL, fits1, fits2, fits3, fits4, fits5, fits6, fits7, fits8, newL_eq, D, M.nought, cmpV_eqF, hn, decide_false])]
  have it : denI D (.val (.call "finest_first" (.cons (.var 2) .nil))) [some (fr W0), some (fr F), some (.ref a), none, some (fr (mixQ W0 F gs).p), some (fr (mixQ W0 F gs).c), some (.tup ((mixQ W0 F gs).t.map fr)), none] s1 = .ok ⟨(ordQ gs).map fun i => W.int (i : Nat), [(s1.length, (ordQ gs).map fun i => W.int (i : Nat))]⟩ s2 := by
    rw [denI]
    simp only [den, denL, test, bind_ok, fin_ok, truth_bl, cmpV_lt, cmpV_le, cmpV_gt, cmpV_ge, binV_add, binV_sub, idx2_0, idx2_1, biV_abs, getO_0, getO_s, set_0, set_s, sif_t, sif_f, if_true, if_false, List.length_cons, List.length_nil, denL, fits1, fits2, fits3, fits4, fits5, fits6, fits7, fits8, newL_eq, D, eo]
    exact src_ref ho
  rcases inv with ⟨r', s', e, rest, x3, x7, ⟨_, hpl⟩, el, es, er⟩ | ⟨w, s', e, ew, q0, q1, es⟩
  · subst es er
    have er0 : rest = [] := by cases rest with | nil => rfl | cons _ _ => cases el
    subst er0
    have pz : papQ W0 F gs = 0 := hpl
    rw [pz]
    refine ⟨s', ?_, Rat.le_refl, z22, f02⟩
    refine run_rt M.paper rfl ?_
    show denB D (.cons _ (.cons _ (.cons _ (.cons _ .nil)))) [some (fr W0), some (fr F), some (.ref a), none, none, none, none, none] s = _
    rw [start, B_for it e]
    exact B_ret (by simp only [den, denL, test, bind_ok, fin_ok, truth_bl, cmpV_lt, cmpV_le, cmpV_gt, cmpV_ge, binV_add, binV_sub, idx2_0, idx2_1, biV_abs, getO_0, getO_s, set_0, set_s, sif_t, sif_f, if_true, if_false, List.length_cons, List.length_nil, denL, fits1, fits2, fits3, fits4, fits5, fits6, fits7, fits8, newL_eq, D, M.nought])
  · subst es ew
    refine ⟨s', ?_, q0, q1, f02⟩
    refine run_rt M.paper rfl ?_
    show denB D (.cons _ (.cons _ (.cons _ (.cons _ .nil)))) [some (fr W0), some (fr F), some (.ref a), none, none, none, none, none] s = _
    rw [start, B_forr it e]
end
end Vm
set_option Elab.async false
set_option linter.all false
set_option maxRecDepth 100000
set_option maxHeartbeats 4000000
/-! The told parts: their sizes, and what they come to. -/
namespace Vm
open PySem
def PhA (i : Nat) (P C : Rat) : Prop := Sm (30 + 35 * i) P ∧ Sm (51 + 60 * i) C
def PhB (i : Nat) (P C : Rat) : Prop := C = 0 ∧ Sm (2000 + 35 * i) P
def PhC (P C : Rat) : Prop := P = 0 ∧ Sm 2700 C
section
variable {i : Nat} {w f P C : Rat}
theorem phC_step (g : GoldQ (w, f)) (hC : 0 ≤ C) (h : PhC P C) : PhC (P - takeQ w f P C * f) (C - (takeQ w f P C - takeQ w f P C * f)) ∧ Sm 24 (takeQ w f P C) := by
  obtain ⟨hw, sw, h0, h1, sf⟩ := g
  obtain ⟨a, b⟩ := h
  have e : takeQ w f P C = 0 := by rw [a]; exact take_zeroP hw h0 h1 hC
  rw [e, show P - 0 * f = P by grind, show C - (0 - 0 * f) = C by grind]
  exact ⟨⟨a, b⟩, sm_zero.mono (by omega)⟩
theorem phB_step (g : GoldQ (w, f)) (hi : i < 20) (hP : 0 ≤ P) (h : PhB i P C) : (PhB (i + 1) (P - takeQ w f P C * f) (C - (takeQ w f P C - takeQ w f P C * f)) ∧ Sm 24 (takeQ w f P C)) ∨ (PhC (P - takeQ w f P C * f) (C - (takeQ w f P C - takeQ w f P C * f)) ∧ Sm 2700 (takeQ w f P C)) := by
  obtain ⟨hw, sw, h0, h1, sf⟩ := g
  have sw : Sm 24 w := sw
  have sf : Sm 10 f := sf
  obtain ⟨a, b⟩ := h
  by_cases hf : f = 1
  · have s1 := sm_mul sw sf
    subst hf
    have tc : takeQ w 1 P C = w ∨ takeQ w 1 P C = P := by
      unfold takeQ
      rw [if_neg (by decide), if_pos rfl]
      have e1 : P / 1 = P := by rw [Rat.div_def, show (1 : Rat)⁻¹ = 1 by decide +kernel, Rat.mul_one]
      rw [e1]
      exact minQ_or w P
    rcases tc with e | e
    · rw [e]
      exact .inl ⟨⟨by rw [a]; grind, (sm_sub b s1).mono (by omega)⟩, sw⟩
    · rw [e]
      exact .inr ⟨⟨by grind, by rw [a, show (0 : Rat) - (P - P * 1) = 0 by grind]; exact sm_zero.mono (by omega)⟩, b.mono (by omega)⟩
  · have e : takeQ w f P C = 0 := by rw [a]; exact take_zeroC hw h0 hf hP
    rw [e, show P - 0 * f = P by grind, show C - (0 - 0 * f) = C by grind]
    exact .inl ⟨⟨a, b.mono (by omega)⟩, sm_zero.mono (by omega)⟩
theorem phA_step (g : GoldQ (w, f)) (hi : i < 20) (h : PhA i P C) : (PhA (i + 1) (P - takeQ w f P C * f) (C - (takeQ w f P C - takeQ w f P C * f)) ∧ Sm 24 (takeQ w f P C)) ∨ (PhB (i + 1) (P - takeQ w f P C * f) (C - (takeQ w f P C - takeQ w f P C * f)) ∧ Sm 1300 (takeQ w f P C)) ∨ (PhC (P - takeQ w f P C * f) (C - (takeQ w f P C - takeQ w f P C * f)) ∧ Sm 1300 (takeQ w f P C)) := by
  obtain ⟨hw, sw, h0, h1, sf⟩ := g
  have sw : Sm 24 w := sw
  have sf : Sm 10 f := sf
  obtain ⟨a, b⟩ := h
  rcases take_cases (w := w) (f := f) (P := P) (C := C) h1 with e | e | ⟨hf, e⟩ | ⟨hf, e⟩
  · rw [e, show P - 0 * f = P by grind, show C - (0 - 0 * f) = C by grind]
    exact .inl ⟨⟨a.mono (by omega), b.mono (by omega)⟩, sm_zero.mono (by omega)⟩
  · rw [e]
    have s1 := sm_mul sw sf
    have s2 := sm_sub sw s1
    exact .inl ⟨⟨(sm_sub a s1).mono (by omega), (sm_sub b s2).mono (by omega)⟩, sw⟩
  · rw [e]
    have s0 := sm_div a sf hf
    have s1 := sm_mul s0 sf
    have s2 := sm_sub s0 s1
    have e0 : P - P / f * f = 0 := by rw [Rat.div_mul_cancel hf]; grind
    exact .inr (.inr ⟨⟨e0, (sm_sub b s2).mono (by omega)⟩, s0.mono (by omega)⟩)
  · rw [e]
    have n1 : 1 - f ≠ 0 := by grind
    have s0 := sm_div b (sm_one_sub sf) n1
    have s1 := sm_mul s0 sf
    have e0 : C - (C / (1 - f) - C / (1 - f) * f) = 0 := by
      have : C / (1 - f) - C / (1 - f) * f = C / (1 - f) * (1 - f) := by grind
      rw [this, Rat.div_mul_cancel n1]
      grind
    exact .inr (.inl ⟨⟨e0, (sm_sub a s1).mono (by omega)⟩, s0.mono (by omega)⟩)
end
/-- bits of the parts: all small but two -/
def TB (j1 j2 : Nat) (t : List Rat) : Prop := ∀ (k : Nat) (x : Rat), t[k]? = some x → 0 ≤ x ∧ (k ≠ j1 → k ≠ j2 → Sm 24 x) ∧ (k ≠ j2 → Sm 1300 x) ∧ Sm 2700 x
def PhT (n i : Nat) (st : MxS) : Prop := (PhA i st.p st.c ∧ TB n n st.t) ∨ (PhB i st.p st.c ∧ ∃ j1, TB j1 n st.t) ∨ (PhC st.p st.c ∧ ∃ j1 j2, TB j1 j2 st.t)
theorem tb_set {j1 j2 j m1 m2 : Nat} {t : List Rat} {x : Rat} (h : TB j1 j2 t) (h0 : 0 ≤ x) (hj : j < t.length) (n1 : ∀ k < t.length, k ≠ m1 → k ≠ m2 → k = j ∨ (k ≠ j1 ∧ k ≠ j2)) (n2 : ∀ k < t.length, k ≠ m2 → k = j ∨ k ≠ j2) (x1 : j ≠ m1 → j ≠ m2 → Sm 24 x) (x2 : j ≠ m2 → Sm 1300 x) (x3 : Sm 2700 x) : TB m1 m2 (t.set j x) := fun k y e => by
  by_cases hk : j = k
  · subst hk
    rw [List.getElem?_set_self hj] at e
    cases e
    exact ⟨h0, x1, x2, x3⟩
  · rw [List.getElem?_set_ne hk] at e
    have hl : k < t.length := (List.getElem?_eq_some_iff.mp e).1
    obtain ⟨a, b, c, d⟩ := h k y e
    exact ⟨a, fun z1 z2 => (n1 k hl z1 z2).elim (fun z => absurd z.symm hk) fun z => b z.1 z.2, fun z2 => (n2 k hl z2).elim (fun z => absurd z.symm hk) c, d⟩
theorem ph_fold {gs : List (Rat × Rat)} (hq : ∀ p ∈ gs, GoldQ p) (n : Nat) : ∀ (l : List Nat) (i : Nat) (st : MxS), 0 ≤ st.p → 0 ≤ st.c → PhT n i st → i + l.length ≤ 20 → st.t.length = n → (∀ j ∈ l, j < n) → PhT n (i + l.length) (l.foldl (mixS gs) st)
  | [], i, st, _, _, h, _, _, _ => h
  | j :: l, i, st, hP, hC, h, hl, hn, hj => by
    have g := gQ_ok hq j
    have ok := take_ok g.1 g.2.2.1 g.2.2.2.1 hP hC
    have nn := step_nn hq hP hC j
    have jn : j < n := hj j (List.mem_cons_self ..)
    have jt : j < st.t.length := by omega
    rw [List.length_cons] at hl ⊢
    rw [List.foldl_cons, show i + (l.length + 1) = i + 1 + l.length by omega]
    refine ph_fold hq n l (i + 1) (mixS gs st j) nn.1 nn.2 ?_ (by omega) (by show (st.t.set j _).length = n; rw [List.length_set]; exact hn) fun k hk => hj k (List.mem_cons_of_mem _ hk)
    have m24 : ∀ {x : Rat}, Sm 24 x → Sm 1300 x := fun h => h.mono (by omega)
    have m13 : ∀ {x : Rat}, Sm 1300 x → Sm 2700 x := fun h => h.mono (by omega)
    rcases h with ⟨a, b⟩ | ⟨a, j1, b⟩ | ⟨a, j1, j2, b⟩
    · rcases phA_step g (by omega) a with ⟨c, d⟩ | ⟨c, d⟩ | ⟨c, d⟩
      · exact .inl ⟨c, tb_set b ok.nn jt (fun k hk _ _ => .inr ⟨by omega, by omega⟩) (fun k hk _ => .inr (by omega)) (fun _ _ => d) (fun _ => m24 d) (m13 (m24 d))⟩
      · exact .inr (.inl ⟨c, j, tb_set b ok.nn jt (fun k hk _ _ => .inr ⟨by omega, by omega⟩) (fun k hk _ => .inr (by omega)) (fun z _ => absurd rfl z) (fun _ => d) (m13 d)⟩)
      · exact .inr (.inr ⟨c, j, n, tb_set b ok.nn jt (fun k hk _ _ => .inr ⟨by omega, by omega⟩) (fun k hk _ => .inr (by omega)) (fun z _ => absurd rfl z) (fun _ => d) (m13 d)⟩)
    · rcases phB_step g (by omega) hP a with ⟨c, d⟩ | ⟨c, d⟩
      · exact .inr (.inl ⟨c, j1, tb_set b ok.nn jt (fun k hk z _ => .inr ⟨z, by omega⟩) (fun k hk _ => .inr (by omega)) (fun _ _ => d) (fun _ => m24 d) (m13 (m24 d))⟩)
      · exact .inr (.inr ⟨c, j1, j, tb_set b ok.nn jt (fun k hk z _ => .inr ⟨z, by omega⟩) (fun k hk _ => .inr (by omega)) (fun _ z => absurd rfl z) (fun z => absurd rfl z) d⟩)
    · obtain ⟨c, d⟩ := phC_step g hC a
      exact .inr (.inr ⟨c, j1, j2, tb_set b ok.nn jt (fun k hk z1 z2 => .inr ⟨z1, z2⟩) (fun k hk z => .inr z) (fun _ _ => d) (fun _ => m24 d) (m13 (m24 d))⟩)
/-- bits of the i-th part -/
def bQ (j1 j2 i : Nat) : Nat := if i = j2 then 2700 else if i = j1 then 1300 else 24
theorem tb_b {j1 j2 k : Nat} {t : List Rat} {x : Rat} (h : TB j1 j2 t) (e : t[k]? = some x) : 0 ≤ x ∧ Sm (bQ j1 j2 k) x := by
  obtain ⟨a, b, c, d⟩ := h k x e
  refine ⟨a, ?_⟩
  unfold bQ
  by_cases h2 : k = j2
  · rw [if_pos h2]; exact d
  · rw [if_neg h2]
    by_cases h1 : k = j1
    · rw [if_pos h1]; exact c h2
    · rw [if_neg h1]; exact b h1 h2
/-- bits of the sum of the first parts -/
def sB (b : Nat → Nat) (c : Nat) : Nat → Nat
  | 0 => c
  | k + 1 => sB b c k + b k + 1
theorem sB_le (j1 j2 c d : Nat) : ∀ k, sB (fun i => bQ j1 j2 i + d) c k ≤ c + k * (25 + d) + (if j2 < k then 2700 else 0) + (if j1 < k then 1300 else 0)
  | 0 => by unfold sB; omega
  | k + 1 => by
    have ih := sB_le j1 j2 c d k
    rw [sB, Nat.succ_mul]
    have hb : bQ j1 j2 k ≤ 24 + (if k = j2 then 2700 else 0) + (if k = j1 then 1300 else 0) := by
      unfold bQ
      repeat' split
      all_goals omega
    split at ih <;> split at ih <;> split at hb <;> split at hb <;> split <;> split <;> omega
/-- the parts together with what is left come to the wish -/
def sumT (f : Rat → Rat × Rat → Rat) : List Rat → List (Rat × Rat) → Rat
  | t :: ts, g :: gs => f t g + sumT f ts gs
  | _, _ => 0
theorem sumT_set {f : Rat → Rat × Rat → Rat} (f0 : ∀ g, f 0 g = 0) : ∀ {t : List Rat} {gs : List (Rat × Rat)} {j : Nat} {x : Rat}, t.length = gs.length → t[j]? = some 0 → sumT f (t.set j x) gs = sumT f t gs + f x (gQ gs j)
  | [], _, j, x, _, h => by simp at h
  | t :: ts, [], j, x, hl, h => by simp at hl
  | t :: ts, g :: gs, 0, x, hl, h => by
    simp at h
    subst h
    show f x g + sumT f ts gs = f 0 g + sumT f ts gs + f x (gQ (g :: gs) 0)
    rw [f0, show gQ (g :: gs) 0 = g from rfl]
    grind
  | t :: ts, g :: gs, j + 1, x, hl, h => by
    have ih := sumT_set f0 (t := ts) (gs := gs) (j := j) (x := x) (by simpa using hl) (by simpa using h)
    show f t g + sumT f (ts.set j x) gs = f t g + sumT f ts gs + f x (gQ (g :: gs) (j + 1))
    rw [ih, show gQ (g :: gs) (j + 1) = gQ gs j from rfl]
    grind
theorem sumT_zero {f : Rat → Rat × Rat → Rat} (f0 : ∀ g, f 0 g = 0) : ∀ (gs : List (Rat × Rat)), sumT f (List.replicate gs.length 0) gs = 0
  | [] => rfl
  | g :: gs => by
    show f 0 g + sumT f (List.replicate gs.length 0) gs = 0
    rw [f0, sumT_zero f0 gs]
    grind
/-- the take of the first k -/
theorem sumT_take {f : Rat → Rat × Rat → Rat} : ∀ {t : List Rat} {gs : List (Rat × Rat)} {k : Nat} {x : Rat} {g : Rat × Rat}, t[k]? = some x → gs[k]? = some g → sumT f (t.take (k + 1)) (gs.take (k + 1)) = sumT f (t.take k) (gs.take k) + f x g
  | [], _, k, x, g, h, _ => by simp at h
  | t :: ts, [], k, x, g, _, h => by simp at h
  | t :: ts, g' :: gs, 0, x, g, h1, h2 => by
    simp at h1 h2
    subst h1 h2
    show f t g' + sumT f (ts.take 0) (gs.take 0) = 0 + f t g'
    rw [List.take_zero, List.take_zero]
    show f t g' + 0 = 0 + f t g'
    grind
  | t :: ts, g' :: gs, k + 1, x, g, h1, h2 => by
    have ih := sumT_take (f := f) (t := ts) (gs := gs) (k := k) (x := x) (g := g) (by simpa using h1) (by simpa using h2)
    rw [List.take_succ_cons, List.take_succ_cons, List.take_succ_cons, List.take_succ_cons]
    show f t g' + sumT f (ts.take (k + 1)) (gs.take (k + 1)) = f t g' + sumT f (ts.take k) (gs.take k) + f x g
    rw [ih]
    grind
def fPure (t : Rat) (g : Rat × Rat) : Rat := t * g.2
def fCop (t : Rat) (g : Rat × Rat) : Rat := t - t * g.2
def fAll (t : Rat) (g : Rat × Rat) : Rat := t
theorem sumT_all : ∀ (t : List Rat) (gs : List (Rat × Rat)), sumT fAll t gs = sumT fPure t gs + sumT fCop t gs
  | [], _ => by show (0 : Rat) = 0 + 0; grind
  | t :: ts, [] => by show (0 : Rat) = 0 + 0; grind
  | t :: ts, g :: gs => by
    have ih := sumT_all ts gs
    show t + sumT fAll ts gs = t * g.2 + sumT fPure ts gs + (t - t * g.2 + sumT fCop ts gs)
    rw [ih]
    grind
theorem sum_fold {gs : List (Rat × Rat)} : ∀ (l : List Nat) (st : MxS), l.Nodup → st.t.length = gs.length → (∀ j ∈ l, st.t[j]? = some 0) →
    (l.foldl (mixS gs) st).p + sumT fPure (l.foldl (mixS gs) st).t gs = st.p + sumT fPure st.t gs ∧ (l.foldl (mixS gs) st).c + sumT fCop (l.foldl (mixS gs) st).t gs = st.c + sumT fCop st.t gs
  | [], _, _, _, _ => ⟨rfl, rfl⟩
  | j :: l, st, nd, hl, h0 => by
    obtain ⟨n1, n2⟩ := List.nodup_cons.mp nd
    have hj := h0 j (List.mem_cons_self ..)
    have ih := sum_fold (gs := gs) l (mixS gs st j) n2 (by show (st.t.set j _).length = _; rw [List.length_set]; exact hl) fun k hk => by
      show (st.t.set j _)[k]? = _
      rw [List.getElem?_set_ne (by rintro rfl; exact n1 hk)]
      exact h0 k (List.mem_cons_of_mem _ hk)
    rw [List.foldl_cons, ih.1, ih.2]
    have e1 := sumT_set (f := fPure) (fun g => by show (0 : Rat) * g.2 = 0; grind) (x := takeQ (gQ gs j).1 (gQ gs j).2 st.p st.c) hl hj
    have e2 := sumT_set (f := fCop) (fun g => by show (0 : Rat) - 0 * g.2 = 0; grind) (x := takeQ (gQ gs j).1 (gQ gs j).2 st.p st.c) hl hj
    refine ⟨?_, ?_⟩
    · show st.p - takeQ (gQ gs j).1 (gQ gs j).2 st.p st.c * (gQ gs j).2 + sumT fPure (st.t.set j _) gs = _
      rw [e1]
      show _ - _ + (_ + takeQ (gQ gs j).1 (gQ gs j).2 st.p st.c * (gQ gs j).2) = _
      grind
    · show st.c - (takeQ (gQ gs j).1 (gQ gs j).2 st.p st.c - takeQ (gQ gs j).1 (gQ gs j).2 st.p st.c * (gQ gs j).2) + sumT fCop (st.t.set j _) gs = _
      rw [e2]
      show _ - _ + (_ + (takeQ (gQ gs j).1 (gQ gs j).2 st.p st.c - takeQ (gQ gs j).1 (gQ gs j).2 st.p st.c * (gQ gs j).2)) = _
      grind
/-- no part is more than there is -/
theorem le_fold {gs : List (Rat × Rat)} (hq : ∀ p ∈ gs, GoldQ p) : ∀ (l : List Nat) (st : MxS), 0 ≤ st.p → 0 ≤ st.c → (∀ (k : Nat) (x : Rat), st.t[k]? = some x → x ≤ (gQ gs k).1) → ∀ (k : Nat) (x : Rat), (l.foldl (mixS gs) st).t[k]? = some x → x ≤ (gQ gs k).1
  | [], _, _, _, h => h
  | j :: l, st, hP, hC, h => by
    have g := gQ_ok hq j
    have ok := take_ok g.1 g.2.2.1 g.2.2.2.1 hP hC
    have nn := step_nn hq hP hC j
    refine le_fold hq l (mixS gs st j) nn.1 nn.2 fun k x e => ?_
    have e : (st.t.set j _)[k]? = some x := e
    by_cases hk : j = k
    · subst hk
      by_cases hl : j < st.t.length
      · rw [List.getElem?_set_self hl] at e
        cases e
        exact ok.le
      · rw [List.getElem?_eq_none (by rw [List.length_set]; omega)] at e
        cases e
    · rw [List.getElem?_set_ne hk] at e
      exact h k x e
structure FitsQ (W0 F : Rat) (gs : List (Rat × Rat)) : Prop where
  len : (mixQ W0 F gs).t.length = gs.length
  p0 : 0 ≤ (mixQ W0 F gs).p
  c0 : 0 ≤ (mixQ W0 F gs).c
  pure : (mixQ W0 F gs).p + sumT fPure (mixQ W0 F gs).t gs = W0 * F
  all : (mixQ W0 F gs).p + (mixQ W0 F gs).c + sumT fAll (mixQ W0 F gs).t gs = W0
  le : ∀ (k : Nat) (x : Rat), (mixQ W0 F gs).t[k]? = some x → x ≤ (gQ gs k).1
  bits : ∃ j1 j2, TB j1 j2 (mixQ W0 F gs).t ∧ Sm 2701 ((mixQ W0 F gs).p + (mixQ W0 F gs).c) ∧ Sm 2700 (mixQ W0 F gs).p ∧ Sm 2700 (mixQ W0 F gs).c
theorem fits_q {W0 F : Rat} {gs : List (Rat × Rat)} (hq : ∀ p ∈ gs, GoldQ p) (hl : gs.length ≤ 20) (hW : 0 < W0) (sW : Sm 20 W0) (h0 : 0 ≤ F) (h1 : F ≤ 1) (sF : Sm 10 F) : FitsQ W0 F gs := by
  have st := MI.start hW sW h0 h1 sF
  have ol : (ordQ gs).length = gs.length := foQ_len gs gs.length
  have rl : (List.replicate gs.length (0 : Rat)).length = gs.length := List.length_replicate
  have oj : ∀ j ∈ ordQ gs, j < gs.length := fun j hj => foQ_lt hj
  have tl : (mixQ W0 F gs).t.length = gs.length := by unfold mixQ; rw [mixS_len]; exact rl
  have rep : ∀ (k : Nat) (x : Rat), (List.replicate gs.length (0 : Rat))[k]? = some x → x = 0 := fun k x e => by
    have := List.mem_of_getElem? e
    exact (List.mem_replicate.mp this).2
  have mi := (mix_inv hq 0 (ordQ gs) 0 (mix0 W0 F gs) st (by omega)).1
  have sf := sum_fold (gs := gs) (ordQ gs) (mix0 W0 F gs) (ord_nodup gs) rl fun j hj => by
    show (List.replicate gs.length (0 : Rat))[j]? = some 0
    rw [List.getElem?_replicate, if_pos (oj j hj)]
  have e1 : sumT fPure (mix0 W0 F gs).t gs = 0 := sumT_zero (fun g => by show (0 : Rat) * g.2 = 0; grind) gs
  have e2 : sumT fCop (mix0 W0 F gs).t gs = 0 := sumT_zero (fun g => by show (0 : Rat) - 0 * g.2 = 0; grind) gs
  rw [e1, e2] at sf
  have sf1 : (mixQ W0 F gs).p + sumT fPure (mixQ W0 F gs).t gs = W0 * F + 0 := sf.1
  have sf2 : (mixQ W0 F gs).c + sumT fCop (mixQ W0 F gs).t gs = W0 - W0 * F + 0 := sf.2
  have ph := ph_fold hq gs.length (ordQ gs) 0 (mix0 W0 F gs) st.1 st.2.1 (.inl ⟨by
    have s1 := sm_mul sW sF
    exact ⟨s1, sm_sub sW s1⟩, fun k x e => by
    rw [rep k x e]
    exact ⟨Rat.le_refl, fun _ _ => sm_zero.mono (by omega), fun _ => sm_zero.mono (by omega), sm_zero.mono (by omega)⟩⟩) (by omega) rl oj
  refine ⟨tl, mi.1, mi.2.1, by rw [sf1]; grind, by rw [sumT_all]; grind, le_fold hq _ _ st.1 st.2.1 fun k x e => by rw [rep k x e]; exact Rat.le_of_lt (gQ_ok hq k).1, ?_⟩
  have z : ∀ {k : Nat}, Sm (k + 1) (0 : Rat) := sm_zero.mono (by omega)
  rcases ph with ⟨a, b⟩ | ⟨a, j1, b⟩ | ⟨a, j1, j2, b⟩
  · have a1 : Sm (30 + 35 * (0 + (ordQ gs).length)) (mixQ W0 F gs).p := a.1
    have a2 : Sm (51 + 60 * (0 + (ordQ gs).length)) (mixQ W0 F gs).c := a.2
    exact ⟨_, _, b, (sm_add a1 a2).mono (by omega), a1.mono (by omega), a2.mono (by omega)⟩
  · have a1 : (mixQ W0 F gs).c = 0 := a.1
    have a2 : Sm (2000 + 35 * (0 + (ordQ gs).length)) (mixQ W0 F gs).p := a.2
    rw [a1]
    exact ⟨_, _, b, by rw [Rat.add_zero]; exact a2.mono (by omega), a2.mono (by omega), z⟩
  · have a1 : (mixQ W0 F gs).p = 0 := a.1
    have a2 : Sm 2700 (mixQ W0 F gs).c := a.2
    rw [a1]
    exact ⟨_, _, b, by rw [Rat.zero_add]; exact a2.mono (by omega), z, a2⟩
/-- what another mix leaves -/
theorem other_q {W0 F p : Rat} {gs : List (Rat × Rat)} (hp : 0 ≤ p) {t : List Rat} (hl : t.length = gs.length) (hq : ∀ p ∈ gs, GoldQ p) (ht : ∀ (k : Nat) (x : Rat), t[k]? = some x → 0 ≤ x ∧ x ≤ (gQ gs k).1) (hc : 0 ≤ W0 - W0 * F - sumT fCop t gs) :
    W0 * F - p * (W0 - W0 * F) - sumQ (gs.map (mxQ p)) ≤ W0 * F - sumT fPure t gs := by
  have key : ∀ (t : List Rat) (gs : List (Rat × Rat)), t.length = gs.length → (∀ p ∈ gs, GoldQ p) → (∀ (k : Nat) (x : Rat), t[k]? = some x → 0 ≤ x ∧ x ≤ (gQ gs k).1) → sumT fPure t gs - p * sumT fCop t gs ≤ sumQ (gs.map (mxQ p)) := by
    intro t
    induction t with
    | nil => intro gs hl _ _; cases gs with
      | nil => show (0 : Rat) - p * 0 ≤ 0; grind
      | cons g gs => simp at hl
    | cons x t ih =>
      intro gs hl hq ht
      cases gs with
      | nil => simp at hl
      | cons g gs =>
        have i1 := ih gs (by simpa using hl) (fun p hp => hq p (List.mem_cons_of_mem _ hp)) fun k x e => ht (k + 1) x e
        obtain ⟨x0, x1⟩ := ht 0 x rfl
        have x1 : x ≤ g.1 := x1
        have gg := hq g (List.mem_cons_self ..)
        have one : x * g.2 - p * (x - x * g.2) ≤ mxQ p g := by
          have e : x * g.2 - p * (x - x * g.2) = x * (g.2 - p * (1 - g.2)) := by grind
          have e2 : g.1 * g.2 - p * (g.1 - g.1 * g.2) = g.1 * (g.2 - p * (1 - g.2)) := by grind
          rw [e]
          unfold mxQ
          rw [e2]
          by_cases hm : 0 < g.2 - p * (1 - g.2)
          · rw [if_pos (Rat.mul_pos gg.1 hm)]
            exact Rat.mul_le_mul_of_nonneg_right x1 (Rat.le_of_lt hm)
          · have hm' : g.2 - p * (1 - g.2) ≤ 0 := Rat.not_lt.mp hm
            have a1 : x * (g.2 - p * (1 - g.2)) ≤ x * 0 := Rat.mul_le_mul_of_nonneg_left hm' x0
            rw [if_neg fun z => hm ((Rat.mul_pos_iff_of_pos_left gg.1).mp z)]
            rw [Rat.mul_zero] at a1
            exact a1
        show x * g.2 + sumT fPure t gs - p * (x - x * g.2 + sumT fCop t gs) ≤ mxQ p g + sumQ (gs.map (mxQ p))
        grind
  have k := key t gs hl hq ht
  have := Rat.mul_nonneg hp hc
  grind
end Vm
set_option Elab.async false
set_option linter.all false
set_option maxRecDepth 100000
set_option maxHeartbeats 4000000
/-! The law of papers. -/
namespace Vm
open PySem
def d__law_shown : Fd := ⟨4, 10, [], (.cons (.asg 4 (.call "_law_mul" (.cons (.var 0) (.cons (.var 1) .nil)))) (.cons (.asg 5 (.call "_law_sub" (.cons (.var 4) (.cons (.call "_law_mul" (.cons (.var 3) (.cons (.call "_law_sub" (.cons (.var 0) (.cons (.var 4) .nil))) .nil))) .nil)))) (.cons (.fors (.tp [6, 7]) (.val (.var 2)) (.cons (.asg 8 (.call "_law_mul" (.cons (.var 6) (.cons (.var 7) .nil)))) (.cons (.asg 9 (.call "_law_sub" (.cons (.var 8) (.cons (.call "_law_mul" (.cons (.var 3) (.cons (.call "_law_sub" (.cons (.var 6) (.cons (.var 8) .nil))) .nil))) .nil)))) (.cons (.ifs (.cmp .gt (.idx (.var 9) (.con (.int 0))) (.con (.int 0))) (.cons (.asg 5 (.call "_law_sub" (.cons (.var 5) (.cons (.var 9) .nil)))) .nil) .nil) .nil)))) (.cons (.ret (.ite (.cmp .gt (.idx (.var 5) (.con (.int 0))) (.con (.int 0))) (.var 5) (.tup (.cons (.con (.int 0)) (.cons (.con (.int 1)) .nil))))) .nil))))⟩
def rowsW (gs : List (Rat × Rat)) : List W := gs.map fun g => W.tup [fr g.1, fr g.2]
theorem num_pos {v : Rat} : (0 < v.num → 0 < v) ∧ (¬ 0 < v.num → v ≤ 0) := by
  refine ⟨fun h => ?_, fun h => ?_⟩
  · have h0 : 0 ≤ v := Rat.num_nonneg.mp (by omega)
    have h1 : v ≠ 0 := fun z => by rw [z] at h; exact absurd h (by decide)
    grind
  · by_cases z : v.num = 0
    · rw [Rat.num_eq_zero.mp z]; exact Rat.le_refl
    · refine Rat.le_of_lt (Rat.not_le.mp fun k => ?_)
      have := Rat.num_nonneg.mpr k
      omega
theorem me_pos {p : Rat} {g : Rat × Rat} : (0 < (meQ p g).num → mxQ p g = meQ p g) ∧ (¬ 0 < (meQ p g).num → mxQ p g = 0) := by
  rw [mx_me]
  exact ⟨fun h => if_pos (num_pos.1 h), fun h => if_neg (Rat.not_lt.mpr (num_pos.2 h))⟩
section
variable {T : Str → Str → Option Te} {gl : Str → Option W} {fl : Str → List Str} {n : Nat} {s : Vs}
theorem sp_shown (hS : T Str.empty "_law_shown" = some (.fn d__law_shown)) (L : LawT T) {a : Nat} {gs : List (Rat × Rat)} {W0 F p : Rat} (ha : s[a]? = some (.lst (rowsW gs))) (hq : ∀ p ∈ gs, GoldQ p) (hl : gs.length ≤ 20) (sW : Sm 20 W0) (sF : Sm 10 F) (sp : Sm 30 p) :
    run T gl fl (n + 3) Str.empty "_law_shown" [fr W0, fr F, .ref a, fr p] s = .ok (fr (lnewQ W0 F gs p)) s := by
  let D : Wd := ⟨run T gl fl (n + 2), gl, fl⟩
  have s1 := sm_mul sW sF
  have s2 := sm_sub sW s1
  have s3 := sm_mul sp s2
  have e0 : vQ W0 F gs p 0 = W0 * F - p * (W0 - W0 * F) := by show _ - 0 = _; grind
  let I : List W → Rho → Vs → Prop := fun l r s' => ∃ k x6 x7 x8 x9, k ≤ gs.length ∧ l = rowsW (gs.drop k) ∧ s' = s ∧ r = [some (fr W0), some (fr F), some (.ref a), some (fr p), some (fr (W0 * F)), some (fr (vQ W0 F gs p k)), x6, x7, x8, x9]
  have inv := for_nx (I := I) (ok := Src.ok ⟨rowsW gs, [(a, rowsW gs)]⟩)
    (f := forF D (.tp [6, 7]) (.cons (.asg 8 (.call "_law_mul" (.cons (.var 6) (.cons (.var 7) .nil)))) (.cons (.asg 9 (.call "_law_sub" (.cons (.var 8) (.cons (.call "_law_mul" (.cons (.var 3) (.cons (.call "_law_sub" (.cons (.var 6) (.cons (.var 8) .nil))) .nil))) .nil)))) (.cons (.ifs (.cmp .gt (.idx (.var 9) (.con (.int 0))) (.con (.int 0))) (.cons (.asg 5 (.call "_law_sub" (.cons (.var 5) (.cons (.var 9) .nil)))) .nil) .nil) .nil))))
    (l := rowsW gs) (r := [some (fr W0), some (fr F), some (.ref a), some (fr p), some (fr (W0 * F)), some (fr (vQ W0 F gs p 0)), none, none, none, none]) (s := s)
    (fun l r s' ⟨k, x6, x7, x8, x9, _, _, es, _⟩ q hq2 => by
      rw [List.mem_singleton.mp hq2, es]
      exact lst_at ha)
    (fun x l r s' ⟨k, x6, x7, x8, x9, hk, el, es, er⟩ => by
      subst es er
      have hk2 : k < gs.length := by
        rcases Nat.lt_or_ge k gs.length with z | z
        · exact z
        · rw [List.drop_eq_nil_of_le (by omega)] at el
          cases el
      obtain ⟨⟨w, g⟩, eg⟩ : ∃ p, gs[k]? = some p := ⟨gs[k], List.getElem?_eq_getElem hk2⟩
      have qg := hq (w, g) (List.mem_of_getElem? eg)
      have sw : Sm 24 w := qg.2.1
      have sg : Sm 10 g := qg.2.2.2.2
      have k1 : gs[k] = (w, g) := by rw [List.getElem?_eq_getElem hk2] at eg; exact Option.some.inj eg
      rw [List.drop_eq_getElem_cons hk2, k1] at el
      cases el
      have m1 := sm_mul sw sg
      have m2 := sm_sub sw m1
      have m3 := sm_mul sp m2
      have m4 : Sm 124 (w * g - p * (w - w * g)) := (sm_sub m1 m3).mono (by omega)
      have sv := sm_v hq sW sF sp k hk
      refine ⟨[some (fr W0), some (fr F), some (.ref a), some (fr p), some (fr (W0 * F)), some (fr (vQ W0 F gs p (k + 1))), some (fr w), some (fr g), some (fr (w * g)), some (fr (w * g - p * (w - w * g)))], s', ?_, k + 1, _, _, _, _, hk2, rfl, rfl, rfl⟩
      show denB D _ [some (fr W0), some (fr F), some (.ref a), some (fr p), some (fr (W0 * F)), some (fr (vQ W0 F gs p k)), some (fr w), some (fr g), x8, x9] s' = _
      rw [B_asg (w := fr (w * g)) (s1 := s') (by simp only [den, denL, test, bind_ok, fin_ok, truth_bl, cmpV_lt, cmpV_le, cmpV_gt, cmpV_ge, binV_add, binV_sub, idx2_0, idx2_1, biV_abs, getO_0, getO_s, set_0, set_s, sif_t, sif_f, if_true, if_false, List.length_cons, List.length_nil, denL, fits1, fits2, fits3, fits4, fits5, fits6, fits7, fits8, newL_eq, D, sp_law_mul (n := n) L sw sg (show 24 + 10 < 9000 by omega)])]
      simp only [set_0, set_s]
      rw [B_asg (w := fr (w * g - p * (w - w * g))) (s1 := s') (by simp only [den, denL, test, bind_ok, fin_ok, truth_bl, cmpV_lt, cmpV_le, cmpV_gt, cmpV_ge, binV_add, binV_sub, idx2_0, idx2_1, biV_abs, getO_0, getO_s, set_0, set_s, sif_t, sif_f, if_true, if_false, List.length_cons, List.length_nil, denL, fits1, fits2, fits3, fits4, fits5, fits6, fits7, fits8, newL_eq, D, sp_law_sub (n := n) L sw m1 (show 24 + (24 + 10) < 9000 by omega), sp_law_mul (n := n) L sp m2 (show 30 + (24 + (24 + 10) + 1) < 9000 by omega), sp_law_sub (n := n) L m1 m3 (show 24 + 10 + (30 + (24 + (24 + 10) + 1)) < 9000 by omega)])]
      simp only [set_0, set_s]
      have mp := me_pos (p := p) (g := (w, g))
      rw [vQ_succ eg]
      by_cases hm : 0 < (w * g - p * (w - w * g)).num
      · rw [mp.1 hm]
        rw [B_tt (r' := [some (fr W0), some (fr F), some (.ref a), some (fr p), some (fr (W0 * F)), some (fr (vQ W0 F gs p k - meQ p (w, g))), some (fr w), some (fr g), some (fr (w * g)), some (fr (w * g - p * (w - w * g)))]) (s1 := s') (s' := s') (by simp only [den, denL, test, bind_ok, fin_ok, truth_bl, cmpV_lt, cmpV_le, cmpV_gt, cmpV_ge, binV_add, binV_sub, idx2_0, idx2_1, biV_abs, getO_0, getO_s, set_0, set_s, sif_t, sif_f, if_true, if_false, List.length_cons, List.length_nil, denL, fits1, fits2, fits3, fits4, fits5, fits6, fits7, fits8, newL_eq, idx_fr0, hm, decide_true]) (by
          rw [B_asg (w := fr (vQ W0 F gs p k - (w * g - p * (w - w * g)))) (s1 := s') (by simp only [den, denL, test, bind_ok, fin_ok, truth_bl, cmpV_lt, cmpV_le, cmpV_gt, cmpV_ge, binV_add, binV_sub, idx2_0, idx2_1, biV_abs, getO_0, getO_s, set_0, set_s, sif_t, sif_f, if_true, if_false, List.length_cons, List.length_nil, denL, fits1, fits2, fits3, fits4, fits5, fits6, fits7, fits8, newL_eq, D, sp_law_sub (n := n) L sv m4 (show 112 + 125 * k + 124 < 9000 by omega)])]
          exact B_nil)]
        exact B_nil
      · rw [mp.2 hm, B_f (s1 := s') (by simp only [den, denL, test, bind_ok, fin_ok, truth_bl, cmpV_lt, cmpV_le, cmpV_gt, cmpV_ge, binV_add, binV_sub, idx2_0, idx2_1, biV_abs, getO_0, getO_s, set_0, set_s, sif_t, sif_f, if_true, if_false, List.length_cons, List.length_nil, denL, fits1, fits2, fits3, fits4, fits5, fits6, fits7, fits8, newL_eq, idx_fr0, hm, decide_false])]
        rw [show vQ W0 F gs p k - 0 = vQ W0 F gs p k by grind]
        exact B_nil)
    ⟨0, none, none, none, none, Nat.zero_le _, rfl, rfl, rfl⟩
  obtain ⟨r', s', e, k, x6, x7, x8, x9, hk, el, es, er⟩ := inv
  have hk3 : k = gs.length := by
    rcases Nat.lt_or_ge k gs.length with z | z
    · rw [List.drop_eq_getElem_cons z] at el
      cases el
    · omega
  subst hk3 es er
  refine run_rt hS rfl ?_
  show denB D (.cons _ (.cons _ (.cons _ (.cons _ .nil)))) [some (fr W0), some (fr F), some (.ref a), some (fr p), none, none, none, none, none, none] s' = _
  rw [B_asg (w := fr (W0 * F)) (s1 := s') (by simp only [den, denL, test, bind_ok, fin_ok, truth_bl, cmpV_lt, cmpV_le, cmpV_gt, cmpV_ge, binV_add, binV_sub, idx2_0, idx2_1, biV_abs, getO_0, getO_s, set_0, set_s, sif_t, sif_f, if_true, if_false, List.length_cons, List.length_nil, denL, fits1, fits2, fits3, fits4, fits5, fits6, fits7, fits8, newL_eq, D, sp_law_mul (n := n) L sW sF (show 20 + 10 < 9000 by omega)])]
  simp only [set_0, set_s]
  rw [B_asg (w := fr (vQ W0 F gs p 0)) (s1 := s') (by rw [e0]; simp only [den, denL, test, bind_ok, fin_ok, truth_bl, cmpV_lt, cmpV_le, cmpV_gt, cmpV_ge, binV_add, binV_sub, idx2_0, idx2_1, biV_abs, getO_0, getO_s, set_0, set_s, sif_t, sif_f, if_true, if_false, List.length_cons, List.length_nil, denL, fits1, fits2, fits3, fits4, fits5, fits6, fits7, fits8, newL_eq, D, sp_law_sub (n := n) L sW s1 (show 20 + (20 + 10) < 9000 by omega), sp_law_mul (n := n) L sp s2 (show 30 + (20 + (20 + 10) + 1) < 9000 by omega), sp_law_sub (n := n) L s1 s3 (show 20 + 10 + (30 + (20 + (20 + 10) + 1)) < 9000 by omega)])]
  simp only [set_0, set_s]
  rw [B_for (q := ⟨rowsW gs, [(a, rowsW gs)]⟩) (s1 := s') (by
    rw [denI]
    simp only [den, denL, test, bind_ok, fin_ok, truth_bl, cmpV_lt, cmpV_le, cmpV_gt, cmpV_ge, binV_add, binV_sub, idx2_0, idx2_1, biV_abs, getO_0, getO_s, set_0, set_s, sif_t, sif_f, if_true, if_false, List.length_cons, List.length_nil, denL, fits1, fits2, fits3, fits4, fits5, fits6, fits7, fits8, newL_eq]
    exact src_ref ha) e]
  unfold lnewQ
  refine B_ret ?_
  by_cases hv : 0 < (vQ W0 F gs p gs.length).num
  · rw [if_neg (Rat.not_lt.mpr (Rat.le_of_lt (num_pos.1 hv)))]
    simp only [den, denL, test, bind_ok, fin_ok, truth_bl, cmpV_lt, cmpV_le, cmpV_gt, cmpV_ge, binV_add, binV_sub, idx2_0, idx2_1, biV_abs, getO_0, getO_s, set_0, set_s, sif_t, sif_f, if_true, if_false, List.length_cons, List.length_nil, denL, fits1, fits2, fits3, fits4, fits5, fits6, fits7, fits8, newL_eq, idx_fr0, hv, decide_true]
  · have h0 := num_pos.2 hv
    have e9 : (if vQ W0 F gs p gs.length < 0 then 0 else vQ W0 F gs p gs.length) = 0 := by
      split
      · rfl
      · rename_i z
        exact Rat.le_antisymm h0 (Rat.not_lt.mp z)
    rw [e9]
    simp only [den, denL, test, bind_ok, fin_ok, truth_bl, cmpV_lt, cmpV_le, cmpV_gt, cmpV_ge, binV_add, binV_sub, idx2_0, idx2_1, biV_abs, getO_0, getO_s, set_0, set_s, sif_t, sif_f, if_true, if_false, List.length_cons, List.length_nil, denL, fits1, fits2, fits3, fits4, fits5, fits6, fits7, fits8, newL_eq, idx_fr0, hv, decide_false]
    rfl
def q17 : Rat := ⟨1, 7, by decide, by decide⟩
def q12 : Rat := ⟨1, 2, by decide, by decide⟩
def qG : Rat := ⟨10 ^ 9, 1, by decide, by decide⟩
theorem tup01 : W.tup [.int 0, .int 1] = fr 0 := rfl
theorem tup17 : W.tup [.int 1, .int 7] = fr q17 := rfl
theorem tup12 : W.tup [.int 1, .int 2] = fr q12 := rfl
theorem tupG : W.tup [.int (10 ^ 9), .int 1] = fr qG := rfl
theorem sm17 : Sm 3 q17 := ⟨by decide, by decide⟩
theorem sm12 : Sm 2 q12 := ⟨by decide, by decide⟩
theorem smG : Sm 30 qG := ⟨by decide, by decide⟩
theorem add_lst {s : Vs} {a b : Nat} {l m : List W} (h : s[a]? = some (.lst l)) (k : s[b]? = some (.lst m)) (hl : l.length + m.length ≤ 2 ^ 20) : binV .add (.ref a) (.ref b) s = .ok (.ref s.length) (s ++ [.lst (l ++ m)]) := by
  show (match s[a]?, s[b]? with | some (.lst l), some (.lst m) => if fits (l.length + m.length) then newL (l ++ m) s else .err | _, _ => .err) = _
  rw [h, k]
  show (if fits (l.length + m.length) then newL (l ++ m) s else .err) = _
  rw [fits20 hl]
  rfl
theorem rng1 {m : Nat} (hm : m < 1000) (s : Vs) : rngV 0 (m : Nat) s = .ok ⟨(List.range m).map fun i => W.int (i : Nat), []⟩ s := by
  have e : (((m : Nat) : Int) - 0).toNat = m := by omega
  show (if decide (-(2 ^ 62) ≤ (0 : Int) ∧ (0 : Int) < 2 ^ 62 ∧ -(2 ^ 62) ≤ (m : Int) ∧ (m : Int) < 2 ^ 62) then Out.ok (⟨(List.range (((m : Nat) : Int) - 0).toNat).map fun (i : Nat) => W.int (0 + (i : Int)), []⟩ : Src) s else .err) = _
  rw [decide_eq_true (by omega), e]
  simp only [Int.zero_add]
  rfl
end
end Vm
set_option Elab.async false
set_option linter.all false
set_option maxRecDepth 100000
set_option maxHeartbeats 4000000
/-! What the law's own functions of mixes tell. -/
namespace Vm
open PySem
def d__law_fits : Fd := ⟨4, 11, [], (.cons (.ifs (.or (.not (.isi (.var 3) "tuple")) (.or (.cmp .ne (.bi .len (.cons (.var 3) .nil)) (.con (.int 3))) (.or (.not (.isi (.idx (.var 3) (.con (.int 2))) "tuple")) (.cmp .ne (.bi .len (.cons (.idx (.var 3) (.con (.int 2))) .nil)) (.bi .len (.cons (.var 2) .nil)))))) (.cons (.ret (.con (.bl false))) .nil) .nil) (.cons (.asgT [6, 7, 8] (.var 3)) (.cons (.asg 4 (.call "_law_add" (.cons (.var 6) (.cons (.var 7) .nil)))) (.cons (.asg 5 (.var 6)) (.cons (.fors (.tp [9, 10]) (.zip (.var 8) (.var 2)) (.cons (.ifs (.or (.cmp .lt (.idx (.var 9) (.con (.int 0))) (.con (.int 0))) (.call "_law_less" (.cons (.idx (.var 10) (.con (.int 0))) (.cons (.var 9) .nil)))) (.cons (.ret (.con (.bl false))) .nil) .nil) (.cons (.asg 4 (.call "_law_add" (.cons (.var 4) (.cons (.var 9) .nil)))) (.cons (.asg 5 (.call "_law_add" (.cons (.var 5) (.cons (.call "_law_mul" (.cons (.var 9) (.cons (.idx (.var 10) (.con (.int 1))) .nil))) .nil)))) .nil)))) (.cons (.ret (.and (.cmp .ge (.idx (.var 6) (.con (.int 0))) (.con (.int 0))) (.and (.cmp .ge (.idx (.var 7) (.con (.int 0))) (.con (.int 0))) (.and (.cmp .eq (.var 4) (.var 0)) (.cmp .eq (.var 5) (.call "_law_mul" (.cons (.var 0) (.cons (.var 1) .nil)))))))) .nil))))))⟩
def d__law_other : Fd := ⟨4, 10, [], (.cons (.asg 4 (.call "_law_mul" (.cons (.var 1) (.cons (.var 2) .nil)))) (.cons (.asg 5 (.call "_law_sub" (.cons (.var 1) (.cons (.var 4) .nil)))) (.cons (.fors (.tp [6, 7]) (.val (.var 3)) (.cons (.asg 8 (.call "_law_mul" (.cons (.var 6) (.cons (.call "_law_frac" (.cons (.call "_law_take" (.cons (.var 0) (.cons (.con (.int 5)) .nil))) (.cons (.con (.int 4)) .nil))) .nil)))) (.cons (.asg 9 (.call "_law_mul" (.cons (.var 8) (.cons (.var 7) .nil)))) (.cons (.asg 4 (.call "_law_sub" (.cons (.var 4) (.cons (.var 9) .nil)))) (.cons (.asg 5 (.call "_law_sub" (.cons (.var 5) (.cons (.call "_law_sub" (.cons (.var 8) (.cons (.var 9) .nil))) .nil)))) .nil))))) (.cons (.ifs (.or (.cmp .lt (.idx (.var 4) (.con (.int 0))) (.con (.int 0))) (.cmp .lt (.idx (.var 5) (.con (.int 0))) (.con (.int 0)))) (.cons (.ret (.con (.non))) .nil) .nil) (.cons (.ret (.var 4)) .nil)))))⟩
theorem isi_tupT (l : List W) (s : Vs) : isiV "tuple" (.tup l) s = .ok (.bl true) s := by rfl
theorem idx3_1 (a b c : W) (s : Vs) : idxV (.tup [a, b, c]) (.int 1) s = .ok b s := rfl
theorem idx3_2 (a b c : W) (s : Vs) : idxV (.tup [a, b, c]) (.int 2) s = .ok c s := rfl
theorem idx30 (a b c : W) (s : Vs) : idxV (.tup [a, b, c]) (.int 0) s = .ok a s := rfl
theorem num_neg {v : Rat} (h : 0 ≤ v) : ¬ v.num < 0 := by
  have := Rat.num_nonneg.mpr h
  omega
theorem zip_tl {l m : List W} {a : Nat} {s : Vs} (h : s[a]? = some (.lst m)) : zipV (.tup l) (.ref a) s = .ok ⟨zipL l m, [(a, m)]⟩ s := by
  show (match seqW (.tup l) s, seqW (.ref a) s with | some p, some q => Out.ok (⟨zipL p.2.1 q.2.1, p.2.2 ++ q.2.2⟩ : Src) s | _, _ => .err) = _
  have e : seqW (.ref a) s = some (false, m, [(a, m)]) := by
    show (match lstAt s a with | some l => some (false, l, [(a, l)]) | none => none) = _
    rw [lst_at h]
  rw [e]
  rfl
theorem zipL_get {l m : List W} {k : Nat} {x : W} (h : (zipL l m)[k]? = some x) : ∃ a b, l[k]? = some a ∧ m[k]? = some b ∧ x = .tup [a, b] := by
  unfold zipL at h
  rw [List.getElem?_map] at h
  cases e : (l.zip m)[k]? with
  | none => rw [e] at h; cases h
  | some p =>
    rw [e] at h
    cases h
    obtain ⟨a, b⟩ := p
    have := List.getElem?_zip_eq_some.mp e
    exact ⟨a, b, this.1, this.2, rfl⟩
theorem setT1 (a : W) (r : Rho) (m : Nat) : setT (.nm m) a r = some (r.set m (some a)) := rfl
section
variable {T : Str → Str → Option Te} {gl : Str → Option W} {fl : Str → List Str} {n : Nat} {s : Vs}
theorem sp_fits (hT : T Str.empty "_law_fits" = some (.fn d__law_fits)) (L : LawT T) {a : Nat} {gs : List (Rat × Rat)} {W0 F : Rat} (ha : s[a]? = some (.lst (rowsW gs))) (hq : ∀ p ∈ gs, GoldQ p) (hl : gs.length ≤ 20) (hW : 0 < W0) (sW : Sm 20 W0) (h0 : 0 ≤ F) (h1 : F ≤ 1) (sF : Sm 10 F) :
    run T gl fl (n + 3) Str.empty "_law_fits" [fr W0, fr F, .ref a, .tup [fr (mixQ W0 F gs).p, fr (mixQ W0 F gs).c, .tup ((mixQ W0 F gs).t.map fr)]] s = .ok (.bl true) s := by
  have q := fits_q hq hl hW sW h0 h1 sF
  obtain ⟨ql, qp0, qc0, qpu, qal, qle, j1, j2, tb, b1, b2, b3⟩ := q
  generalize mixQ W0 F gs = M at *
  have rl : (rowsW gs).length = gs.length := by unfold rowsW; rw [List.length_map]
  have tl : (M.t.map fr).length = gs.length := by rw [List.length_map]; exact ql
  rw [run_def hT rfl]
  let D : Wd := ⟨run T gl fl (n + 2), gl, fl⟩
  -- the loop
  have inv := for_ixn (ok := Src.ok ⟨zipL (M.t.map fr) (rowsW gs), [(a, rowsW gs)]⟩) (f := forF D (.tp [9, 10]) (.cons (.ifs (.or (.cmp .lt (.idx (.var 9) (.con (.int 0))) (.con (.int 0))) (.call "_law_less" (.cons (.idx (.var 10) (.con (.int 0))) (.cons (.var 9) .nil)))) (.cons (.ret (.con (.bl false))) .nil) .nil) (.cons (.asg 4 (.call "_law_add" (.cons (.var 4) (.cons (.var 9) .nil)))) (.cons (.asg 5 (.call "_law_add" (.cons (.var 5) (.cons (.call "_law_mul" (.cons (.var 9) (.cons (.idx (.var 10) (.con (.int 1))) .nil))) .nil)))) .nil))))
    (items := zipL (M.t.map fr) (rowsW gs)) (r := [some (fr W0), some (fr F), some (.ref a), some (.tup [fr M.p, fr M.c, .tup (M.t.map fr)]), some (fr (M.p + M.c)), some (fr M.p), some (fr M.p), some (fr M.c), some (.tup (M.t.map fr)), none, none]) (s := s)
    (fun k r s' => s' = s ∧ ∃ x9 x10 A P, A = M.p + M.c + sumT fAll (M.t.take k) (gs.take k) ∧ P = M.p + sumT fPure (M.t.take k) (gs.take k) ∧ Sm (sB (fun i => bQ j1 j2 i + 0) 2701 k) A ∧ Sm (sB (fun i => bQ j1 j2 i + 10) 2700 k) P ∧ r = [some (fr W0), some (fr F), some (.ref a), some (.tup [fr M.p, fr M.c, .tup (M.t.map fr)]), some (fr A), some (fr P), some (fr M.p), some (fr M.c), some (.tup (M.t.map fr)), x9, x10])
    (fun k r s' ⟨es, _⟩ p hp => by rw [List.mem_singleton.mp hp, es]; exact lst_at ha)
    (fun k x r s' hx ⟨es, x9, x10, A, P, eA, eP, sA, sP, er⟩ => by
      subst es er
      obtain ⟨w1, w2, e1, e2, rfl⟩ := zipL_get hx
      rw [List.getElem?_map] at e1
      obtain ⟨t, et, rfl⟩ := Option.map_eq_some_iff.mp e1
      unfold rowsW at e2
      rw [List.getElem?_map] at e2
      obtain ⟨⟨w, g⟩, eg, rfl⟩ := Option.map_eq_some_iff.mp e2
      have gq := hq (w, g) (List.mem_of_getElem? eg)
      have sw : Sm 24 w := gq.2.1
      have sg : Sm 10 g := gq.2.2.2.2
      have kl : k < gs.length := (List.getElem?_eq_some_iff.mp eg).1
      obtain ⟨t0, st⟩ := tb_b tb et
      have tw : t ≤ w := by have := qle k t et; rw [gQ_of eg] at this; exact this
      have nl : ¬ w < t := Rat.not_lt.mpr tw
      have bb1 := sB_le j1 j2 2701 0 k
      have bb2 := sB_le j1 j2 2700 10 k
      have bk : bQ j1 j2 k ≤ 2700 := by unfold bQ; split; omega; split <;> omega
      have b6 : sB (fun i => bQ j1 j2 i + 0) 2701 k + bQ j1 j2 k < 9000 := by
        have := sB_le j1 j2 2701 0 (k + 1)
        rw [sB] at this
        split at this <;> split at this <;> omega
      have b7 : sB (fun i => bQ j1 j2 i + 10) 2700 k + (bQ j1 j2 k + 10) < 9000 := by
        have := sB_le j1 j2 2700 10 (k + 1)
        rw [sB] at this
        split at this <;> split at this <;> omega
      refine ⟨_, s', ?_, rfl, some (fr t), some (.tup [fr w, fr g]), A + t, P + t * g, ?_, ?_, sm_add sA st, sm_add sP (sm_mul st sg), rfl⟩
      · rw [forF_eq, setT2]
        simp only [E_var, E_con, E_glo, E_bin, E_neg, E_not, E_and, E_or, E_ite, E_cmp, E_ceq, E_chn, E_tup, E_lst, E_idx, E_slc, E_fld, E_call, E_meth, E_omt, E_bi, E_isi, E_iso, E_lc, L_nil, L_cons, I_val, I_rng1, rngW_int, I_zip, I_enum, T_eq, C_nil, C_asg, C_asgT, C_par, C_exp, C_ret, C_retN, C_pass, C_ifs, C_sfld, C_ssub, C_fors, bd_ok, fx_ok, sq_nx, sq_rt, oF_some, oO_some, finO_rt, finO_nx, truth_bl, cmpV_lt, cmpV_le, cmpV_gt, cmpV_ge, binV_add, binV_sub, idx2_0, idx2_1, idx_fr0, idx_fr1, biV_abs, getO_0, getO_s, set_0, set_s, reduceIte, Bool.not_true, Bool.not_false, Bool.false_eq_true, List.length_cons, List.length_nil, fits0, fits1, fits2, fits3, fits4, fits5, fits6, fits7, fits8, newL_eq, D, num_neg t0, decide_false, sp_law_less (n := n + 1) L sw st (show 24 + bQ j1 j2 k < 9000 by omega), nl, sp_law_add (n := n) L sA st b6, sp_law_mul (n := n) L st sg (show bQ j1 j2 k + 10 < 9000 by omega), sp_law_add (n := n) L sP (sm_mul st sg) b7]
      · rw [sumT_take et eg, eA]; show _ = _ + (_ + t); grind
      · rw [sumT_take et eg, eP]; show _ = _ + (_ + t * g); grind)
    ⟨rfl, none, none, M.p + M.c, M.p, by show _ = _ + 0; grind, by show _ = _ + 0; grind, b1, b2, rfl⟩
  obtain ⟨r', s', e, es, x9, x10, A, P, eA, eP, sA, sP, er⟩ := inv
  subst es er
  have zl : (zipL (M.t.map fr) (rowsW gs)).length = gs.length := by unfold zipL; rw [List.length_map, List.length_zip, tl, rl]; exact Nat.min_self _
  rw [zl] at eA eP
  rw [show M.t.take gs.length = M.t by rw [← ql]; exact List.take_length, show gs.take gs.length = gs from List.take_length] at eA eP
  rw [qal] at eA
  rw [qpu] at eP
  subst eA eP
  have hp := Rat.num_nonneg.mpr qp0
  have hc := Rat.num_nonneg.mpr qc0
  have ll : ((M.t.map fr).length : Int) = (rowsW gs).length := by rw [tl, rl]
  show finO (denB D (.cons _ (.cons _ (.cons _ (.cons _ (.cons (.fors _ _ _) _))))) [some (fr _), some (fr F), some (.ref a), some (.tup [fr M.p, fr M.c, .tup (M.t.map fr)]), none, none, none, none, none, none, none] s') = _
  have D_add := sp_law_add (gl := gl) (fl := fl) (n := n) (s := s') L b2 b3 (show 2700 + 2700 < 9000 by omega)
  simp only [E_var, E_con, E_glo, E_bin, E_neg, E_not, E_and, E_or, E_ite, E_cmp, E_ceq, E_chn, E_tup, E_lst, E_idx, E_slc, E_fld, E_call, E_meth, E_omt, E_bi, E_isi, E_iso, E_lc, L_nil, L_cons, I_val, I_rng1, rngW_int, I_zip, I_enum, T_eq, C_nil, C_asg, C_asgT, C_par, C_exp, C_ret, C_retN, C_pass, C_ifs, C_sfld, C_ssub, C_fors, bd_ok, fx_ok, sq_nx, sq_rt, oF_some, oO_some, finO_rt, finO_nx, truth_bl, cmpV_lt, cmpV_le, cmpV_gt, cmpV_ge, binV_add, binV_sub, idx2_0, idx2_1, idx_fr0, idx_fr1, biV_abs, getO_0, getO_s, set_0, set_s, reduceIte, Bool.not_true, Bool.not_false, Bool.false_eq_true, List.length_cons, List.length_nil, fits0, fits1, fits2, fits3, fits4, fits5, fits6, fits7, fits8, newL_eq, D, isi_tupT, len_tup, show (((0 + 1 + 1 + 1 : Nat)) : Int) = 3 from rfl, eq_self, cmpV_neI, len_ref ha, ll, decide_true, idx3_2, setTs3, D_add, zip_tl ha]
  rw [e]
  simp only [E_var, E_con, E_glo, E_bin, E_neg, E_not, E_and, E_or, E_ite, E_cmp, E_ceq, E_chn, E_tup, E_lst, E_idx, E_slc, E_fld, E_call, E_meth, E_omt, E_bi, E_isi, E_iso, E_lc, L_nil, L_cons, I_val, I_rng1, rngW_int, I_zip, I_enum, T_eq, C_nil, C_asg, C_asgT, C_par, C_exp, C_ret, C_retN, C_pass, C_ifs, C_sfld, C_ssub, C_fors, bd_ok, fx_ok, sq_nx, sq_rt, oF_some, oO_some, finO_rt, finO_nx, truth_bl, cmpV_lt, cmpV_le, cmpV_gt, cmpV_ge, binV_add, binV_sub, idx2_0, idx2_1, idx_fr0, idx_fr1, biV_abs, getO_0, getO_s, set_0, set_s, reduceIte, Bool.not_true, Bool.not_false, Bool.false_eq_true, List.length_cons, List.length_nil, fits0, fits1, fits2, fits3, fits4, fits5, fits6, fits7, fits8, newL_eq, hp, hc, decide_true, cmpV_eqF, sp_law_mul (n := n) L sW sF (show 20 + 10 < 9000 by omega)]
/-- what a drawn mix leaves -/
theorem sp_other (hT : T Str.empty "_law_other" = some (.fn d__law_other)) (F0 : DrawT T) (L : LawT T) {a b : Nat} {gs : List (Rat × Rat)} {W0 F : Rat} (ha : s[a]? = some (.lst (rowsW gs))) (hb : BagOk s b) (hab : a ≠ b) (hq : ∀ p ∈ gs, GoldQ p) (hl : gs.length ≤ 20) (sW : Sm 20 W0) (sF : Sm 10 F) :
    ∃ (t : List Rat) (s' : Vs), run T gl fl (n + 3) Str.empty "_law_other" [.ref b, fr W0, fr F, .ref a] s = .ok (if 0 ≤ W0 * F - sumT fPure t gs ∧ 0 ≤ W0 - W0 * F - sumT fCop t gs then fr (W0 * F - sumT fPure t gs) else .non) s' ∧ t.length = gs.length ∧ (∀ (k : Nat) (x : Rat), t[k]? = some x → 0 ≤ x ∧ x ≤ (gQ gs k).1) ∧ Sm 2000 (W0 * F - sumT fPure t gs) ∧ BagOk s' b ∧ Fr (· = b) s s' := by
  let D : Wd := ⟨run T gl fl (n + 2), gl, fl⟩
  have s1 := sm_mul sW sF
  have s2 := sm_sub sW s1
  have rl : (rowsW gs).length = gs.length := by unfold rowsW; rw [List.length_map]
  have inv := for_ixn (ok := Src.ok ⟨rowsW gs, [(a, rowsW gs)]⟩) (f := forF D (.tp [6, 7]) (.cons (.asg 8 (.call "_law_mul" (.cons (.var 6) (.cons (.call "_law_frac" (.cons (.call "_law_take" (.cons (.var 0) (.cons (.con (.int 5)) .nil))) (.cons (.con (.int 4)) .nil))) .nil)))) (.cons (.asg 9 (.call "_law_mul" (.cons (.var 8) (.cons (.var 7) .nil)))) (.cons (.asg 4 (.call "_law_sub" (.cons (.var 4) (.cons (.var 9) .nil)))) (.cons (.asg 5 (.call "_law_sub" (.cons (.var 5) (.cons (.call "_law_sub" (.cons (.var 8) (.cons (.var 9) .nil))) .nil)))) .nil)))))
    (items := rowsW gs) (r := [some (.ref b), some (fr W0), some (fr F), some (.ref a), some (fr (W0 * F)), some (fr (W0 - W0 * F)), none, none, none, none]) (s := s)
    (fun k r s' => BagOk s' b ∧ Fr (· = b) s s' ∧ k ≤ gs.length ∧ ∃ x6 x7 x8 x9 t P C, t.length = k ∧ (∀ (i : Nat) (x : Rat), t[i]? = some x → 0 ≤ x ∧ x ≤ (gQ gs i).1) ∧ P = W0 * F - sumT fPure t (gs.take k) ∧ C = W0 - W0 * F - sumT fCop t (gs.take k) ∧ Sm (30 + 40 * k) P ∧ Sm (51 + 70 * k) C ∧ r = [some (.ref b), some (fr W0), some (fr F), some (.ref a), some (fr P), some (fr C), x6, x7, x8, x9])
    (fun k r s' ⟨_, f, _⟩ p hp => by rw [List.mem_singleton.mp hp]; exact lst_at (f.get ha hab))
    (fun k x r s' hx ⟨hb', f, hk, x6, x7, x8, x9, t, P, C, tl, ht, eP, eC, sP, sC, er⟩ => by
      subst er
      unfold rowsW at hx
      rw [List.getElem?_map] at hx
      obtain ⟨⟨w, g⟩, eg, rfl⟩ := Option.map_eq_some_iff.mp hx
      have gq := hq (w, g) (List.mem_of_getElem? eg)
      have sw : Sm 24 w := gq.2.1
      have sg : Sm 10 g := gq.2.2.2.2
      have kl : k < gs.length := (List.getElem?_eq_some_iff.mp eg).1
      obtain ⟨d, s2', e1, d0, d1, hb2, f2, _⟩ := sp_take (gl := gl) (fl := fl) (n := n + 1) F0 hb' (show (0 : Int) < 5 by decide) (by decide)
      have f4 : Sm 3 (Rat.divInt d 4) := sm_divInt (by decide) (by omega) (by decide)
      have e4 : Rat.divInt d 4 = (d : Rat) / 4 := by rw [Rat.divInt_eq_div]; rfl
      have dq0 : (0 : Rat) ≤ d := by exact_mod_cast d0
      have dq1 : (d : Rat) ≤ 4 := by exact_mod_cast (show d ≤ 4 by omega)
      have q0 : 0 ≤ Rat.divInt d 4 := Rat.divInt_nonneg d0 (by decide)
      have q1 : Rat.divInt d 4 ≤ 1 := by
        rw [e4]
        refine Rat.not_lt.mp fun z => ?_
        rw [Rat.lt_div_iff (by decide), Rat.one_mul] at z
        exact absurd dq1 (Rat.not_le.mpr z)
      have sp := sm_mul sw f4
      have so := sm_mul sp sg
      have hw : 0 < w := gq.1
      refine ⟨_, s2', ?_, hb2, f.trans f2, kl, some (fr w), some (fr g), some (fr (w * Rat.divInt d 4)), some (fr (w * Rat.divInt d 4 * g)), t ++ [w * Rat.divInt d 4], P - w * Rat.divInt d 4 * g, C - (w * Rat.divInt d 4 - w * Rat.divInt d 4 * g), ?_, ?_, ?_, ?_, (sm_sub sP so).mono (by omega), (sm_sub sC (sm_sub sp so)).mono (by omega), rfl⟩
      · rw [forF_eq, setT2]
        simp only [E_var, E_con, E_glo, E_bin, E_neg, E_not, E_and, E_or, E_ite, E_cmp, E_ceq, E_chn, E_tup, E_lst, E_idx, E_slc, E_fld, E_call, E_meth, E_omt, E_bi, E_isi, E_iso, E_lc, L_nil, L_cons, I_val, I_rng1, rngW_int, I_zip, I_enum, T_eq, C_nil, C_asg, C_asgT, C_par, C_exp, C_ret, C_retN, C_pass, C_ifs, C_sfld, C_ssub, C_fors, bd_ok, fx_ok, sq_nx, sq_rt, oF_some, oO_some, finO_rt, finO_nx, truth_bl, cmpV_lt, cmpV_le, cmpV_gt, cmpV_ge, binV_add, binV_sub, idx2_0, idx2_1, idx_fr0, idx_fr1, biV_abs, getO_0, getO_s, set_0, set_s, reduceIte, Bool.not_true, Bool.not_false, Bool.false_eq_true, List.length_cons, List.length_nil, fits0, fits1, fits2, fits3, fits4, fits5, fits6, fits7, fits8, newL_eq, D, e1, sp_law_frac (n := n + 1) L (show (0 : Int) < 4 by decide) (show (4 : Int).natAbs < 2 ^ 3 by decide) (show 3 < 9000 by omega), sp_law_mul (n := n) L sw f4 (show 24 + 3 < 9000 by omega), sp_law_mul (n := n) L sp sg (show 24 + 3 + 10 < 9000 by omega), sp_law_sub (n := n) L sP so (show 30 + 40 * k + (24 + 3 + 10) < 9000 by omega), sp_law_sub (n := n) L sp so (show 24 + 3 + (24 + 3 + 10) < 9000 by omega), sp_law_sub (n := n) L sC (sm_sub sp so) (show 51 + 70 * k + (24 + 3 + (24 + 3 + 10) + 1) < 9000 by omega)]
      · rw [List.length_append, tl]; rfl
      · intro i x hx
        by_cases hi : i < t.length
        · rw [List.getElem?_append_left hi] at hx; exact ht i x hx
        · have hi2 : i < (t ++ [w * Rat.divInt d 4]).length := (List.getElem?_eq_some_iff.mp hx).1
          rw [List.length_append] at hi2
          have hi3 : i = t.length := by have : i < t.length + 1 := hi2; omega
          subst hi3
          rw [get_last] at hx
          cases hx
          rw [tl, gQ_of eg]
          refine ⟨Rat.mul_nonneg (Rat.le_of_lt hw) q0, ?_⟩
          have := Rat.mul_le_mul_of_nonneg_left q1 (Rat.le_of_lt hw)
          rw [Rat.mul_one] at this
          exact this
      · have e := sumT_take (f := fPure) (t := t ++ [w * Rat.divInt d 4]) (gs := gs) (k := k) (x := w * Rat.divInt d 4) (g := (w, g)) (by rw [← tl]; exact get_last) eg
        rw [List.take_of_length_le (by rw [List.length_append, tl]; exact Nat.le_refl _), show (t ++ [w * Rat.divInt d 4]).take k = t by rw [← tl]; exact List.take_left] at e
        rw [e, eP]
        show _ = _ - (_ + w * Rat.divInt d 4 * g)
        grind
      · have e := sumT_take (f := fCop) (t := t ++ [w * Rat.divInt d 4]) (gs := gs) (k := k) (x := w * Rat.divInt d 4) (g := (w, g)) (by rw [← tl]; exact get_last) eg
        rw [List.take_of_length_le (by rw [List.length_append, tl]; exact Nat.le_refl _), show (t ++ [w * Rat.divInt d 4]).take k = t by rw [← tl]; exact List.take_left] at e
        rw [e, eC]
        show _ = _ - (_ + (w * Rat.divInt d 4 - w * Rat.divInt d 4 * g))
        grind)
    ⟨hb, Fr.refl, Nat.zero_le _, none, none, none, none, [], W0 * F, W0 - W0 * F, rfl, fun i x h => by simp at h, by show _ = _ - (0 : Rat); grind, by show _ = _ - (0 : Rat); grind, s1.mono (by omega), s2.mono (by omega), rfl⟩
  obtain ⟨r', s', e, hb', f, _, x6, x7, x8, x9, t, P, C, tl, ht, eP, eC, sP, sC, er⟩ := inv
  rw [rl] at tl eP eC sP sC
  rw [show gs.take gs.length = gs from List.take_length] at eP eC
  subst er
  refine ⟨t, s', ?_, tl, ht, by rw [← eP]; exact sP.mono (by omega), hb', f⟩
  rw [← eP, ← eC, run_def hT rfl]
  show finO (denB D (.cons _ (.cons _ (.cons (.fors _ _ _) _))) [some (.ref b), some (fr W0), some (fr F), some (.ref a), none, none, none, none, none, none] s) = _
  simp only [E_var, E_con, E_glo, E_bin, E_neg, E_not, E_and, E_or, E_ite, E_cmp, E_ceq, E_chn, E_tup, E_lst, E_idx, E_slc, E_fld, E_call, E_meth, E_omt, E_bi, E_isi, E_iso, E_lc, L_nil, L_cons, I_val, I_rng1, rngW_int, I_zip, I_enum, T_eq, C_nil, C_asg, C_asgT, C_par, C_exp, C_ret, C_retN, C_pass, C_ifs, C_sfld, C_ssub, C_fors, bd_ok, fx_ok, sq_nx, sq_rt, oF_some, oO_some, finO_rt, finO_nx, truth_bl, cmpV_lt, cmpV_le, cmpV_gt, cmpV_ge, binV_add, binV_sub, idx2_0, idx2_1, idx_fr0, idx_fr1, biV_abs, getO_0, getO_s, set_0, set_s, reduceIte, Bool.not_true, Bool.not_false, Bool.false_eq_true, List.length_cons, List.length_nil, fits0, fits1, fits2, fits3, fits4, fits5, fits6, fits7, fits8, newL_eq, D, sp_law_mul (n := n) L sW sF (show 20 + 10 < 9000 by omega), sp_law_sub (n := n) L sW s1 (show 20 + (20 + 10) < 9000 by omega), src_ref ha]
  rw [e]
  by_cases hP : 0 ≤ P
  · have nP := num_neg hP
    by_cases hC : 0 ≤ C
    · have nC := num_neg hC
      rw [if_pos ⟨hP, hC⟩]
      simp only [E_var, E_con, E_glo, E_bin, E_neg, E_not, E_and, E_or, E_ite, E_cmp, E_ceq, E_chn, E_tup, E_lst, E_idx, E_slc, E_fld, E_call, E_meth, E_omt, E_bi, E_isi, E_iso, E_lc, L_nil, L_cons, I_val, I_rng1, rngW_int, I_zip, I_enum, T_eq, C_nil, C_asg, C_asgT, C_par, C_exp, C_ret, C_retN, C_pass, C_ifs, C_sfld, C_ssub, C_fors, bd_ok, fx_ok, sq_nx, sq_rt, oF_some, oO_some, finO_rt, finO_nx, truth_bl, cmpV_lt, cmpV_le, cmpV_gt, cmpV_ge, binV_add, binV_sub, idx2_0, idx2_1, idx_fr0, idx_fr1, biV_abs, getO_0, getO_s, set_0, set_s, reduceIte, Bool.not_true, Bool.not_false, Bool.false_eq_true, List.length_cons, List.length_nil, fits0, fits1, fits2, fits3, fits4, fits5, fits6, fits7, fits8, newL_eq, nP, nC, decide_false]
    · have nC : C.num < 0 := by
        refine Int.not_le.mp fun z => hC (Rat.num_nonneg.mp z)
      rw [if_neg fun z => hC z.2]
      simp only [E_var, E_con, E_glo, E_bin, E_neg, E_not, E_and, E_or, E_ite, E_cmp, E_ceq, E_chn, E_tup, E_lst, E_idx, E_slc, E_fld, E_call, E_meth, E_omt, E_bi, E_isi, E_iso, E_lc, L_nil, L_cons, I_val, I_rng1, rngW_int, I_zip, I_enum, T_eq, C_nil, C_asg, C_asgT, C_par, C_exp, C_ret, C_retN, C_pass, C_ifs, C_sfld, C_ssub, C_fors, bd_ok, fx_ok, sq_nx, sq_rt, oF_some, oO_some, finO_rt, finO_nx, truth_bl, cmpV_lt, cmpV_le, cmpV_gt, cmpV_ge, binV_add, binV_sub, idx2_0, idx2_1, idx_fr0, idx_fr1, biV_abs, getO_0, getO_s, set_0, set_s, reduceIte, Bool.not_true, Bool.not_false, Bool.false_eq_true, List.length_cons, List.length_nil, fits0, fits1, fits2, fits3, fits4, fits5, fits6, fits7, fits8, newL_eq, nP, nC, decide_false, decide_true]
  · have nP : P.num < 0 := by
      refine Int.not_le.mp fun z => hP (Rat.num_nonneg.mp z)
    rw [if_neg fun z => hP z.1]
    simp only [E_var, E_con, E_glo, E_bin, E_neg, E_not, E_and, E_or, E_ite, E_cmp, E_ceq, E_chn, E_tup, E_lst, E_idx, E_slc, E_fld, E_call, E_meth, E_omt, E_bi, E_isi, E_iso, E_lc, L_nil, L_cons, I_val, I_rng1, rngW_int, I_zip, I_enum, T_eq, C_nil, C_asg, C_asgT, C_par, C_exp, C_ret, C_retN, C_pass, C_ifs, C_sfld, C_ssub, C_fors, bd_ok, fx_ok, sq_nx, sq_rt, oF_some, oO_some, finO_rt, finO_nx, truth_bl, cmpV_lt, cmpV_le, cmpV_gt, cmpV_ge, binV_add, binV_sub, idx2_0, idx2_1, idx_fr0, idx_fr1, biV_abs, getO_0, getO_s, set_0, set_s, reduceIte, Bool.not_true, Bool.not_false, Bool.false_eq_true, List.length_cons, List.length_nil, fits0, fits1, fits2, fits3, fits4, fits5, fits6, fits7, fits8, newL_eq, nP, decide_true]
end
end Vm
set_option Elab.async false
set_option linter.all false
set_option maxRecDepth 100000
/-! The interpreter's texts of this law, printed by gen.py. -/
namespace Vt
open PySem Vm
/-- common: one other -/
def x_common : Fd := ⟨2, 2, [], (.cons (.par 0 1 (.bi .abs (.cons (.var 0) .nil)) (.bi .abs (.cons (.var 1) .nil))) (.cons (.whl (.cmp .gt (.var 1) (.con (.int 0))) (.cons (.par 0 1 (.var 1) (.bin .mod (.var 0) (.var 1))) .nil)) (.cons (.ret (.var 0)) .nil)))⟩
/-- fraction: top bottom by -/
def x_fraction : Fd := ⟨2, 3, [], (.cons (.asg 2 (.call "common" (.cons (.var 0) (.cons (.var 1) .nil)))) (.cons (.ifs (.cmp .lt (.var 1) (.con (.int 0))) (.cons (.asg 2 (.bin .sub (.con (.int 0)) (.var 2))) .nil) .nil) (.cons (.ret (.tup (.cons (.bin .fdiv (.var 0) (.var 2)) (.cons (.bin .fdiv (.var 1) (.var 2)) .nil)))) .nil)))⟩
/-- minus: one other -/
def x_minus : Fd := ⟨2, 2, [], (.cons (.ret (.call "fraction" (.cons (.bin .sub (.bin .mul (.idx (.var 0) (.con (.int 0))) (.idx (.var 1) (.con (.int 1)))) (.bin .mul (.idx (.var 1) (.con (.int 0))) (.idx (.var 0) (.con (.int 1))))) (.cons (.bin .mul (.idx (.var 0) (.con (.int 1))) (.idx (.var 1) (.con (.int 1)))) .nil)))) .nil)⟩
/-- times: one other -/
def x_times : Fd := ⟨2, 2, [], (.cons (.ret (.call "fraction" (.cons (.bin .mul (.idx (.var 0) (.con (.int 0))) (.idx (.var 1) (.con (.int 0)))) (.cons (.bin .mul (.idx (.var 0) (.con (.int 1))) (.idx (.var 1) (.con (.int 1)))) .nil)))) .nil)⟩
/-- over: one other -/
def x_over : Fd := ⟨2, 2, [], (.cons (.ret (.call "fraction" (.cons (.bin .mul (.idx (.var 0) (.con (.int 0))) (.idx (.var 1) (.con (.int 1)))) (.cons (.bin .mul (.idx (.var 0) (.con (.int 1))) (.idx (.var 1) (.con (.int 0)))) .nil)))) .nil)⟩
/-- less: one other -/
def x_less : Fd := ⟨2, 2, [], (.cons (.ret (.cmp .lt (.bin .mul (.idx (.var 0) (.con (.int 0))) (.idx (.var 1) (.con (.int 1)))) (.bin .mul (.idx (.var 1) (.con (.int 0))) (.idx (.var 0) (.con (.int 1)))))) .nil)⟩
/-- is_whole: thing -/
def x_is_whole : Fd := ⟨1, 1, [], (.cons (.ret (.and (.isi (.var 0) "int") (.not (.isi (.var 0) "bool")))) .nil)⟩
/-- is_fraction: thing -/
def x_is_fraction : Fd := ⟨1, 1, [], (.cons (.ifs (.or (.not (.isi (.var 0) "tuple")) (.or (.cmp .ne (.bi .len (.cons (.var 0) .nil)) (.con (.int 2))) (.or (.not (.call "is_whole" (.cons (.idx (.var 0) (.con (.int 0))) .nil))) (.not (.call "is_whole" (.cons (.idx (.var 0) (.con (.int 1))) .nil)))))) (.cons (.ret (.con (.bl false))) .nil) .nil) (.cons (.ret (.and (.cmp .ge (.idx (.var 0) (.con (.int 1))) (.con (.int 1))) (.cmp .eq (.call "fraction" (.cons (.idx (.var 0) (.con (.int 0))) (.cons (.idx (.var 0) (.con (.int 1))) .nil))) (.var 0)))) .nil))⟩
/-- is_weight: thing -/
def x_is_weight : Fd := ⟨1, 1, [], (.cons (.ret (.and (.call "is_fraction" (.cons (.var 0) .nil)) (.cmp .gt (.idx (.var 0) (.con (.int 0))) (.con (.int 0))))) .nil)⟩
/-- is_fineness: thing -/
def x_is_fineness : Fd := ⟨1, 1, [], (.cons (.ret (.and (.call "is_fraction" (.cons (.var 0) .nil)) (.and (.cmp .ge (.idx (.var 0) (.con (.int 0))) (.con (.int 0))) (.not (.call "less" (.cons (.glo "ONE") (.cons (.var 0) .nil))))))) .nil)⟩
/-- Gold.__init__: self weight fineness -/
def x_Gold_init : Fd := ⟨3, 3, [], (.cons (.ifs (.not (.call "is_weight" (.cons (.var 1) .nil))) (.cons (.rse "" .nil) .nil) .nil) (.cons (.ifs (.not (.call "is_fineness" (.cons (.var 2) .nil))) (.cons (.rse "" .nil) .nil) .nil) (.cons (.sfld (.var 0) "weight" (.var 1)) (.cons (.sfld (.var 0) "fineness" (.var 2)) .nil))))⟩
/-- Gold.__eq__: self other -/
def x_Gold_eq : Fd := ⟨2, 2, [], (.cons (.ret (.and (.iso (.var 1) "Gold" ["Gold"]) (.and (.cmp .eq (.fld (.var 0) "weight") (.fld (.var 1) "weight")) (.cmp .eq (.fld (.var 0) "fineness") (.fld (.var 1) "fineness"))))) .nil)⟩
/-- Gold.pure: self -/
def x_Gold_pure : Fd := ⟨1, 1, [], (.cons (.ret (.call "times" (.cons (.fld (.var 0) "weight") (.cons (.fld (.var 0) "fineness") .nil)))) .nil)⟩
/-- least_of: one other -/
def x_least_of : Fd := ⟨2, 2, [], (.cons (.ifs (.call "less" (.cons (.var 1) (.cons (.var 0) .nil))) (.cons (.ret (.var 1)) .nil) .nil) (.cons (.ret (.var 0)) .nil))⟩
/-- finest_first: stock found place gold ahead other -/
def x_finest_first : Fd := ⟨1, 6, [], (.cons (.asg 1 (.lst .nil)) (.cons (.fors (.tp [2, 3]) (.enum (.var 0)) (.cons (.asg 4 (.bi .len (.cons (.lc (.var 5) (.nm 5) (.val (.var 1)) (.not (.call "less" (.cons (.fld (.idx (.var 0) (.var 5)) "fineness") (.cons (.fld (.var 3) "fineness") .nil))))) .nil))) (.cons (.exp (.meth (.var 1) "insert" (.cons (.var 4) (.cons (.var 2) .nil)))) .nil))) (.cons (.ret (.var 1)) .nil)))⟩
/-- copper_in: gold -/
def x_copper_in : Fd := ⟨1, 1, [], (.cons (.ret (.call "minus" (.cons (.fld (.var 0) "weight") (.cons (.omt "Gold" "pure" (.var 0) .nil) .nil)))) .nil)⟩
/-- taken_of: gold pure_left copper_left found -/
def x_taken_of : Fd := ⟨3, 4, [], (.cons (.ifs (.cmp .eq (.fld (.var 0) "fineness") (.glo "NOUGHT")) (.cons (.ret (.glo "NOUGHT")) .nil) .nil) (.cons (.asg 3 (.call "least_of" (.cons (.fld (.var 0) "weight") (.cons (.call "over" (.cons (.var 1) (.cons (.fld (.var 0) "fineness") .nil))) .nil)))) (.cons (.ifs (.cmp .ne (.fld (.var 0) "fineness") (.glo "ONE")) (.cons (.asg 3 (.call "least_of" (.cons (.var 3) (.cons (.call "over" (.cons (.var 2) (.cons (.call "minus" (.cons (.glo "ONE") (.cons (.fld (.var 0) "fineness") .nil))) .nil))) .nil)))) .nil) .nil) (.cons (.ret (.var 3)) .nil))))⟩
/-- mixed: weight fineness stock pure_left copper_left parts place gold pure -/
def x_mixed : Fd := ⟨3, 9, [], (.cons (.asg 3 (.call "times" (.cons (.var 0) (.cons (.var 1) .nil)))) (.cons (.asg 4 (.call "minus" (.cons (.var 0) (.cons (.var 3) .nil)))) (.cons (.asg 5 (.bin .mul (.lst (.cons (.glo "NOUGHT") .nil)) (.bi .len (.cons (.var 2) .nil)))) (.cons (.fors (.nm 6) (.val (.call "finest_first" (.cons (.var 2) .nil))) (.cons (.asg 7 (.idx (.var 2) (.var 6))) (.cons (.ssub (.var 5) (.var 6) (.call "taken_of" (.cons (.var 7) (.cons (.var 3) (.cons (.var 4) .nil))))) (.cons (.asg 8 (.call "times" (.cons (.idx (.var 5) (.var 6)) (.cons (.fld (.var 7) "fineness") .nil)))) (.cons (.asg 3 (.call "minus" (.cons (.var 3) (.cons (.var 8) .nil)))) (.cons (.asg 4 (.call "minus" (.cons (.var 4) (.cons (.call "minus" (.cons (.idx (.var 5) (.var 6)) (.cons (.var 8) .nil))) .nil)))) .nil)))))) (.cons (.ret (.tup (.cons (.var 3) (.cons (.var 4) (.cons (.bi .tuple (.cons (.var 5) .nil)) .nil))))) .nil)))))⟩
/-- least_new: weight fineness stock paper pure found gold more -/
def x_least_new : Fd := ⟨4, 8, [], (.cons (.asg 4 (.call "times" (.cons (.var 0) (.cons (.var 1) .nil)))) (.cons (.asg 5 (.call "minus" (.cons (.var 4) (.cons (.call "times" (.cons (.var 3) (.cons (.call "minus" (.cons (.var 0) (.cons (.var 4) .nil))) .nil))) .nil)))) (.cons (.fors (.nm 6) (.val (.var 2)) (.cons (.asg 7 (.call "minus" (.cons (.omt "Gold" "pure" (.var 6) .nil) (.cons (.call "times" (.cons (.var 3) (.cons (.call "copper_in" (.cons (.var 6) .nil)) .nil))) .nil)))) (.cons (.ifs (.call "less" (.cons (.glo "NOUGHT") (.cons (.var 7) .nil))) (.cons (.asg 5 (.call "minus" (.cons (.var 5) (.cons (.var 7) .nil)))) .nil) .nil) .nil))) (.cons (.ifs (.call "less" (.cons (.var 5) (.cons (.glo "NOUGHT") .nil))) (.cons (.ret (.glo "NOUGHT")) .nil) .nil) (.cons (.ret (.var 5)) .nil)))))⟩
/-- paper_for: weight fineness stock place new copper parts gold -/
def x_paper_for : Fd := ⟨3, 8, [], (.cons (.asgT [4, 5, 6] (.call "mixed" (.cons (.var 0) (.cons (.var 1) (.cons (.var 2) .nil))))) (.cons (.ifs (.cmp .eq (.var 4) (.glo "NOUGHT")) (.cons (.ret (.glo "NOUGHT")) .nil) .nil) (.cons (.fors (.nm 3) (.val (.call "finest_first" (.cons (.var 2) .nil))) (.cons (.asg 7 (.idx (.var 2) (.var 3))) (.cons (.ifs (.cmp .ne (.idx (.var 6) (.var 3)) (.fld (.var 7) "weight")) (.cons (.ret (.call "over" (.cons (.fld (.var 7) "fineness") (.cons (.call "minus" (.cons (.glo "ONE") (.cons (.fld (.var 7) "fineness") .nil))) .nil)))) .nil) .nil) .nil))) (.cons (.ret (.glo "NOUGHT")) .nil))))⟩
/-- _law_bag: _law_script _law_k _law_cell _law_seed -/
def x__law_bag : Fd := ⟨2, 4, [], (.cons (.asg 2 (.con (.int 0))) (.cons (.ifs (.cmp .lt (.var 1) (.bi .len (.cons (.var 0) .nil))) (.cons (.asg 2 (.bin .mod (.idx (.var 0) (.var 1)) (.bin .pow (.con (.int 10)) (.con (.int 60))))) .nil) .nil) (.cons (.asg 3 (.bin .add (.con (.int 1)) (.bin .mod (.bin .add (.bin .add (.bin .add (.bin .mul (.bin .mod (.var 2) (.con (.int 2147483629))) (.con (.int 16807))) (.bin .mul (.bin .mul (.con (.int 40009)) (.var 1)) (.var 1))) (.bin .mul (.con (.int 7919)) (.var 1))) (.con (.int 1009))) (.con (.int 2147483645))))) (.cons (.ifs (.cmp .lt (.var 2) (.bin .pow (.con (.int 10)) (.con (.int 18)))) (.cons (.ret (.lst (.cons (.con (.int 0)) (.cons (.var 3) .nil)))) .nil) .nil) (.cons (.ret (.lst (.cons (.var 2) (.cons (.var 3) .nil)))) .nil)))))⟩
/-- _law_take: _law_bag_here _law_many _law_found -/
def x__law_take : Fd := ⟨2, 3, [], (.cons (.ifs (.cmp .gt (.idx (.var 0) (.con (.int 0))) (.con (.int 0))) (.cons (.asg 2 (.bin .mod (.idx (.var 0) (.con (.int 0))) (.var 1))) (.cons (.ssub (.var 0) (.con (.int 0)) (.bin .fdiv (.idx (.var 0) (.con (.int 0))) (.var 1))) (.cons (.ret (.var 2)) .nil))) .nil) (.cons (.ssub (.var 0) (.con (.int 1)) (.bin .mod (.bin .mul (.idx (.var 0) (.con (.int 1))) (.con (.int 48271))) (.con (.int 2147483647)))) (.cons (.ret (.bin .mod (.bin .fdiv (.bin .mod (.bin .mul (.bin .fdiv (.idx (.var 0) (.con (.int 1))) (.con (.int 13))) (.bin .add (.bin .mod (.idx (.var 0) (.con (.int 1))) (.con (.int 32749))) (.con (.int 17)))) (.con (.int 2147483629))) (.con (.int 32))) (.var 1))) .nil)))⟩
/-- _law_frac: _law_top _law_bottom _law_by _law_one _law_other_here -/
def x__law_frac : Fd := ⟨2, 5, [], (.cons (.par 3 4 (.var 0) (.var 1)) (.cons (.whl (.cmp .ne (.var 4) (.con (.int 0))) (.cons (.par 3 4 (.var 4) (.bin .mod (.var 3) (.var 4))) .nil)) (.cons (.asg 2 (.bin .mul (.bi .abs (.cons (.var 3) .nil)) (.bin .sub (.con (.int 1)) (.bin .mul (.con (.int 2)) (.bi .int (.cons (.cmp .lt (.var 1) (.con (.int 0))) .nil)))))) (.cons (.ret (.tup (.cons (.bin .fdiv (.var 0) (.var 2)) (.cons (.bin .fdiv (.var 1) (.var 2)) .nil)))) .nil))))⟩
/-- _law_weight: _law_bag_here _law_far -/
def x__law_weight : Fd := ⟨1, 2, [], (.cons (.asg 1 (.idx (.lst (.cons (.con (.int 12)) (.cons (.con (.int 99)) (.cons (.bin .pow (.con (.int 10)) (.con (.int 6))) .nil)))) (.call "_law_take" (.cons (.var 0) (.cons (.con (.int 3)) .nil))))) (.cons (.ret (.call "_law_frac" (.cons (.bin .add (.con (.int 1)) (.call "_law_take" (.cons (.var 0) (.cons (.var 1) .nil)))) (.cons (.bin .add (.con (.int 1)) (.call "_law_take" (.cons (.var 0) (.cons (.idx (.lst (.cons (.con (.int 1)) (.cons (.con (.int 4)) (.cons (.var 1) .nil)))) (.call "_law_take" (.cons (.var 0) (.cons (.con (.int 3)) .nil)))) .nil)))) .nil)))) .nil))⟩
/-- _law_fine: _law_bag_here _law_bottom -/
def x__law_fine : Fd := ⟨1, 2, [], (.cons (.asg 1 (.idx (.lst (.cons (.con (.int 1)) (.cons (.con (.int 4)) (.cons (.con (.int 24)) (.cons (.con (.int 1000)) .nil))))) (.call "_law_take" (.cons (.var 0) (.cons (.con (.int 4)) .nil))))) (.cons (.ret (.call "_law_frac" (.cons (.call "_law_take" (.cons (.var 0) (.cons (.bin .add (.var 1) (.con (.int 1))) .nil))) (.cons (.var 1) .nil)))) .nil))⟩
/-- _law_add: _law_one _law_other_here -/
def x__law_add : Fd := ⟨2, 2, [], (.cons (.ret (.call "_law_frac" (.cons (.bin .add (.bin .mul (.idx (.var 0) (.con (.int 0))) (.idx (.var 1) (.con (.int 1)))) (.bin .mul (.idx (.var 1) (.con (.int 0))) (.idx (.var 0) (.con (.int 1))))) (.cons (.bin .mul (.idx (.var 0) (.con (.int 1))) (.idx (.var 1) (.con (.int 1)))) .nil)))) .nil)⟩
/-- _law_sub: _law_one _law_other_here -/
def x__law_sub : Fd := ⟨2, 2, [], (.cons (.ret (.call "_law_frac" (.cons (.bin .sub (.bin .mul (.idx (.var 0) (.con (.int 0))) (.idx (.var 1) (.con (.int 1)))) (.bin .mul (.idx (.var 1) (.con (.int 0))) (.idx (.var 0) (.con (.int 1))))) (.cons (.bin .mul (.idx (.var 0) (.con (.int 1))) (.idx (.var 1) (.con (.int 1)))) .nil)))) .nil)⟩
/-- _law_mul: _law_one _law_other_here -/
def x__law_mul : Fd := ⟨2, 2, [], (.cons (.ret (.call "_law_frac" (.cons (.bin .mul (.idx (.var 0) (.con (.int 0))) (.idx (.var 1) (.con (.int 0)))) (.cons (.bin .mul (.idx (.var 0) (.con (.int 1))) (.idx (.var 1) (.con (.int 1)))) .nil)))) .nil)⟩
/-- _law_less: _law_one _law_other_here -/
def x__law_less : Fd := ⟨2, 2, [], (.cons (.ret (.cmp .lt (.bin .mul (.idx (.var 0) (.con (.int 0))) (.idx (.var 1) (.con (.int 1)))) (.bin .mul (.idx (.var 1) (.con (.int 0))) (.idx (.var 0) (.con (.int 1)))))) .nil)⟩
/-- _law_shown: _law_weight_here _law_fine_here _law_rows _law_paper _law_pure _law_found _law_heavy _law_rich _law_own _law_more -/
def x__law_shown : Fd := ⟨4, 10, [], (.cons (.asg 4 (.call "_law_mul" (.cons (.var 0) (.cons (.var 1) .nil)))) (.cons (.asg 5 (.call "_law_sub" (.cons (.var 4) (.cons (.call "_law_mul" (.cons (.var 3) (.cons (.call "_law_sub" (.cons (.var 0) (.cons (.var 4) .nil))) .nil))) .nil)))) (.cons (.fors (.tp [6, 7]) (.val (.var 2)) (.cons (.asg 8 (.call "_law_mul" (.cons (.var 6) (.cons (.var 7) .nil)))) (.cons (.asg 9 (.call "_law_sub" (.cons (.var 8) (.cons (.call "_law_mul" (.cons (.var 3) (.cons (.call "_law_sub" (.cons (.var 6) (.cons (.var 8) .nil))) .nil))) .nil)))) (.cons (.ifs (.cmp .gt (.idx (.var 9) (.con (.int 0))) (.con (.int 0))) (.cons (.asg 5 (.call "_law_sub" (.cons (.var 5) (.cons (.var 9) .nil)))) .nil) .nil) .nil)))) (.cons (.ret (.ite (.cmp .gt (.idx (.var 5) (.con (.int 0))) (.con (.int 0))) (.var 5) (.tup (.cons (.con (.int 0)) (.cons (.con (.int 1)) .nil))))) .nil))))⟩
/-- _law_fits: _law_weight_here _law_fine_here _law_rows _law_told _law_whole _law_pure _law_new _law_copper _law_parts _law_part _law_row -/
def x__law_fits : Fd := ⟨4, 11, [], (.cons (.ifs (.or (.not (.isi (.var 3) "tuple")) (.or (.cmp .ne (.bi .len (.cons (.var 3) .nil)) (.con (.int 3))) (.or (.not (.isi (.idx (.var 3) (.con (.int 2))) "tuple")) (.cmp .ne (.bi .len (.cons (.idx (.var 3) (.con (.int 2))) .nil)) (.bi .len (.cons (.var 2) .nil)))))) (.cons (.ret (.con (.bl false))) .nil) .nil) (.cons (.asgT [6, 7, 8] (.var 3)) (.cons (.asg 4 (.call "_law_add" (.cons (.var 6) (.cons (.var 7) .nil)))) (.cons (.asg 5 (.var 6)) (.cons (.fors (.tp [9, 10]) (.zip (.var 8) (.var 2)) (.cons (.ifs (.or (.cmp .lt (.idx (.var 9) (.con (.int 0))) (.con (.int 0))) (.call "_law_less" (.cons (.idx (.var 10) (.con (.int 0))) (.cons (.var 9) .nil)))) (.cons (.ret (.con (.bl false))) .nil) .nil) (.cons (.asg 4 (.call "_law_add" (.cons (.var 4) (.cons (.var 9) .nil)))) (.cons (.asg 5 (.call "_law_add" (.cons (.var 5) (.cons (.call "_law_mul" (.cons (.var 9) (.cons (.idx (.var 10) (.con (.int 1))) .nil))) .nil)))) .nil)))) (.cons (.ret (.and (.cmp .ge (.idx (.var 6) (.con (.int 0))) (.con (.int 0))) (.and (.cmp .ge (.idx (.var 7) (.con (.int 0))) (.con (.int 0))) (.and (.cmp .eq (.var 4) (.var 0)) (.cmp .eq (.var 5) (.call "_law_mul" (.cons (.var 0) (.cons (.var 1) .nil)))))))) .nil))))))⟩
/-- _law_other: _law_bag_here _law_weight_here _law_fine_here _law_rows _law_pure _law_copper _law_heavy _law_rich _law_part _law_own -/
def x__law_other : Fd := ⟨4, 10, [], (.cons (.asg 4 (.call "_law_mul" (.cons (.var 1) (.cons (.var 2) .nil)))) (.cons (.asg 5 (.call "_law_sub" (.cons (.var 1) (.cons (.var 4) .nil)))) (.cons (.fors (.tp [6, 7]) (.val (.var 3)) (.cons (.asg 8 (.call "_law_mul" (.cons (.var 6) (.cons (.call "_law_frac" (.cons (.call "_law_take" (.cons (.var 0) (.cons (.con (.int 5)) .nil))) (.cons (.con (.int 4)) .nil))) .nil)))) (.cons (.asg 9 (.call "_law_mul" (.cons (.var 8) (.cons (.var 7) .nil)))) (.cons (.asg 4 (.call "_law_sub" (.cons (.var 4) (.cons (.var 9) .nil)))) (.cons (.asg 5 (.call "_law_sub" (.cons (.var 5) (.cons (.call "_law_sub" (.cons (.var 8) (.cons (.var 9) .nil))) .nil)))) .nil))))) (.cons (.ifs (.or (.cmp .lt (.idx (.var 4) (.con (.int 0))) (.con (.int 0))) (.cmp .lt (.idx (.var 5) (.con (.int 0))) (.con (.int 0)))) (.cons (.ret (.con (.non))) .nil) .nil) (.cons (.ret (.var 4)) .nil)))))⟩
/-- law: _law_script _law_k _law_bag_here _law_weight_here _law_fine_here _law_rows _law_turn _law_stock _law_told _law_paper _law_heavy _law_other_here _law_rich -/
def x_law : Fd := ⟨1, 13, [], (.cons (.fors (.nm 1) (.rng1 (.bin .add (.bi .min (.cons (.bi .len (.cons (.var 0) .nil)) (.cons (.con (.int 20)) .nil))) (.con (.int 2)))) (.cons (.asg 2 (.call "_law_bag" (.cons (.var 0) (.cons (.var 1) .nil)))) (.cons (.asg 3 (.call "_law_weight" (.cons (.var 2) .nil))) (.cons (.asg 4 (.call "_law_fine" (.cons (.var 2) .nil))) (.cons (.asg 5 (.lst .nil)) (.cons (.fors (.nm 6) (.rng1 (.call "_law_take" (.cons (.var 2) (.cons (.idx (.lst (.cons (.con (.int 4)) (.cons (.con (.int 21)) .nil))) (.call "_law_take" (.cons (.var 2) (.cons (.con (.int 2)) .nil)))) .nil)))) (.cons (.asg 10 (.call "_law_mul" (.cons (.call "_law_weight" (.cons (.var 2) .nil)) (.cons (.call "_law_frac" (.cons (.con (.int 1)) (.cons (.bin .add (.con (.int 1)) (.call "_law_take" (.cons (.var 2) (.cons (.con (.int 9)) .nil)))) .nil))) .nil)))) (.cons (.exp (.meth (.var 5) "append" (.cons (.tup (.cons (.var 10) (.cons (.call "_law_fine" (.cons (.var 2) .nil)) .nil))) .nil))) .nil))) (.cons (.asg 7 (.lc (.call "Gold" (.cons (.var 10) (.cons (.var 12) .nil))) (.tp [10, 12]) (.val (.var 5)) (.con (.bl true)))) (.cons (.asg 8 (.call "mixed" (.cons (.var 3) (.cons (.var 4) (.cons (.bi .list (.cons (.var 7) .nil)) .nil))))) (.cons (.asg 9 (.call "paper_for" (.cons (.var 3) (.cons (.var 4) (.cons (.bi .list (.cons (.var 7) .nil)) .nil))))) (.cons (.ifs (.or (.not (.call "_law_fits" (.cons (.var 3) (.cons (.var 4) (.cons (.var 5) (.cons (.var 8) .nil)))))) (.or (.cmp .lt (.idx (.var 9) (.con (.int 0))) (.con (.int 0))) (.cmp .lt (.idx (.var 9) (.con (.int 1))) (.con (.int 1))))) (.cons (.ret (.con (.bl false))) .nil) .nil) (.cons (.ifs (.or (.cmp .ne (.call "_law_shown" (.cons (.var 3) (.cons (.var 4) (.cons (.var 5) (.cons (.var 9) .nil))))) (.idx (.var 8) (.con (.int 0)))) (.cmp .ne (.call "least_new" (.cons (.var 3) (.cons (.var 4) (.cons (.var 7) (.cons (.var 9) .nil))))) (.idx (.var 8) (.con (.int 0))))) (.cons (.ret (.con (.bl false))) .nil) .nil) (.cons (.ifs (.ceq true ["Gold"] (.var 7) (.lc (.call "Gold" (.cons (.var 10) (.cons (.var 12) .nil))) (.tp [10, 12]) (.val (.var 5)) (.con (.bl true)))) (.cons (.ret (.con (.bl false))) .nil) .nil) (.cons (.fors (.nm 6) (.rng1 (.con (.int 3))) (.cons (.asg 11 (.call "_law_other" (.cons (.var 2) (.cons (.var 3) (.cons (.var 4) (.cons (.var 5) .nil)))))) (.cons (.ifs (.and (.cmp .isn (.var 11) (.con (.non))) (.call "_law_less" (.cons (.var 11) (.cons (.idx (.var 8) (.con (.int 0))) .nil)))) (.cons (.ret (.con (.bl false))) .nil) .nil) .nil))) .nil))))))))))))) (.cons (.ret (.con (.bl true))) .nil))⟩
def fnd : List (Str × Fd) := [("common", x_common), ("fraction", x_fraction), ("minus", x_minus), ("times", x_times), ("over", x_over), ("less", x_less), ("is_whole", x_is_whole), ("is_fraction", x_is_fraction), ("is_weight", x_is_weight), ("is_fineness", x_is_fineness), ("least_of", x_least_of), ("finest_first", x_finest_first), ("copper_in", x_copper_in), ("taken_of", x_taken_of), ("mixed", x_mixed), ("least_new", x_least_new), ("paper_for", x_paper_for), ("_law_bag", x__law_bag), ("_law_take", x__law_take), ("_law_frac", x__law_frac), ("_law_weight", x__law_weight), ("_law_fine", x__law_fine), ("_law_add", x__law_add), ("_law_sub", x__law_sub), ("_law_mul", x__law_mul), ("_law_less", x__law_less), ("_law_shown", x__law_shown), ("_law_fits", x__law_fits), ("_law_other", x__law_other)]
def cld : List (Str × Fd) := [("Gold", x_Gold_init)]
def mtd : List ((Str × Str) × Fd) := [(("Gold", "__eq__"), x_Gold_eq), (("Gold", "pure"), x_Gold_pure)]
def gls : List (Str × W) := [("NOUGHT", .tup [.int 0, .int 1]), ("ONE", .tup [.int 1, .int 1])]
def bin : List Str := ["abs", "bool", "enumerate", "int", "isinstance", "len", "list", "min", "range", "tuple", "zip"]
def fll : List (Str × List Str) := [("Gold", ["weight", "fineness"])]
def eqs : List Str := ["Gold"]
def isc : List Str := ["Gold"]
def tb : Tb := tbOf fnd cld mtd gls bin eqs isc
noncomputable abbrev rn (n : Nat) := run (tabOf tb) tb.gl (flOf fll) n
theorem t_common : tabOf tb Str.empty "common" = some (.fn x_common) := by rfl
theorem t_fraction : tabOf tb Str.empty "fraction" = some (.fn x_fraction) := by rfl
theorem t_minus : tabOf tb Str.empty "minus" = some (.fn x_minus) := by rfl
theorem t_times : tabOf tb Str.empty "times" = some (.fn x_times) := by rfl
theorem t_over : tabOf tb Str.empty "over" = some (.fn x_over) := by rfl
theorem t_less : tabOf tb Str.empty "less" = some (.fn x_less) := by rfl
theorem t_is_whole : tabOf tb Str.empty "is_whole" = some (.fn x_is_whole) := by rfl
theorem t_is_fraction : tabOf tb Str.empty "is_fraction" = some (.fn x_is_fraction) := by rfl
theorem t_is_weight : tabOf tb Str.empty "is_weight" = some (.fn x_is_weight) := by rfl
theorem t_is_fineness : tabOf tb Str.empty "is_fineness" = some (.fn x_is_fineness) := by rfl
theorem t_least_of : tabOf tb Str.empty "least_of" = some (.fn x_least_of) := by rfl
theorem t_finest_first : tabOf tb Str.empty "finest_first" = some (.fn x_finest_first) := by rfl
theorem t_copper_in : tabOf tb Str.empty "copper_in" = some (.fn x_copper_in) := by rfl
theorem t_taken_of : tabOf tb Str.empty "taken_of" = some (.fn x_taken_of) := by rfl
theorem t_mixed : tabOf tb Str.empty "mixed" = some (.fn x_mixed) := by rfl
theorem t_least_new : tabOf tb Str.empty "least_new" = some (.fn x_least_new) := by rfl
theorem t_paper_for : tabOf tb Str.empty "paper_for" = some (.fn x_paper_for) := by rfl
theorem t__law_bag : tabOf tb Str.empty "_law_bag" = some (.fn x__law_bag) := by rfl
theorem t__law_take : tabOf tb Str.empty "_law_take" = some (.fn x__law_take) := by rfl
theorem t__law_frac : tabOf tb Str.empty "_law_frac" = some (.fn x__law_frac) := by rfl
theorem t__law_weight : tabOf tb Str.empty "_law_weight" = some (.fn x__law_weight) := by rfl
theorem t__law_fine : tabOf tb Str.empty "_law_fine" = some (.fn x__law_fine) := by rfl
theorem t__law_add : tabOf tb Str.empty "_law_add" = some (.fn x__law_add) := by rfl
theorem t__law_sub : tabOf tb Str.empty "_law_sub" = some (.fn x__law_sub) := by rfl
theorem t__law_mul : tabOf tb Str.empty "_law_mul" = some (.fn x__law_mul) := by rfl
theorem t__law_less : tabOf tb Str.empty "_law_less" = some (.fn x__law_less) := by rfl
theorem t__law_shown : tabOf tb Str.empty "_law_shown" = some (.fn x__law_shown) := by rfl
theorem t__law_fits : tabOf tb Str.empty "_law_fits" = some (.fn x__law_fits) := by rfl
theorem t__law_other : tabOf tb Str.empty "_law_other" = some (.fn x__law_other) := by rfl
theorem t_Gold : tabOf tb Str.empty "Gold" = some .cls := by rfl
theorem t_Gold_init : tabOf tb "Gold" "__init__" = some (.fn x_Gold_init) := by rfl
theorem t_Gold_eq : tabOf tb "Gold" "__eq__" = some (.fn x_Gold_eq) := by rfl
theorem t_Gold_pure : tabOf tb "Gold" "pure" = some (.fn x_Gold_pure) := by rfl
theorem g_NOUGHT : tb.gl "NOUGHT" = some (.tup [.int 0, .int 1]) := by rfl
theorem g_ONE : tb.gl "ONE" = some (.tup [.int 1, .int 1]) := by rfl
end Vt
set_option Elab.async false
set_option linter.all false
set_option maxRecDepth 100000
set_option maxHeartbeats 4000000
/-! The law of mixes: its own text. -/
namespace Vm
open PySem
def k05body : IB := (.cons (.asg 2 (.call "_law_bag" (.cons (.var 0) (.cons (.var 1) .nil)))) (.cons (.asg 3 (.call "_law_weight" (.cons (.var 2) .nil))) (.cons (.asg 4 (.call "_law_fine" (.cons (.var 2) .nil))) (.cons (.asg 5 (.lst .nil)) (.cons (.fors (.nm 6) (.rng1 (.call "_law_take" (.cons (.var 2) (.cons (.idx (.lst (.cons (.con (.int 4)) (.cons (.con (.int 21)) .nil))) (.call "_law_take" (.cons (.var 2) (.cons (.con (.int 2)) .nil)))) .nil)))) (.cons (.asg 10 (.call "_law_mul" (.cons (.call "_law_weight" (.cons (.var 2) .nil)) (.cons (.call "_law_frac" (.cons (.con (.int 1)) (.cons (.bin .add (.con (.int 1)) (.call "_law_take" (.cons (.var 2) (.cons (.con (.int 9)) .nil)))) .nil))) .nil)))) (.cons (.exp (.meth (.var 5) "append" (.cons (.tup (.cons (.var 10) (.cons (.call "_law_fine" (.cons (.var 2) .nil)) .nil))) .nil))) .nil))) (.cons (.asg 7 (.lc (.call "Gold" (.cons (.var 10) (.cons (.var 12) .nil))) (.tp [10, 12]) (.val (.var 5)) (.con (.bl true)))) (.cons (.asg 8 (.call "mixed" (.cons (.var 3) (.cons (.var 4) (.cons (.bi .list (.cons (.var 7) .nil)) .nil))))) (.cons (.asg 9 (.call "paper_for" (.cons (.var 3) (.cons (.var 4) (.cons (.bi .list (.cons (.var 7) .nil)) .nil))))) (.cons (.ifs (.or (.not (.call "_law_fits" (.cons (.var 3) (.cons (.var 4) (.cons (.var 5) (.cons (.var 8) .nil)))))) (.or (.cmp .lt (.idx (.var 9) (.con (.int 0))) (.con (.int 0))) (.cmp .lt (.idx (.var 9) (.con (.int 1))) (.con (.int 1))))) (.cons (.ret (.con (.bl false))) .nil) .nil) (.cons (.ifs (.or (.cmp .ne (.call "_law_shown" (.cons (.var 3) (.cons (.var 4) (.cons (.var 5) (.cons (.var 9) .nil))))) (.idx (.var 8) (.con (.int 0)))) (.cmp .ne (.call "least_new" (.cons (.var 3) (.cons (.var 4) (.cons (.var 7) (.cons (.var 9) .nil))))) (.idx (.var 8) (.con (.int 0))))) (.cons (.ret (.con (.bl false))) .nil) .nil) (.cons (.ifs (.ceq true ["Gold"] (.var 7) (.lc (.call "Gold" (.cons (.var 10) (.cons (.var 12) .nil))) (.tp [10, 12]) (.val (.var 5)) (.con (.bl true)))) (.cons (.ret (.con (.bl false))) .nil) .nil) (.cons (.fors (.nm 6) (.rng1 (.con (.int 3))) (.cons (.asg 11 (.call "_law_other" (.cons (.var 2) (.cons (.var 3) (.cons (.var 4) (.cons (.var 5) .nil)))))) (.cons (.ifs (.and (.cmp .isn (.var 11) (.con (.non))) (.call "_law_less" (.cons (.var 11) (.cons (.idx (.var 8) (.con (.int 0))) .nil)))) (.cons (.ret (.con (.bl false))) .nil) .nil) .nil))) .nil))))))))))))
def k05rows : IB := (.cons (.asg 10 (.call "_law_mul" (.cons (.call "_law_weight" (.cons (.var 2) .nil)) (.cons (.call "_law_frac" (.cons (.con (.int 1)) (.cons (.bin .add (.con (.int 1)) (.call "_law_take" (.cons (.var 2) (.cons (.con (.int 9)) .nil)))) .nil))) .nil)))) (.cons (.exp (.meth (.var 5) "append" (.cons (.tup (.cons (.var 10) (.cons (.call "_law_fine" (.cons (.var 2) .nil)) .nil))) .nil))) .nil))
def k05oth : IB := (.cons (.asg 11 (.call "_law_other" (.cons (.var 2) (.cons (.var 3) (.cons (.var 4) (.cons (.var 5) .nil)))))) (.cons (.ifs (.and (.cmp .isn (.var 11) (.con (.non))) (.call "_law_less" (.cons (.var 11) (.cons (.idx (.var 8) (.con (.int 0))) .nil)))) (.cons (.ret (.con (.bl false))) .nil) .nil) .nil))
theorem denI_rng1 {D : Wd} {e : IE} {r : Rho} {s s1 : Vs} {i : Int} (h : den D e r s = .ok (.int i) s1) : denI D (.rng1 e) r s = rngV 0 i s1 := by
  simp only [denI, h, bind_ok]
theorem bag_stock {s s' : Vs} {b a : Nat} {gs : List (Rat × Rat)} (hb : BagOk s b) (f : Fr (· = b) s s') (h : StockAt s a gs) (ne : b ≠ a) : StockAt s' a gs :=
  h.fr f fun i e o ho => by
    subst e
    obtain ⟨c, d, hc, _⟩ := hb
    rw [hc] at ho
    cases ho
    exact ⟨fun w f z => (by cases z), ne⟩
theorem mt_app {s : Vs} {a : Nat} {l : List W} {w : W} (h : s[a]? = some (.lst l)) (hl : l.length < 2 ^ 20) : mtV "append" (.ref a) [w] s = .ok .non (s.set a (.lst (l ++ [w]))) := by
  rw [mtV_append]
  show (match s[a]? with | some (.lst l) => if decide (l.length < sizeLine) then Out.ok W.non (s.set a (.lst (l ++ [w]))) else .err | _ => .err) = _
  rw [h]
  have h2 : l.length < sizeLine := by
    have : 2 ^ 20 ≤ sizeLine := by decide
    omega
  show (if decide (l.length < sizeLine) then Out.ok W.non (s.set a (.lst (l ++ [w]))) else .err) = _
  rw [decide_eq_true h2]
  rfl
theorem recv_app {s : Vs} {a : Nat} {l : List W} (h : s[a]? = some (.lst l)) : recvOk "append" (.ref a) s = true := by
  have e : tyV (.ref a) s = some "list" := by
    show (match s[a]? with | some (.lst _) => some "list" | some (.dct _) => some "dict" | some (.dtt _) => some "dict" | _ => none) = _
    rw [h]
  have m : mtTy "append" = some "list" := by decide +kernel
  unfold recvOk
  rw [m, e]
  rfl
theorem list_of {s : Vs} {a : Nat} {l : List W} (h : s[a]? = some (.lst l)) : biV .list [.ref a] s = .ok (.ref s.length) (s ++ [.lst l]) := by
  show (match lstAt s a with | some l => newL l s | none => .err) = _
  rw [lst_at h]
  rfl
theorem lcF_true {D : Wd} {e : IE} {tg : Tg} {r r' : Rho} {x : W} {s : Vs} (h : setT tg x r = some r') : lcF D e tg (.con (.bl true)) r x s = (den D e r' s).bind fun y s5 => .ok (some y) s5 := by
  unfold lcF
  rw [h]
  show (den D (.con (.bl true)) r' s).bind _ = _
  rw [den]
  rfl
theorem min_int (i j : Int) (s : Vs) : biV .min [.int i, .int j] s = .ok (.int (if j < i then j else i)) s := rfl
section
variable {T : Str → Str → Option Te} {gl : Str → Option W} {fl : Str → List Str} {n : Nat} {s : Vs}
theorem newL_ex (l : List W) (s : Vs) : ∃ s', newL l s = .ok (.ref s.length) s' ∧ s'[s.length]? = some (.lst l) ∧ Fr (fun _ => False) s s' ∧ s'.length = s.length + 1 := ⟨_, rfl, get_last, Fr.app, List.length_append⟩
theorem list_new {s : Vs} {a : Nat} {l : List W} (h : s[a]? = some (.lst l)) : biV .list [.ref a] s = newL l s := by
  show (match lstAt s a with | some l => newL l s | none => .err) = _
  rw [lst_at h]
theorem draw_at (F : DrawT T) {a b : Nat} {l : List W} (h : BagOk s b) (ha : s[a]? = some (.lst l)) (hab : a ≠ b) (hl : 0 < l.length) (hl2 : l.length < 1000) : ∃ r s', run T gl fl (n + 1) Str.empty "_law_take" [.ref b, .int l.length] s = .ok (.int r) s' ∧ (∃ x, l[r.toNat]? = some x ∧ idxV (.ref a) (.int r) s' = .ok x s') ∧ BagOk s' b ∧ Fr (· = b) s s' := by
  obtain ⟨r, s', e, r0, r1, hb, f, _⟩ := sp_take (gl := gl) (fl := fl) (n := n) F h (show (0 : Int) < l.length by omega) (by omega)
  have hr : r.toNat < l.length := by omega
  exact ⟨r, s', e, ⟨l[r.toNat], List.getElem?_eq_getElem hr, idx_ref (f.get ha hab) r0 (List.getElem?_eq_getElem hr)⟩, hb, f⟩
/-- the golds made of rows -/
theorem stock_ix (M : MixT T gl fl) {a u v : Nat} {r : Rho} (hu : u < r.length) (hv : v < r.length) (huv : v ≠ u) {gs : List (Rat × Rat)} (ha : s[a]? = some (.lst (rowsW gs))) (hq : ∀ p ∈ gs, GoldQ p) :
    ∃ (rs : List Nat) (s' : Vs), lcL (Src.ok ⟨rowsW gs, [(a, rowsW gs)]⟩) (lcF ⟨run T gl fl (n + 6), gl, fl⟩ (.call "Gold" (.cons (.var u) (.cons (.var v) .nil))) (.tp [u, v]) (.con (.bl true)) r) (rowsW gs) s = .ok (rs.map W.ref) s' ∧ Fr (fun _ => False) s s' ∧ StockAt (s' ++ [.lst (rs.map W.ref)]) s'.length gs ∧ rs.length = gs.length ∧ ∀ (i : Nat) (w f : Rat), gs[i]? = some (w, f) → ∃ r : Nat, rs[i]? = some r ∧ s'[r]? = some (goldO w f) := by
  obtain ⟨ys, s', e, f, rs, e3, e4, e6⟩ := lc_ix (ok := Src.ok ⟨rowsW gs, [(a, rowsW gs)]⟩) (f := lcF ⟨run T gl fl (n + 6), gl, fl⟩ (.call "Gold" (.cons (.var u) (.cons (.var v) .nil))) (.tp [u, v]) (.con (.bl true)) r) (items := rowsW gs) (s := s)
    (fun k acc s' => Fr (fun _ => False) s s' ∧ ∃ rs : List Nat, acc = rs.map W.ref ∧ rs.length = k ∧ ∀ (i : Nat) (w f : Rat), i < k → gs[i]? = some (w, f) → ∃ r : Nat, rs[i]? = some r ∧ s'[r]? = some (goldO w f))
    (fun k acc s' ⟨f, _⟩ p hp => by rw [List.mem_singleton.mp hp]; exact lst_at (f.get ha id))
    (fun k x acc s' hx ⟨f, rs, ea, er, hg⟩ => by
      unfold rowsW at hx
      rw [List.getElem?_map] at hx
      obtain ⟨⟨w, g⟩, eg, rfl⟩ := Option.map_eq_some_iff.mp hx
      have qg := hq (w, g) (List.mem_of_getElem? eg)
      have mk := sp_Gold (n := n) (s := s') M.toGoldT qg.2.1 qg.2.2.2.2 (by omega) (by omega) qg.1 qg.2.2.1 qg.2.2.2.1
      refine ⟨some (.ref s'.length), s' ++ [goldO w g], ?_, f.trans Fr.app, rs ++ [s'.length], ?_, ?_, ?_⟩
      · have iu : ((r.set u (some (fr w))).set v (some (fr g)))[u]? = some (some (fr w)) := by rw [List.getElem?_set_ne huv, List.getElem?_set_self hu]
        have iv : ((r.set u (some (fr w))).set v (some (fr g)))[v]? = some (some (fr g)) := List.getElem?_set_self (by rw [List.length_set]; exact hv)
        rw [lcF_eq, setT2, oO_some]
        simp only [E_var, E_con, E_glo, E_bin, E_neg, E_not, E_and, E_or, E_ite, E_cmp, E_ceq, E_chn, E_tup, E_lst, E_idx, E_slc, E_fld, E_call, E_meth, E_omt, E_bi, E_isi, E_iso, E_lc, L_nil, L_cons, I_val, I_rng1, rngW_int, I_zip, I_enum, T_eq, C_nil, C_asg, C_asgT, C_par, C_exp, C_ret, C_retN, C_pass, C_ifs, C_sfld, C_ssub, C_fors, bd_ok, fx_ok, sq_nx, sq_rt, oF_some, oO_some, finO_rt, finO_nx, truth_bl, cmpV_lt, cmpV_le, cmpV_gt, cmpV_ge, binV_add, binV_sub, idx2_0, idx2_1, idx_fr0, idx_fr1, biV_abs, getO_0, getO_s, set_0, set_s, reduceIte, Bool.not_true, Bool.not_false, Bool.false_eq_true, List.length_cons, List.length_nil, fits0, fits1, fits2, fits3, fits4, fits5, fits6, fits7, fits8, newL_eq, iu, iv, mk]
      · rw [ea]; show _ = List.map _ _; rw [List.map_append]; rfl
      · rw [List.length_append, er]; rfl
      · intro i w2 f2 hi ei
        rcases Nat.lt_or_ge i k with z | z
        · obtain ⟨rr, r1, r2⟩ := hg i w2 f2 z ei
          exact ⟨rr, by rw [List.getElem?_append_left (by omega)]; exact r1, (Fr.app (b := fun _ => False)).get r2 id⟩
        · have : i = k := by omega
          subst this
          rw [eg] at ei
          cases ei
          exact ⟨s'.length, by rw [← er]; exact get_last, get_last⟩)
    ⟨Fr.refl, [], rfl, rfl, fun i w f hi => by omega⟩
  have rl : (rowsW gs).length = gs.length := by unfold rowsW; rw [List.length_map]
  rw [rl] at e4 e6
  subst e3
  have all : ∀ (i : Nat) (w f : Rat), gs[i]? = some (w, f) → ∃ r : Nat, rs[i]? = some r ∧ s'[r]? = some (goldO w f) := fun i w f ei => e6 i w f (List.getElem?_eq_some_iff.mp ei).1 ei
  refine ⟨rs, s', e, f, ⟨rs, get_last, e4, fun i w f ei => ?_⟩, e4, all⟩
  obtain ⟨rr, r1, r2⟩ := all i w f ei
  exact ⟨rr, r1, (Fr.app (b := fun _ => False)).get r2 id⟩
/-- the rows drawn -/
theorem rows5 (F : DrawT2 T) {b a m : Nat} {x0 x1 x3 x4 x7 x8 x9 x11 x12 : Option W} (hb : BagOk s b) (ha : s[a]? = some (.lst [])) (hab : a ≠ b) (hm : m ≤ 20) {x6 x10 : Option W} :
    ∃ (gs : List (Rat × Rat)) (s' : Vs) (y6 y10 : Option W), forL (Src.ok ⟨(List.range m).map fun i => W.int (i : Nat), []⟩) (forF ⟨run T gl fl (n + 6), gl, fl⟩ (.nm 6) k05rows) ((List.range m).map fun i => W.int (i : Nat)) [x0, x1, some (.ref b), x3, x4, some (.ref a), x6, x7, x8, x9, x10, x11, x12] s = .nx [x0, x1, some (.ref b), x3, x4, some (.ref a), y6, x7, x8, x9, y10, x11, x12] s' ∧ s'[a]? = some (.lst (rowsW gs)) ∧ gs.length = m ∧ (∀ p ∈ gs, GoldQ p) ∧ BagOk s' b ∧ Fr (fun i => i = b ∨ i = a) s s' := by
  have L := F.toLawT
  obtain ⟨r', s', e, hb', f, hk, gs, y6, y10, hg, gl', hq, er⟩ := for_ixn (ok := Src.ok ⟨(List.range m).map fun i => W.int (i : Nat), []⟩) (f := forF ⟨run T gl fl (n + 6), gl, fl⟩ (.nm 6) k05rows) (items := (List.range m).map fun i => W.int (i : Nat)) (r := [x0, x1, some (.ref b), x3, x4, some (.ref a), x6, x7, x8, x9, x10, x11, x12]) (s := s)
    (fun k r s' => BagOk s' b ∧ Fr (fun i => i = b ∨ i = a) s s' ∧ k ≤ m ∧ ∃ (gs : List (Rat × Rat)) (y6 y10 : Option W), s'[a]? = some (.lst (rowsW gs)) ∧ gs.length = k ∧ (∀ p ∈ gs, GoldQ p) ∧ r = [x0, x1, some (.ref b), x3, x4, some (.ref a), y6, x7, x8, x9, y10, x11, x12])
    (fun _ _ _ _ p hp => by cases hp)
    (fun k x r s' hx ⟨hb', f, hk, gs, y6, y10, hg, gl', hq, er⟩ => by
      subst er
      have kl : k < m := by have := (List.getElem?_eq_some_iff.mp hx).1; rw [List.length_map, List.length_range] at this; exact this
      obtain ⟨w, s1, e1, w0, sw, b1, f1⟩ := sp_law_weight (gl := gl) (fl := fl) (n := n + 4) F hb'
      obtain ⟨t, s2, e2, t0, t1, b2, f2, _⟩ := sp_take (gl := gl) (fl := fl) (n := n + 5) F.toDrawT b1 (m := 9) (by omega) (by omega)
      obtain ⟨g, s3, e3, g0, g1, sg, b3, f3⟩ := sp_law_fine (gl := gl) (fl := fl) (n := n + 4) F b2
      have sq : Sm 4 (Rat.divInt 1 (1 + t)) := sm_divInt (by omega) (by decide) (by omega)
      have pq : 0 < Rat.divInt 1 (1 + t) := by
        rw [Rat.divInt_eq_div]
        have a2 : (0 : Rat) < ((1 + t : Int) : Rat) := by exact_mod_cast (show (0 : Int) < 1 + t by omega)
        rw [Rat.div_def]
        exact Rat.mul_pos (by decide) (Rat.inv_pos.mpr a2)
      have h2 : s2[a]? = some (.lst (rowsW gs)) := f2.get (f1.get hg hab) hab
      have h3 : s3[a]? = some (.lst (rowsW gs)) := f3.get h2 hab
      have f13 := (f1.trans f2).trans f3
      have rl : (rowsW gs).length = gs.length := by unfold rowsW; rw [List.length_map]
      refine ⟨_, s3.set a (.lst (rowsW gs ++ [.tup [fr (w * Rat.divInt 1 (1 + t)), fr g]])), ?_, b3.fr (Fr.set (b := (· = a)) rfl) (Ne.symm hab), (f.trans (f13.mono fun i h => .inl h)).trans (Fr.set (.inr rfl)), kl, gs ++ [(w * Rat.divInt 1 (1 + t), g)], some x, some (fr (w * Rat.divInt 1 (1 + t))), ?_, ?_, ?_, rfl⟩
      · rw [forF_eq, setT1, oF_some]
        simp only [k05rows, E_var, E_con, E_glo, E_bin, E_neg, E_not, E_and, E_or, E_ite, E_cmp, E_ceq, E_chn, E_tup, E_lst, E_idx, E_slc, E_fld, E_call, E_meth, E_omt, E_bi, E_isi, E_iso, E_lc, L_nil, L_cons, I_val, I_rng1, rngW_int, I_zip, I_enum, T_eq, C_nil, C_asg, C_asgT, C_par, C_exp, C_ret, C_retN, C_pass, C_ifs, C_sfld, C_ssub, C_fors, bd_ok, fx_ok, sq_nx, sq_rt, oF_some, oO_some, finO_rt, finO_nx, truth_bl, cmpV_lt, cmpV_le, cmpV_gt, cmpV_ge, binV_add, binV_sub, idx2_0, idx2_1, idx_fr0, idx_fr1, biV_abs, getO_0, getO_s, set_0, set_s, reduceIte, Bool.not_true, Bool.not_false, Bool.false_eq_true, List.length_cons, List.length_nil, fits0, fits1, fits2, fits3, fits4, fits5, fits6, fits7, fits8, newL_eq, e1, e2, e3, sp_law_frac (n := n + 5) L (show (0 : Int) < 1 + t by omega) (show (1 + t).natAbs < 2 ^ 4 by omega) (show 4 < 9000 by omega), sp_law_mul (n := n + 4) L sw sq (show 20 + 4 < 9000 by omega), recv_app h2, mt_app (w := .tup [fr (w * Rat.divInt 1 (1 + t)), fr g]) h3 (show (rowsW gs).length < 2 ^ 20 by rw [rl]; omega)]
      · rw [List.getElem?_set_self (lt_of_get h3)]
        unfold rowsW
        rw [List.map_append]
        rfl
      · rw [List.length_append, gl']; rfl
      · intro p hp
        rcases List.mem_append.mp hp with hp | hp
        · exact hq p hp
        · rw [List.mem_singleton.mp hp]
          exact ⟨Rat.mul_pos w0 pq, sm_mul sw sq, g0, g1, sg⟩)
    ⟨hb, Fr.refl, Nat.zero_le _, [], _, _, ha, rfl, fun p hp => (by cases hp), rfl⟩
  have ml : ((List.range m).map fun i => W.int (i : Nat)).length = m := by rw [List.length_map, List.length_range]
  rw [ml] at gl'
  subst er
  exact ⟨gs, s', y6, y10, e, hg, gl', hq, hb', f⟩
end
end Vm
set_option Elab.async false
set_option linter.all false
set_option maxRecDepth 100000
set_option maxHeartbeats 4000000
/-! The law of mixes, on the interpreter. -/
namespace Vm
open PySem
def d_Gold_eq : Fd := ⟨2, 2, [], (.cons (.ret (.and (.iso (.var 1) "Gold" ["Gold"]) (.and (.cmp .eq (.fld (.var 0) "weight") (.fld (.var 1) "weight")) (.cmp .eq (.fld (.var 0) "fineness") (.fld (.var 1) "fineness"))))) .nil)⟩
theorem iso_gold {cs : List Str} {s : Vs} {a : Nat} {w f : Rat} (h : s[a]? = some (goldO w f)) (hc : cs.contains "Gold" = true) : isoV cs "Gold" (.ref a) s = .ok (.bl true) s := by
  have e : insOf s (.ref a) = some "Gold" := by
    show (match s[a]? with | some (.ins c _) => some c | _ => none) = _
    rw [h]
    rfl
  unfold isoV
  rw [e]
  show (if cs.contains "Gold" = true then Out.ok (W.bl (decide (("Gold" : Str) = "Gold"))) s else .err) = _
  rw [if_pos hc]
  simp
section
variable {T : Str → Str → Option Te} {gl : Str → Option W} {fl : Str → List Str} {n : Nat} {s : Vs}
theorem sp_Gold_eq (hE : T "Gold" "__eq__" = some (.fn d_Gold_eq)) {a b : Nat} {w f v g : Rat} (ha : s[a]? = some (goldO w f)) (hb : s[b]? = some (goldO v g)) : run T gl fl (n + 1) "Gold" "__eq__" [.ref a, .ref b] s = .ok (.bl (decide (w = v) && decide (f = g))) s := by
  rw [run_def hE rfl]
  show finO (denB _ (.cons _ .nil) [some (.ref a), some (.ref b)] s) = _
  simp only [E_var, E_con, E_glo, E_bin, E_neg, E_not, E_and, E_or, E_ite, E_cmp, E_ceq, E_chn, E_tup, E_lst, E_idx, E_slc, E_fld, E_call, E_meth, E_omt, E_bi, E_isi, E_iso, E_lc, L_nil, L_cons, I_val, I_rng1, rngW_int, I_zip, I_enum, T_eq, C_nil, C_asg, C_asgT, C_par, C_exp, C_ret, C_retN, C_pass, C_ifs, C_sfld, C_ssub, C_fors, bd_ok, fx_ok, sq_nx, sq_rt, oF_some, oO_some, finO_rt, finO_nx, truth_bl, cmpV_lt, cmpV_le, cmpV_gt, cmpV_ge, binV_add, binV_sub, idx2_0, idx2_1, idx_fr0, idx_fr1, biV_abs, getO_0, getO_s, set_0, set_s, reduceIte, Bool.not_true, Bool.not_false, Bool.false_eq_true, List.length_cons, List.length_nil, fits0, fits1, fits2, fits3, fits4, fits5, fits6, fits7, fits8, newL_eq, iso_gold hb (show List.contains [("Gold" : Str)] "Gold" = true by decide +kernel), fld_weight ha, fld_weight hb, fld_fineness ha, fld_fineness hb, cmpV_eqF]
  by_cases h : w = v
  · simp only [h, decide_true, E_var, E_con, E_glo, E_bin, E_neg, E_not, E_and, E_or, E_ite, E_cmp, E_ceq, E_chn, E_tup, E_lst, E_idx, E_slc, E_fld, E_call, E_meth, E_omt, E_bi, E_isi, E_iso, E_lc, L_nil, L_cons, I_val, I_rng1, rngW_int, I_zip, I_enum, T_eq, C_nil, C_asg, C_asgT, C_par, C_exp, C_ret, C_retN, C_pass, C_ifs, C_sfld, C_ssub, C_fors, bd_ok, fx_ok, sq_nx, sq_rt, oF_some, oO_some, finO_rt, finO_nx, truth_bl, cmpV_lt, cmpV_le, cmpV_gt, cmpV_ge, binV_add, binV_sub, idx2_0, idx2_1, idx_fr0, idx_fr1, biV_abs, getO_0, getO_s, set_0, set_s, reduceIte, Bool.not_true, Bool.not_false, Bool.false_eq_true, List.length_cons, List.length_nil, fits0, fits1, fits2, fits3, fits4, fits5, fits6, fits7, fits8, newL_eq, Bool.true_and]
  · simp only [h, decide_false, E_var, E_con, E_glo, E_bin, E_neg, E_not, E_and, E_or, E_ite, E_cmp, E_ceq, E_chn, E_tup, E_lst, E_idx, E_slc, E_fld, E_call, E_meth, E_omt, E_bi, E_isi, E_iso, E_lc, L_nil, L_cons, I_val, I_rng1, rngW_int, I_zip, I_enum, T_eq, C_nil, C_asg, C_asgT, C_par, C_exp, C_ret, C_retN, C_pass, C_ifs, C_sfld, C_ssub, C_fors, bd_ok, fx_ok, sq_nx, sq_rt, oF_some, oO_some, finO_rt, finO_nx, truth_bl, cmpV_lt, cmpV_le, cmpV_gt, cmpV_ge, binV_add, binV_sub, idx2_0, idx2_1, idx_fr0, idx_fr1, biV_abs, getO_0, getO_s, set_0, set_s, reduceIte, Bool.not_true, Bool.not_false, Bool.false_eq_true, List.length_cons, List.length_nil, fits0, fits1, fits2, fits3, fits4, fits5, fits6, fits7, fits8, newL_eq, Bool.false_and]
theorem ref_inj : ∀ {l m : List Nat}, l.map W.ref = m.map W.ref → l = m
  | [], [], _ => rfl
  | [], _ :: _, h => by cases h
  | _ :: _, [], h => by cases h
  | a :: l, b :: m, h => by
    rw [List.map_cons, List.map_cons] at h
    injection h with h1 h2
    injection h1 with h1
    rw [h1, ref_inj h2]
theorem lstAt_ins {s : Vs} {a : Nat} {c : Str} {fs : List (Str × W)} (h : s[a]? = some (.ins c fs)) : lstAt s a = none := by
  unfold lstAt
  rw [h]
/-- two stocks of the same golds -/
theorem ne_stock (hE : T "Gold" "__eq__" = some (.fn d_Gold_eq)) {a b : Nat} {rs qs : List Nat} {gs : List (Rat × Rat)} (ha : s[a]? = some (.lst (rs.map W.ref))) (hb : s[b]? = some (.lst (qs.map W.ref))) (l1 : rs.length = gs.length) (l2 : qs.length = gs.length)
    (h1 : ∀ (i : Nat) (w f : Rat), gs[i]? = some (w, f) → ∃ r : Nat, rs[i]? = some r ∧ s[r]? = some (goldO w f)) (h2 : ∀ (i : Nat) (w f : Rat), gs[i]? = some (w, f) → ∃ r : Nat, qs[i]? = some r ∧ s[r]? = some (goldO w f)) :
    eqoV (run T gl fl (n + 1)) true ["Gold"] (.ref a) (.ref b) s = .ok (.bl false) s := by
  cases gs with
  | nil =>
    rw [List.length_nil] at l1 l2
    rw [List.length_eq_zero_iff] at l1 l2
    subst l1 l2
    have e : eqD s (.ref a) (.ref b) = some true := by
      have e1 : toD s 100000 (.ref a) = some (.list []) := by rw [toD, lst_at ha]; rfl
      have e2 : toD s 100000 (.ref b) = some (.list []) := by rw [toD, lst_at hb]; rfl
      unfold eqD
      rw [e1, e2]
      rfl
    unfold eqoV
    rw [e]
    rfl
  | cons p gs =>
    obtain ⟨r, k1, k2⟩ := h1 0 p.1 p.2 rfl
    have e : eqD s (.ref a) (.ref b) = none := by
      have e1 : toD s 100000 (.ref a) = none := by
        rw [toD, lst_at ha]
        show (toDs s 99999 (rs.map W.ref)).map _ = none
        cases rs with
        | nil => simp at k1
        | cons x rs =>
          simp at k1
          subst k1
          rw [List.map_cons, toDs, toD, lstAt_ins k2]
          rfl
      unfold eqD
      rw [e1]
    have o : ownC ["Gold"] (.ref a) (.ref b) s = none := by
      unfold ownC
      have : insOf s (.ref a) = none := by
        show (match s[a]? with | some (.ins c _) => some c | _ => none) = _
        rw [ha]
      rw [this]
    unfold eqoV
    rw [e]
    show (match ownC ["Gold"] (.ref a) (.ref b) s with | some c => _ | none => _) = _
    rw [o]
    refine (if_pos ?_).trans ?_
    · refine .inr ⟨a, b, _, _, rfl, rfl, lst_at ha, lst_at hb, by rw [List.length_map, List.length_map, l1, l2], fun i x y hx hy => ?_⟩
      rw [List.getElem?_map] at hx hy
      obtain ⟨r1, e1, rfl⟩ := Option.map_eq_some_iff.mp hx
      obtain ⟨r2, e2, rfl⟩ := Option.map_eq_some_iff.mp hy
      have il : i < (p :: gs).length := by rw [← l1]; exact (List.getElem?_eq_some_iff.mp e1).1
      obtain ⟨⟨w, f⟩, eg⟩ : ∃ q, (p :: gs)[i]? = some q := ⟨_, List.getElem?_eq_getElem il⟩
      obtain ⟨r3, f1, f2⟩ := h1 i w f eg
      obtain ⟨r4, f3, f4⟩ := h2 i w f eg
      rw [e1] at f1
      rw [e2] at f3
      cases f1
      cases f3
      refine .inl (.inl (.inl (.inr (.inr ⟨"Gold", r1, r2, _, _, List.mem_singleton_self _, rfl, rfl, f2, f4, ?_⟩))))
      rw [sp_Gold_eq hE f2 f4]
      simp
    · rfl

/-- the told paper shows just what is told as new -/
theorem shown_all {W0 F : Rat} {gs : List (Rat × Rat)} (hq : ∀ p ∈ gs, GoldQ p) (hl : gs.length ≤ 20) (hW : 0 < W0) (sW : Sm 20 W0) (h0 : 0 ≤ F) (h1 : F ≤ 1) (sF : Sm 10 F) : lnewQ W0 F gs (papQ W0 F gs) = (mixQ W0 F gs).p := by
  have d := mix_dual hq hl hW sW h0 h1 sF (p := 0) Rat.le_refl
  by_cases h : (mixQ W0 F gs).p = 0
  · have e : papQ W0 F gs = 0 := by unfold papQ; rw [if_pos h]
    have tk : gs.take gs.length = gs := List.take_length
    have v : vQ W0 F gs 0 gs.length ≤ 0 := by
      unfold vQ
      rw [tk]
      rw [h] at d
      exact d.2.1
    rw [e, h]
    unfold lnewQ
    split
    · rfl
    · rename_i z
      exact Rat.le_antisymm v (Rat.not_lt.mp z)
  · exact shown_eq hq hW h0 h1 d.1 h
/-- no drawn mix that fits wants less -/
theorem other_more {W0 F : Rat} {gs : List (Rat × Rat)} (hq : ∀ p ∈ gs, GoldQ p) (hl : gs.length ≤ 20) (hW : 0 < W0) (sW : Sm 20 W0) (h0 : 0 ≤ F) (h1 : F ≤ 1) (sF : Sm 10 F) (hp : 0 ≤ papQ W0 F gs) {t : List Rat} (tl : t.length = gs.length) (ht : ∀ (k : Nat) (x : Rat), t[k]? = some x → 0 ≤ x ∧ x ≤ (gQ gs k).1)
    (hP : 0 ≤ W0 * F - sumT fPure t gs) (hC : 0 ≤ W0 - W0 * F - sumT fCop t gs) : (mixQ W0 F gs).p ≤ W0 * F - sumT fPure t gs := by
  have o := other_q hp tl hq ht hC
  rw [← shown_all hq hl hW sW h0 h1 sF]
  have tk : gs.take gs.length = gs := List.take_length
  unfold lnewQ
  split
  · exact hP
  · unfold vQ
    rw [tk]
    exact o
theorem Fr.weaken {b c : Nat → Prop} {s s1 : Vs} (h : Fr b s s1) (k : ∀ i, i < s.length → b i → c i) : Fr c s s1 := ⟨h.len, fun i hi hb => h.at_ i hi fun z => hb (k i hi z)⟩
theorem k05_turn (M : MixT T gl fl) (F : DrawT2 T) (hS : T Str.empty "_law_shown" = some (.fn d__law_shown)) (hE : T "Gold" "__eq__" = some (.fn d_Gold_eq)) (hT : T Str.empty "_law_fits" = some (.fn d__law_fits)) (hO : T Str.empty "_law_other" = some (.fn d__law_other)) (ns : List Int) (k : Nat) (hk : k < 1000) (x2 x3 x4 x5 x6 x7 x8 x9 x10 x11 x12 : Option W) :
    ∃ s' y2 y3 y4 y5 y6 y7 y8 y9 y10 y11 y12, denB ⟨run T gl fl (n + 7), gl, fl⟩ k05body [some (.scr ns), some (.int (k : Nat)), x2, x3, x4, x5, x6, x7, x8, x9, x10, x11, x12] s = .nx [some (.scr ns), some (.int (k : Nat)), y2, y3, y4, y5, y6, y7, y8, y9, y10, y11, y12] s' := by
  let D : Wd := ⟨run T gl fl (n + 7), gl, fl⟩
  have L := F.toLawT
  obtain ⟨s1, e1, b1, f1⟩ := sp_bag (gl := gl) (fl := fl) (n := n + 6) (s := s) F.toDrawT ns k hk
  obtain ⟨W0, s2, e2, hW, sW, b2, f2⟩ := sp_law_weight (gl := gl) (fl := fl) (n := n + 5) F b1
  obtain ⟨F0, s3, e3, h0, h1, sF, b3, f3⟩ := sp_law_fine (gl := gl) (fl := fl) (n := n + 5) F b2
  have bl3 := b3.lt
  obtain ⟨s4, n4, a4, f4, l4⟩ := newL_ex [] s3
  obtain ⟨s4b, n4b, c4, f4b, l4b⟩ := newL_ex [.int 4, .int 21] s4
  have b4 : BagOk s4b s.length := b3.fr (f4.trans f4b) id
  obtain ⟨r1, s5, e5, ⟨x, hx, i5⟩, b5, f5⟩ := draw_at (gl := gl) (fl := fl) (n := n + 6) F.toDrawT b4 c4 (by omega) (by decide) (by decide)
  have far : ∃ m : Int, x = .int m ∧ 0 < m ∧ m ≤ 21 := by
    have := List.mem_of_getElem? hx
    simp only [List.mem_cons, List.not_mem_nil, or_false] at this
    rcases this with rfl | rfl
    · exact ⟨4, rfl, by decide, by decide⟩
    · exact ⟨21, rfl, by decide, by decide⟩
  obtain ⟨m, rfl, m0, m1⟩ := far
  obtain ⟨t, s6, e6, t0, t1, b6, f6, _⟩ := sp_take (gl := gl) (fl := fl) (n := n + 6) F.toDrawT b5 m0 (by omega)
  obtain ⟨mm, rfl⟩ : ∃ mm : Nat, t = mm := ⟨t.toNat, by omega⟩
  have e5' : run T gl fl (n + 7) Str.empty "_law_take" [.ref s.length, .int 2] s4b = .ok (.int r1) s5 := e5
  have ne3 : s3.length ≠ s.length := by omega
  have a6 : s6[s3.length]? = some (.lst []) := f6.get (f5.get (f4b.get a4 id) ne3) ne3
  obtain ⟨gs, s7, y6, y10, e7, a7, gl7, hq, b7, f7⟩ := rows5 (gl := gl) (fl := fl) (n := n + 1) F b6 a6 ne3 (show mm ≤ 20 by omega) (x0 := some (.scr ns)) (x1 := some (.int (k : Nat))) (x3 := some (fr W0)) (x4 := some (fr F0)) (x6 := x6) (x7 := x7) (x8 := x8) (x9 := x9) (x10 := x10) (x11 := x11) (x12 := x12)
  have hl : gs.length ≤ 20 := by omega
  have rl : (rowsW gs).length = gs.length := by unfold rowsW; rw [List.length_map]
  obtain ⟨rs, s8, e8, f8, _, rlen, gd⟩ := stock_ix (n := n + 1) M (r := [some (.scr ns), some (.int (k : Nat)), some (.ref s.length), some (fr W0), some (fr F0), some (.ref s3.length), y6, x7, x8, x9, y10, x11, x12]) (u := 10) (v := 12) (show 10 < 13 by omega) (show 12 < 13 by omega) (by omega) a7 hq
  obtain ⟨s9, n9, g9, f89, l9⟩ := newL_ex (rs.map W.ref) s8
  have h9 : ∀ (i : Nat) (w f : Rat), gs[i]? = some (w, f) → ∃ r : Nat, rs[i]? = some r ∧ s9[r]? = some (goldO w f) := fun i w f e => let ⟨r, k1, k2⟩ := gd i w f e; ⟨r, k1, f89.get k2 id⟩
  have mk : ∀ {u v : Vs}, Fr (fun _ => False) s9 u → newL (rs.map W.ref) u = .ok (.ref u.length) v → v[u.length]? = some (.lst (rs.map W.ref)) → Fr (fun _ => False) u v → StockAt v u.length gs := fun {u v} f _ hv f2 => ⟨rs, hv, rlen, fun i w g e => by
    obtain ⟨r, k1, k2⟩ := h9 i w g e
    exact ⟨r, k1, (f.trans f2).get k2 id⟩⟩
  have st9 : StockAt s9 s8.length gs := ⟨rs, g9, rlen, h9⟩
  obtain ⟨s10, n10, g10, f910, l10⟩ := newL_ex (rs.map W.ref) s9
  obtain ⟨s11, e11, f11⟩ := sp_mixed (n := n + 2) (s := s10) M (mk Fr.refl n10 g10 f910) hq hl hW sW h0 h1 sF
  have f9_11 := f910.trans f11
  obtain ⟨s12, n12, g12, f1112, l12⟩ := newL_ex (rs.map W.ref) s11
  obtain ⟨s13, e13, p0, p1, f13⟩ := sp_paper_exact (n := n + 1) (s := s12) M (mk f9_11 n12 g12 f1112) hq hl hW sW h0 h1 sF
  have f9_13 := (f9_11.trans f1112).trans f13
  have g11 : s11[s8.length]? = some (.lst (rs.map W.ref)) := f9_11.get g9 id
  have g13 : s13[s8.length]? = some (.lst (rs.map W.ref)) := f9_13.get g9 id
  have st13 : StockAt s13 s8.length gs := st9.fr0 f9_13
  have f7_13 := (f8.trans f89).trans f9_13
  have a13 : s13[s3.length]? = some (.lst (rowsW gs)) := f7_13.get a7 id
  have b13 : BagOk s13 s.length := b7.fr f7_13 id
  have ef := sp_fits (gl := gl) (fl := fl) (n := n + 4) hT L a13 hq hl hW sW h0 h1 sF
  have es := sp_shown (gl := gl) (fl := fl) (n := n + 4) hS L a13 hq hl sW sF (p1.mono (by omega))
  have el := sp_least_new (n := n + 1) M st13 hq hl sW sF (p1.mono (by omega))
  have sh := shown_all hq hl hW sW h0 h1 sF
  have pd : ¬ ((papQ W0 F0 gs).den : Int) < 1 := by have := den_pos' (papQ W0 F0 gs); omega
  obtain ⟨qs, s14, e14, f14, st14, l14, gd14⟩ := stock_ix (n := n + 1) M (r := [some (.scr ns), some (.int (k : Nat)), some (.ref s.length), some (fr W0), some (fr F0), some (.ref s3.length), y6, some (.ref s8.length), some (.tup [fr (mixQ W0 F0 gs).p, fr (mixQ W0 F0 gs).c, .tup ((mixQ W0 F0 gs).t.map fr)]), some (fr (papQ W0 F0 gs)), y10, x11, x12]) (u := 10) (v := 12) (show 10 < 13 by omega) (show 12 < 13 by omega) (by omega) a13 hq
  obtain ⟨s15, n15, g15, f1415, l15⟩ := newL_ex (qs.map W.ref) s14
  have f13_15 := f14.trans f1415
  obtain ⟨rs2, k1, k2, k3⟩ := st13.fr0 f13_15
  have hr : rs2 = rs := by
    have := f13_15.get g13 id
    rw [this] at k1
    exact (ref_inj (Ob.lst.inj (Option.some.inj k1))).symm
  subst hr
  have en := ne_stock (gl := gl) (fl := fl) (n := n + 6) (s := s15) hE k1 g15 k2 l14 k3 (fun i w f ei => by
    obtain ⟨r, q1, q2⟩ := gd14 i w f ei
    exact ⟨r, q1, f1415.get q2 id⟩)
  have a15 : s15[s3.length]? = some (.lst (rowsW gs)) := f13_15.get a13 id
  have b15 : BagOk s15 s.length := b13.fr f13_15 id
  -- other mixes
  obtain ⟨r', s', ex, ⟨_, _, z6, z11, er⟩⟩ := for_ixn (ok := Src.ok ⟨(List.range 3).map fun i => W.int (i : Nat), []⟩) (f := forF D (.nm 6) k05oth) (items := (List.range 3).map fun i => W.int (i : Nat)) (s := s15)
    (r := [some (.scr ns), some (.int (k : Nat)), some (.ref s.length), some (fr W0), some (fr F0), some (.ref s3.length), y6, some (.ref s8.length), some (.tup [fr (mixQ W0 F0 gs).p, fr (mixQ W0 F0 gs).c, .tup ((mixQ W0 F0 gs).t.map fr)]), some (fr (papQ W0 F0 gs)), y10, x11, x12])
    (fun k' r u => BagOk u s.length ∧ Fr (· = s.length) s15 u ∧ ∃ z6 z11, r = [some (.scr ns), some (.int (k : Nat)), some (.ref s.length), some (fr W0), some (fr F0), some (.ref s3.length), z6, some (.ref s8.length), some (.tup [fr (mixQ W0 F0 gs).p, fr (mixQ W0 F0 gs).c, .tup ((mixQ W0 F0 gs).t.map fr)]), some (fr (papQ W0 F0 gs)), y10, z11, x12])
    (fun _ _ _ _ p hp => by cases hp)
    (fun k' x r u hx ⟨bu, fu, z6, z11, er⟩ => by
      subst er
      obtain ⟨t, u2, eo, tl, ht, so, bu2, fu2⟩ := sp_other (gl := gl) (fl := fl) (n := n + 4) hO F.toDrawT L (fu.get a15 ne3) bu ne3 hq hl sW sF
      by_cases hc : 0 ≤ W0 * F0 - sumT fPure t gs ∧ 0 ≤ W0 - W0 * F0 - sumT fCop t gs
      · rw [if_pos hc] at eo
        have nl : ¬ (W0 * F0 - sumT fPure t gs < (mixQ W0 F0 gs).p) := Rat.not_lt.mpr (other_more hq hl hW sW h0 h1 sF p0 tl ht hc.1 hc.2)
        have sm := (mix_dual hq hl hW sW h0 h1 sF (p := 0) Rat.le_refl).2.2
        refine ⟨_, u2, ?_, bu2, fu.trans fu2, some x, some (fr (W0 * F0 - sumT fPure t gs)), rfl⟩
        rw [forF_eq, setT1, oF_some]
        have ei : cmpV .isn (fr (W0 * F0 - sumT fPure t gs)) .non u2 = .ok (.bl true) u2 := rfl
        simp only [k05oth, E_var, E_con, E_glo, E_bin, E_neg, E_not, E_and, E_or, E_ite, E_cmp, E_ceq, E_chn, E_tup, E_lst, E_idx, E_slc, E_fld, E_call, E_meth, E_omt, E_bi, E_isi, E_iso, E_lc, L_nil, L_cons, I_val, I_rng1, rngW_int, I_zip, I_enum, T_eq, C_nil, C_asg, C_asgT, C_par, C_exp, C_ret, C_retN, C_pass, C_ifs, C_sfld, C_ssub, C_fors, bd_ok, fx_ok, sq_nx, sq_rt, oF_some, oO_some, finO_rt, finO_nx, truth_bl, cmpV_lt, cmpV_le, cmpV_gt, cmpV_ge, binV_add, binV_sub, idx2_0, idx2_1, idx_fr0, idx_fr1, biV_abs, getO_0, getO_s, set_0, set_s, reduceIte, Bool.not_true, Bool.not_false, Bool.false_eq_true, List.length_cons, List.length_nil, fits0, fits1, fits2, fits3, fits4, fits5, fits6, fits7, fits8, newL_eq, D, eo, ei, idx30, sp_law_less (n := n + 6) L so sm (show 2000 + 2700 < 9000 by omega), nl, decide_false]
      · rw [if_neg hc] at eo
        refine ⟨_, u2, ?_, bu2, fu.trans fu2, some x, some .non, rfl⟩
        rw [forF_eq, setT1, oF_some]
        have ei : cmpV .isn .non .non u2 = .ok (.bl false) u2 := rfl
        simp only [k05oth, E_var, E_con, E_glo, E_bin, E_neg, E_not, E_and, E_or, E_ite, E_cmp, E_ceq, E_chn, E_tup, E_lst, E_idx, E_slc, E_fld, E_call, E_meth, E_omt, E_bi, E_isi, E_iso, E_lc, L_nil, L_cons, I_val, I_rng1, rngW_int, I_zip, I_enum, T_eq, C_nil, C_asg, C_asgT, C_par, C_exp, C_ret, C_retN, C_pass, C_ifs, C_sfld, C_ssub, C_fors, bd_ok, fx_ok, sq_nx, sq_rt, oF_some, oO_some, finO_rt, finO_nx, truth_bl, cmpV_lt, cmpV_le, cmpV_gt, cmpV_ge, binV_add, binV_sub, idx2_0, idx2_1, idx_fr0, idx_fr1, biV_abs, getO_0, getO_s, set_0, set_s, reduceIte, Bool.not_true, Bool.not_false, Bool.false_eq_true, List.length_cons, List.length_nil, fits0, fits1, fits2, fits3, fits4, fits5, fits6, fits7, fits8, newL_eq, D, eo, ei])
    ⟨b15, Fr.refl, y6, x11, rfl⟩
  refine ⟨s', some (.ref s.length), some (fr W0), some (fr F0), some (.ref s3.length), z6, some (.ref s8.length), some (.tup [fr (mixQ W0 F0 gs).p, fr (mixQ W0 F0 gs).c, .tup ((mixQ W0 F0 gs).t.map fr)]), some (fr (papQ W0 F0 gs)), y10, z11, x12, ?_⟩
  have np := num_neg p0
  have fq : fits (rowsW gs).length = true := fits20 (by rw [rl]; omega)
  have w4 : (List.range mm).length = mm := List.length_range
  unfold k05body
  simp -implicitDefEqProofs only [E_var, E_con, E_glo, E_bin, E_neg, E_not, E_and, E_or, E_ite, E_cmp, E_ceq, E_chn, E_tup, E_lst, E_idx, E_slc, E_fld, E_call, E_meth, E_omt, E_bi, E_isi, E_iso, E_lc, L_nil, L_cons, I_val, I_rng1, rngW_int, I_zip, I_enum, T_eq, C_nil, C_asg, C_asgT, C_par, C_exp, C_ret, C_retN, C_pass, C_ifs, C_sfld, C_ssub, C_fors, bd_ok, fx_ok, sq_nx, sq_rt, oF_some, oO_some, finO_rt, finO_nx, truth_bl, cmpV_lt, cmpV_le, cmpV_gt, cmpV_ge, binV_add, binV_sub, idx2_0, idx2_1, idx_fr0, idx_fr1, biV_abs, getO_0, getO_s, set_0, set_s, reduceIte, Bool.not_true, Bool.not_false, Bool.false_eq_true, List.length_cons, List.length_nil, fits0, fits1, fits2, fits3, fits4, fits5, fits6, fits7, fits8, e1, e2, e3, n4, n4b, e5', i5, e6, rng1 (show mm < 1000 by omega)]
  have e7' : forL _ (forF _ _ (.cons _ (.cons _ .nil))) _ _ _ = _ := e7
  rw [e7']
  simp -implicitDefEqProofs only [E_var, E_con, E_glo, E_bin, E_neg, E_not, E_and, E_or, E_ite, E_cmp, E_ceq, E_chn, E_tup, E_lst, E_idx, E_slc, E_fld, E_call, E_meth, E_omt, E_bi, E_isi, E_iso, E_lc, L_nil, L_cons, I_val, I_rng1, rngW_int, I_zip, I_enum, T_eq, C_nil, C_asg, C_asgT, C_par, C_exp, C_ret, C_retN, C_pass, C_ifs, C_sfld, C_ssub, C_fors, bd_ok, fx_ok, sq_nx, sq_rt, oF_some, oO_some, finO_rt, finO_nx, truth_bl, cmpV_lt, cmpV_le, cmpV_gt, cmpV_ge, binV_add, binV_sub, idx2_0, idx2_1, idx_fr0, idx_fr1, biV_abs, getO_0, getO_s, set_0, set_s, reduceIte, Bool.not_true, Bool.not_false, Bool.false_eq_true, List.length_cons, List.length_nil, fits0, fits1, fits2, fits3, fits4, fits5, fits6, fits7, fits8, src_ref a7, fq]
  have e8' : lcL _ (lcF ⟨run T gl fl (n + 7), gl, fl⟩ _ _ _ _) _ _ = _ := e8
  rw [e8']
  simp -implicitDefEqProofs only [E_var, E_con, E_glo, E_bin, E_neg, E_not, E_and, E_or, E_ite, E_cmp, E_ceq, E_chn, E_tup, E_lst, E_idx, E_slc, E_fld, E_call, E_meth, E_omt, E_bi, E_isi, E_iso, E_lc, L_nil, L_cons, I_val, I_rng1, rngW_int, I_zip, I_enum, T_eq, C_nil, C_asg, C_asgT, C_par, C_exp, C_ret, C_retN, C_pass, C_ifs, C_sfld, C_ssub, C_fors, bd_ok, fx_ok, sq_nx, sq_rt, oF_some, oO_some, finO_rt, finO_nx, truth_bl, cmpV_lt, cmpV_le, cmpV_gt, cmpV_ge, binV_add, binV_sub, idx2_0, idx2_1, idx_fr0, idx_fr1, biV_abs, getO_0, getO_s, set_0, set_s, reduceIte, Bool.not_true, Bool.not_false, Bool.false_eq_true, List.length_cons, List.length_nil, fits0, fits1, fits2, fits3, fits4, fits5, fits6, fits7, fits8, n9, list_new g9, n10, e11, list_new g11, n12, e13, ef, np, pd, decide_false, es, idx30, cmpV_neF, sh, decide_true, el, src_ref a13, fq]
  have e14' : lcL _ (lcF ⟨run T gl fl (n + 7), gl, fl⟩ _ _ _ _) _ _ = _ := e14
  rw [e14']
  have h3 := rng1 (m := 3) (by omega) s15
  rw [show ((3 : Nat) : Int) = 3 from rfl] at h3
  simp -implicitDefEqProofs only [E_var, E_con, E_glo, E_bin, E_neg, E_not, E_and, E_or, E_ite, E_cmp, E_ceq, E_chn, E_tup, E_lst, E_idx, E_slc, E_fld, E_call, E_meth, E_omt, E_bi, E_isi, E_iso, E_lc, L_nil, L_cons, I_val, I_rng1, rngW_int, I_zip, I_enum, T_eq, C_nil, C_asg, C_asgT, C_par, C_exp, C_ret, C_retN, C_pass, C_ifs, C_sfld, C_ssub, C_fors, bd_ok, fx_ok, sq_nx, sq_rt, oF_some, oO_some, finO_rt, finO_nx, truth_bl, cmpV_lt, cmpV_le, cmpV_gt, cmpV_ge, binV_add, binV_sub, idx2_0, idx2_1, idx_fr0, idx_fr1, biV_abs, getO_0, getO_s, set_0, set_s, reduceIte, Bool.not_true, Bool.not_false, Bool.false_eq_true, List.length_cons, List.length_nil, fits0, fits1, fits2, fits3, fits4, fits5, fits6, fits7, fits8, n15, en, h3]
  have ex' : forL _ (forF _ _ (.cons _ (.cons _ .nil))) _ _ _ = _ := ex
  rw [ex', sq_nx, er, C_nil]
theorem k05_law (M : MixT T gl fl) (F : DrawT2 T) (hS : T Str.empty "_law_shown" = some (.fn d__law_shown)) (hE : T "Gold" "__eq__" = some (.fn d_Gold_eq)) (hT : T Str.empty "_law_fits" = some (.fn d__law_fits)) (hO : T Str.empty "_law_other" = some (.fn d__law_other)) (ns : List Int) (hn : ns.length ≤ 63) : ∃ s', runB ⟨run T gl fl (n + 7), gl, fl⟩ Vt.x_law [.scr ns] s = .ok (.bl true) s' := by
  let D : Wd := ⟨run T gl fl (n + 7), gl, fl⟩
  generalize hm : (if ns.length < 20 then ns.length else 20) + 2 = m
  have m0 : m < 1000 := by split at hm <;> omega
  obtain ⟨r', s', e, x1, x2, x3, x4, x5, x6, x7, x8, x9, x10, x11, x12, er⟩ := for_ixn (ok := Src.ok ⟨(List.range m).map fun i => W.int (i : Nat), []⟩) (f := forF D (.nm 1) k05body) (items := (List.range m).map fun i => W.int (i : Nat)) (s := s) (r := [some (.scr ns), none, none, none, none, none, none, none, none, none, none, none, none])
    (fun _ r _ => ∃ x1 x2 x3 x4 x5 x6 x7 x8 x9 x10 x11 x12, r = [some (.scr ns), x1, x2, x3, x4, x5, x6, x7, x8, x9, x10, x11, x12]) (fun _ _ _ _ p hp => by cases hp)
    (fun k x r s1 hx ⟨x1, x2, x3, x4, x5, x6, x7, x8, x9, x10, x11, x12, er⟩ => by
      subst er
      rw [List.getElem?_map] at hx
      obtain ⟨j, ej, rfl⟩ := Option.map_eq_some_iff.mp hx
      have jm := List.mem_range.mp (List.mem_of_getElem? ej)
      obtain ⟨s2, y2, y3, y4, y5, y6, y7, y8, y9, y10, y11, y12, e⟩ := k05_turn (n := n) (s := s1) M F hS hE hT hO ns j (by omega) x2 x3 x4 x5 x6 x7 x8 x9 x10 x11 x12
      exact ⟨_, s2, e, _, _, _, _, _, _, _, _, _, _, _, _, rfl⟩)
    ⟨_, _, _, _, _, _, _, _, _, _, _, _, rfl⟩
  refine ⟨s', runB_rt ?_⟩
  have em : (if (20 : Int) < (ns.length : Int) then (20 : Int) else (ns.length : Int)) + 2 = ((m : Nat) : Int) := by
    rw [← hm]
    split <;> split <;> omega
  show denB D (.cons (.fors (.nm 1) _ k05body) (.cons _ .nil)) [some (.scr ns), none, none, none, none, none, none, none, none, none, none, none, none] s = _
  simp -implicitDefEqProofs only [E_var, E_con, E_glo, E_bin, E_neg, E_not, E_and, E_or, E_ite, E_cmp, E_ceq, E_chn, E_tup, E_lst, E_idx, E_slc, E_fld, E_call, E_meth, E_omt, E_bi, E_isi, E_iso, E_lc, L_nil, L_cons, I_val, I_rng1, rngW_int, I_zip, I_enum, T_eq, C_nil, C_asg, C_asgT, C_par, C_exp, C_ret, C_retN, C_pass, C_ifs, C_sfld, C_ssub, C_fors, bd_ok, fx_ok, sq_nx, sq_rt, oF_some, oO_some, finO_rt, finO_nx, truth_bl, cmpV_lt, cmpV_le, cmpV_gt, cmpV_ge, binV_add, binV_sub, idx2_0, idx2_1, idx_fr0, idx_fr1, biV_abs, getO_0, getO_s, set_0, set_s, reduceIte, Bool.not_true, Bool.not_false, Bool.false_eq_true, List.length_cons, List.length_nil, fits0, fits1, fits2, fits3, fits4, fits5, fits6, fits7, fits8, len_scr, min_int, em, rng1 m0]
  rw [e, sq_nx]
  simp -implicitDefEqProofs only [E_var, E_con, E_glo, E_bin, E_neg, E_not, E_and, E_or, E_ite, E_cmp, E_ceq, E_chn, E_tup, E_lst, E_idx, E_slc, E_fld, E_call, E_meth, E_omt, E_bi, E_isi, E_iso, E_lc, L_nil, L_cons, I_val, I_rng1, rngW_int, I_zip, I_enum, T_eq, C_nil, C_asg, C_asgT, C_par, C_exp, C_ret, C_retN, C_pass, C_ifs, C_sfld, C_ssub, C_fors, bd_ok, fx_ok, sq_nx, sq_rt, oF_some, oO_some, finO_rt, finO_nx, truth_bl, cmpV_lt, cmpV_le, cmpV_gt, cmpV_ge, binV_add, binV_sub, idx2_0, idx2_1, idx_fr0, idx_fr1, biV_abs, getO_0, getO_s, set_0, set_s, reduceIte, Bool.not_true, Bool.not_false, Bool.false_eq_true, List.length_cons, List.length_nil, fits0, fits1, fits2, fits3, fits4, fits5, fits6, fits7, fits8]
end
end Vm
set_option Elab.async false
set_option linter.all false
set_option maxRecDepth 100000
set_option maxHeartbeats 0
/-! The head of this law, printed by gen.py. -/
namespace Vh
open PySem PySem.Spec PyProof.Rows L2 Vm Vt
def top (i : Nat) : Stmt := PySem.Challenge.pw_goldslips_k05_whole_mixes_with_least_new.main.body.getD i (.Pass ⟨0, 0, 0, 0⟩)
def h_common : He.DefD := ⟨("common", none), "common", "common", defArgs (top 1), defBody (top 1), defScope (top 1), [], []⟩
def h_fraction : He.DefD := ⟨("fraction", none), "fraction", "fraction", defArgs (top 2), defBody (top 2), defScope (top 2), [], []⟩
def h_minus : He.DefD := ⟨("minus", none), "minus", "minus", defArgs (top 3), defBody (top 3), defScope (top 3), [], []⟩
def h_times : He.DefD := ⟨("times", none), "times", "times", defArgs (top 4), defBody (top 4), defScope (top 4), [], []⟩
def h_over : He.DefD := ⟨("over", none), "over", "over", defArgs (top 5), defBody (top 5), defScope (top 5), [], []⟩
def h_less : He.DefD := ⟨("less", none), "less", "less", defArgs (top 6), defBody (top 6), defScope (top 6), [], []⟩
def h_is_whole : He.DefD := ⟨("is_whole", none), "is_whole", "is_whole", defArgs (top 7), defBody (top 7), defScope (top 7), [], []⟩
def h_is_fraction : He.DefD := ⟨("is_fraction", none), "is_fraction", "is_fraction", defArgs (top 8), defBody (top 8), defScope (top 8), [], []⟩
def h_is_weight : He.DefD := ⟨("is_weight", none), "is_weight", "is_weight", defArgs (top 17), defBody (top 17), defScope (top 17), [], []⟩
def h_is_fineness : He.DefD := ⟨("is_fineness", none), "is_fineness", "is_fineness", defArgs (top 18), defBody (top 18), defScope (top 18), [], []⟩
def h_Gold_init : He.DefD := ⟨("Gold", some "__init__"), "__init__", "Gold.__init__", defArgs (inClass (top 19) 0), defBody (inClass (top 19) 0), defScope (inClass (top 19) 0), [], []⟩
def h_Gold_eq : He.DefD := ⟨("Gold", some "__eq__"), "__eq__", "Gold.__eq__", defArgs (inClass (top 19) 1), defBody (inClass (top 19) 1), defScope (inClass (top 19) 1), [], []⟩
def h_Gold_pure : He.DefD := ⟨("Gold", some "pure"), "pure", "Gold.pure", defArgs (inClass (top 19) 3), defBody (inClass (top 19) 3), defScope (inClass (top 19) 3), [], []⟩
def h_least_of : He.DefD := ⟨("least_of", none), "least_of", "least_of", defArgs (top 21), defBody (top 21), defScope (top 21), [], []⟩
def h_finest_first : He.DefD := ⟨("finest_first", none), "finest_first", "finest_first", defArgs (top 22), defBody (top 22), defScope (top 22), [], []⟩
def h_copper_in : He.DefD := ⟨("copper_in", none), "copper_in", "copper_in", defArgs (top 23), defBody (top 23), defScope (top 23), [], []⟩
def h_taken_of : He.DefD := ⟨("taken_of", none), "taken_of", "taken_of", defArgs (top 24), defBody (top 24), defScope (top 24), [], []⟩
def h_mixed : He.DefD := ⟨("mixed", none), "mixed", "mixed", defArgs (top 25), defBody (top 25), defScope (top 25), [], []⟩
def h_least_new : He.DefD := ⟨("least_new", none), "least_new", "least_new", defArgs (top 26), defBody (top 26), defScope (top 26), [], []⟩
def h_paper_for : He.DefD := ⟨("paper_for", none), "paper_for", "paper_for", defArgs (top 27), defBody (top 27), defScope (top 27), [], []⟩
def h__law_bag : He.DefD := ⟨("_law_bag", none), "_law_bag", "_law_bag", defArgs (top 29), defBody (top 29), defScope (top 29), [], []⟩
def h__law_take : He.DefD := ⟨("_law_take", none), "_law_take", "_law_take", defArgs (top 30), defBody (top 30), defScope (top 30), [], []⟩
def h__law_frac : He.DefD := ⟨("_law_frac", none), "_law_frac", "_law_frac", defArgs (top 31), defBody (top 31), defScope (top 31), [], []⟩
def h__law_weight : He.DefD := ⟨("_law_weight", none), "_law_weight", "_law_weight", defArgs (top 32), defBody (top 32), defScope (top 32), [], []⟩
def h__law_fine : He.DefD := ⟨("_law_fine", none), "_law_fine", "_law_fine", defArgs (top 33), defBody (top 33), defScope (top 33), [], []⟩
def h__law_add : He.DefD := ⟨("_law_add", none), "_law_add", "_law_add", defArgs (top 34), defBody (top 34), defScope (top 34), [], []⟩
def h__law_sub : He.DefD := ⟨("_law_sub", none), "_law_sub", "_law_sub", defArgs (top 35), defBody (top 35), defScope (top 35), [], []⟩
def h__law_mul : He.DefD := ⟨("_law_mul", none), "_law_mul", "_law_mul", defArgs (top 36), defBody (top 36), defScope (top 36), [], []⟩
def h__law_less : He.DefD := ⟨("_law_less", none), "_law_less", "_law_less", defArgs (top 37), defBody (top 37), defScope (top 37), [], []⟩
def h__law_shown : He.DefD := ⟨("_law_shown", none), "_law_shown", "_law_shown", defArgs (top 38), defBody (top 38), defScope (top 38), [], []⟩
def h__law_fits : He.DefD := ⟨("_law_fits", none), "_law_fits", "_law_fits", defArgs (top 39), defBody (top 39), defScope (top 39), [], []⟩
def h__law_other : He.DefD := ⟨("_law_other", none), "_law_other", "_law_other", defArgs (top 40), defBody (top 40), defScope (top 40), [], []⟩
def h_law : He.DefD := ⟨("law", none), "law", "law", defArgs (top 41), defBody (top 41), defScope (top 41), [], []⟩
def hfn : List He.DefD := [h_common, h_fraction, h_minus, h_times, h_over, h_less, h_is_whole, h_is_fraction, h_is_weight, h_is_fineness, h_Gold_init, h_Gold_eq, h_Gold_pure, h_least_of, h_finest_first, h_copper_in, h_taken_of, h_mixed, h_least_new, h_paper_for, h__law_bag, h__law_take, h__law_frac, h__law_weight, h__law_fine, h__law_add, h__law_sub, h__law_mul, h__law_less, h__law_shown, h__law_fits, h__law_other, h_law]
abbrev xF : List Str := ["common", "fraction", "minus", "times", "over", "less", "is_whole", "is_fraction", "is_weight", "is_fineness", "least_of", "finest_first", "copper_in", "taken_of", "mixed", "least_new", "paper_for", "_law_bag", "_law_take", "_law_frac", "_law_weight", "_law_fine", "_law_add", "_law_sub", "_law_mul", "_law_less", "_law_shown", "_law_fits", "_law_other", "law"]
abbrev xC : List Str := ["Gold"]
abbrev xA : List (Str × Str) := [("Gold", "weight"), ("Gold", "fineness")]
abbrev xM : List (Str × Str) := [("Gold", "__eq__"), ("Gold", "pure")]
abbrev xI : List (Str × Int) := []
abbrev xS : List (Str × Str) := []
abbrev xT : TpF := ⟨[("NOUGHT", [.int 0, .int 1]), ("ONE", [.int 1, .int 1])], [.ne "Gold", .isi "Gold", .pr "Gold" "Gold"]⟩
def fa : List He.Fa := faOf xF bin xC xA xM xI xS
abbrev R : PySem.W.OpenRow := PySem.W.OpenLaw.row PySem.Challenge.rw_goldslips_k05_whole_mixes_with_least_new
abbrev hk : PySem.W.Hook := hookV 6 fa xT hfn
def ob (s : PySem.W.SharedT) : He.AlD := obsVG 6 fa xT hfn (HandSHeadRun.getT s)
theorem ob_eq (s : PySem.W.SharedT) : ob s = hk.obs s.abs := obsVG_eq (HandSHeadRun.getT_eq s)
def names : List PySem.Str := (["common", "fraction", "minus", "times", "over", "less", "is_whole", "is_fraction", "GoldError", "MadeError", "NoGold", "NOUGHT", "ONE", "fraction_text", "is_weight", "is_fineness", "Gold", "least_of", "finest_first", "copper_in", "taken_of", "mixed", "least_new", "paper_for", "_law_bag", "_law_take", "_law_frac", "_law_weight", "_law_fine", "_law_add"] : List PySem.Str) ++ (["_law_sub", "_law_mul", "_law_less", "_law_shown", "_law_fits", "_law_other"] : List PySem.Str)
theorem run (w : World) : HandSHeadRun.RunEq R (PySem.W.view R.prog [41]) hk ob 1000000 names w := by
  intro os
  kernel_rfl
section
variable {K : Fg} {mg : Mg} {h : Heap}
theorem e_common (c : SaysV fa xT hfn K) : ∃ fd, (∀ (s : Shared) (us : List Value), us.length = ["one", "other"].length → BindsTo s fd ⟨us, []⟩ ((["one", "other"] : List Str).zip us)) ∧ PySem.W.keepIn K (.ref (He.fAd K ("common", none))) = true ∧ DefE K tb (He.fAd K ("common", none)) fd ["one", "other"] x_common := defE_none (T := tb) (ps := ["one", "other"]) (d := x_common) (N := ["one", "other"]) (fuel := 60) (dd := h_common) c (i := 0) rfl rfl ⟨rfl, rfl, rfl, by decide +kernel, rfl, by decide +kernel, by decide +kernel⟩ rfl rfl rfl (by decide +kernel) (fun _ _ _ _ _ _ us hl => match us, hl with | [_, _], _ => rfl)
theorem e_fraction (c : SaysV fa xT hfn K) : ∃ fd, (∀ (s : Shared) (us : List Value), us.length = ["top", "bottom"].length → BindsTo s fd ⟨us, []⟩ ((["top", "bottom"] : List Str).zip us)) ∧ PySem.W.keepIn K (.ref (He.fAd K ("fraction", none))) = true ∧ DefE K tb (He.fAd K ("fraction", none)) fd ["top", "bottom"] x_fraction := defE_none (T := tb) (ps := ["top", "bottom"]) (d := x_fraction) (N := ["top", "bottom", "by"]) (fuel := 60) (dd := h_fraction) c (i := 1) rfl rfl ⟨rfl, rfl, rfl, by decide +kernel, rfl, by decide +kernel, by decide +kernel⟩ rfl rfl rfl (by decide +kernel) (fun _ _ _ _ _ _ us hl => match us, hl with | [_, _], _ => rfl)
theorem e_minus (c : SaysV fa xT hfn K) : ∃ fd, (∀ (s : Shared) (us : List Value), us.length = ["one", "other"].length → BindsTo s fd ⟨us, []⟩ ((["one", "other"] : List Str).zip us)) ∧ PySem.W.keepIn K (.ref (He.fAd K ("minus", none))) = true ∧ DefE K tb (He.fAd K ("minus", none)) fd ["one", "other"] x_minus := defE_none (T := tb) (ps := ["one", "other"]) (d := x_minus) (N := ["one", "other"]) (fuel := 60) (dd := h_minus) c (i := 2) rfl rfl ⟨rfl, rfl, rfl, by decide +kernel, rfl, by decide +kernel, by decide +kernel⟩ rfl rfl rfl (by decide +kernel) (fun _ _ _ _ _ _ us hl => match us, hl with | [_, _], _ => rfl)
theorem e_times (c : SaysV fa xT hfn K) : ∃ fd, (∀ (s : Shared) (us : List Value), us.length = ["one", "other"].length → BindsTo s fd ⟨us, []⟩ ((["one", "other"] : List Str).zip us)) ∧ PySem.W.keepIn K (.ref (He.fAd K ("times", none))) = true ∧ DefE K tb (He.fAd K ("times", none)) fd ["one", "other"] x_times := defE_none (T := tb) (ps := ["one", "other"]) (d := x_times) (N := ["one", "other"]) (fuel := 60) (dd := h_times) c (i := 3) rfl rfl ⟨rfl, rfl, rfl, by decide +kernel, rfl, by decide +kernel, by decide +kernel⟩ rfl rfl rfl (by decide +kernel) (fun _ _ _ _ _ _ us hl => match us, hl with | [_, _], _ => rfl)
theorem e_over (c : SaysV fa xT hfn K) : ∃ fd, (∀ (s : Shared) (us : List Value), us.length = ["one", "other"].length → BindsTo s fd ⟨us, []⟩ ((["one", "other"] : List Str).zip us)) ∧ PySem.W.keepIn K (.ref (He.fAd K ("over", none))) = true ∧ DefE K tb (He.fAd K ("over", none)) fd ["one", "other"] x_over := defE_none (T := tb) (ps := ["one", "other"]) (d := x_over) (N := ["one", "other"]) (fuel := 60) (dd := h_over) c (i := 4) rfl rfl ⟨rfl, rfl, rfl, by decide +kernel, rfl, by decide +kernel, by decide +kernel⟩ rfl rfl rfl (by decide +kernel) (fun _ _ _ _ _ _ us hl => match us, hl with | [_, _], _ => rfl)
theorem e_less (c : SaysV fa xT hfn K) : ∃ fd, (∀ (s : Shared) (us : List Value), us.length = ["one", "other"].length → BindsTo s fd ⟨us, []⟩ ((["one", "other"] : List Str).zip us)) ∧ PySem.W.keepIn K (.ref (He.fAd K ("less", none))) = true ∧ DefE K tb (He.fAd K ("less", none)) fd ["one", "other"] x_less := defE_none (T := tb) (ps := ["one", "other"]) (d := x_less) (N := ["one", "other"]) (fuel := 60) (dd := h_less) c (i := 5) rfl rfl ⟨rfl, rfl, rfl, by decide +kernel, rfl, by decide +kernel, by decide +kernel⟩ rfl rfl rfl (by decide +kernel) (fun _ _ _ _ _ _ us hl => match us, hl with | [_, _], _ => rfl)
theorem e_is_whole (c : SaysV fa xT hfn K) : ∃ fd, (∀ (s : Shared) (us : List Value), us.length = ["thing"].length → BindsTo s fd ⟨us, []⟩ ((["thing"] : List Str).zip us)) ∧ PySem.W.keepIn K (.ref (He.fAd K ("is_whole", none))) = true ∧ DefE K tb (He.fAd K ("is_whole", none)) fd ["thing"] x_is_whole := defE_none (T := tb) (ps := ["thing"]) (d := x_is_whole) (N := ["thing"]) (fuel := 60) (dd := h_is_whole) c (i := 6) rfl rfl ⟨rfl, rfl, rfl, by decide +kernel, rfl, by decide +kernel, by decide +kernel⟩ rfl rfl rfl (by decide +kernel) (fun _ _ _ _ _ _ us hl => match us, hl with | [_], _ => rfl)
theorem e_is_fraction (c : SaysV fa xT hfn K) : ∃ fd, (∀ (s : Shared) (us : List Value), us.length = ["thing"].length → BindsTo s fd ⟨us, []⟩ ((["thing"] : List Str).zip us)) ∧ PySem.W.keepIn K (.ref (He.fAd K ("is_fraction", none))) = true ∧ DefE K tb (He.fAd K ("is_fraction", none)) fd ["thing"] x_is_fraction := defE_none (T := tb) (ps := ["thing"]) (d := x_is_fraction) (N := ["thing"]) (fuel := 60) (dd := h_is_fraction) c (i := 7) rfl rfl ⟨rfl, rfl, rfl, by decide +kernel, rfl, by decide +kernel, by decide +kernel⟩ rfl rfl rfl (by decide +kernel) (fun _ _ _ _ _ _ us hl => match us, hl with | [_], _ => rfl)
theorem e_is_weight (c : SaysV fa xT hfn K) : ∃ fd, (∀ (s : Shared) (us : List Value), us.length = ["thing"].length → BindsTo s fd ⟨us, []⟩ ((["thing"] : List Str).zip us)) ∧ PySem.W.keepIn K (.ref (He.fAd K ("is_weight", none))) = true ∧ DefE K tb (He.fAd K ("is_weight", none)) fd ["thing"] x_is_weight := defE_none (T := tb) (ps := ["thing"]) (d := x_is_weight) (N := ["thing"]) (fuel := 60) (dd := h_is_weight) c (i := 8) rfl rfl ⟨rfl, rfl, rfl, by decide +kernel, rfl, by decide +kernel, by decide +kernel⟩ rfl rfl rfl (by decide +kernel) (fun _ _ _ _ _ _ us hl => match us, hl with | [_], _ => rfl)
theorem e_is_fineness (c : SaysV fa xT hfn K) : ∃ fd, (∀ (s : Shared) (us : List Value), us.length = ["thing"].length → BindsTo s fd ⟨us, []⟩ ((["thing"] : List Str).zip us)) ∧ PySem.W.keepIn K (.ref (He.fAd K ("is_fineness", none))) = true ∧ DefE K tb (He.fAd K ("is_fineness", none)) fd ["thing"] x_is_fineness := defE_none (T := tb) (ps := ["thing"]) (d := x_is_fineness) (N := ["thing"]) (fuel := 60) (dd := h_is_fineness) c (i := 9) rfl rfl ⟨rfl, rfl, rfl, by decide +kernel, rfl, by decide +kernel, by decide +kernel⟩ rfl rfl rfl (by decide +kernel) (fun _ _ _ _ _ _ us hl => match us, hl with | [_], _ => rfl)
theorem e_Gold_init (c : SaysV fa xT hfn K) : ∃ fd, (∀ (s : Shared) (us : List Value), us.length = ["self", "weight", "fineness"].length → BindsTo s fd ⟨us, []⟩ ((["self", "weight", "fineness"] : List Str).zip us)) ∧ PySem.W.keepIn K (.ref (He.fAd K ("Gold", some "__init__"))) = true ∧ DefE K tb (He.fAd K ("Gold", some "__init__")) fd ["self", "weight", "fineness"] x_Gold_init := defE_none (T := tb) (ps := ["self", "weight", "fineness"]) (d := x_Gold_init) (N := ["self", "weight", "fineness"]) (fuel := 60) (dd := h_Gold_init) c (i := 10) rfl rfl ⟨rfl, rfl, rfl, by decide +kernel, rfl, by decide +kernel, by decide +kernel⟩ rfl rfl rfl (by decide +kernel) (fun _ _ _ _ _ _ us hl => match us, hl with | [_, _, _], _ => rfl)
theorem e_Gold_eq (c : SaysV fa xT hfn K) : ∃ fd, (∀ (s : Shared) (us : List Value), us.length = ["self", "other"].length → BindsTo s fd ⟨us, []⟩ ((["self", "other"] : List Str).zip us)) ∧ PySem.W.keepIn K (.ref (He.fAd K ("Gold", some "__eq__"))) = true ∧ DefE K tb (He.fAd K ("Gold", some "__eq__")) fd ["self", "other"] x_Gold_eq := defE_none (T := tb) (ps := ["self", "other"]) (d := x_Gold_eq) (N := ["self", "other"]) (fuel := 60) (dd := h_Gold_eq) c (i := 11) rfl rfl ⟨rfl, rfl, rfl, by decide +kernel, rfl, by decide +kernel, by decide +kernel⟩ rfl rfl rfl (by decide +kernel) (fun _ _ _ _ _ _ us hl => match us, hl with | [_, _], _ => rfl)
theorem e_Gold_pure (c : SaysV fa xT hfn K) : ∃ fd, (∀ (s : Shared) (us : List Value), us.length = ["self"].length → BindsTo s fd ⟨us, []⟩ ((["self"] : List Str).zip us)) ∧ PySem.W.keepIn K (.ref (He.fAd K ("Gold", some "pure"))) = true ∧ DefE K tb (He.fAd K ("Gold", some "pure")) fd ["self"] x_Gold_pure := defE_none (T := tb) (ps := ["self"]) (d := x_Gold_pure) (N := ["self"]) (fuel := 60) (dd := h_Gold_pure) c (i := 12) rfl rfl ⟨rfl, rfl, rfl, by decide +kernel, rfl, by decide +kernel, by decide +kernel⟩ rfl rfl rfl (by decide +kernel) (fun _ _ _ _ _ _ us hl => match us, hl with | [_], _ => rfl)
theorem e_least_of (c : SaysV fa xT hfn K) : ∃ fd, (∀ (s : Shared) (us : List Value), us.length = ["one", "other"].length → BindsTo s fd ⟨us, []⟩ ((["one", "other"] : List Str).zip us)) ∧ PySem.W.keepIn K (.ref (He.fAd K ("least_of", none))) = true ∧ DefE K tb (He.fAd K ("least_of", none)) fd ["one", "other"] x_least_of := defE_none (T := tb) (ps := ["one", "other"]) (d := x_least_of) (N := ["one", "other"]) (fuel := 60) (dd := h_least_of) c (i := 13) rfl rfl ⟨rfl, rfl, rfl, by decide +kernel, rfl, by decide +kernel, by decide +kernel⟩ rfl rfl rfl (by decide +kernel) (fun _ _ _ _ _ _ us hl => match us, hl with | [_, _], _ => rfl)
theorem e_finest_first (c : SaysV fa xT hfn K) : ∃ fd, (∀ (s : Shared) (us : List Value), us.length = ["stock"].length → BindsTo s fd ⟨us, []⟩ ((["stock"] : List Str).zip us)) ∧ PySem.W.keepIn K (.ref (He.fAd K ("finest_first", none))) = true ∧ DefE K tb (He.fAd K ("finest_first", none)) fd ["stock"] x_finest_first := defE_none (T := tb) (ps := ["stock"]) (d := x_finest_first) (N := ["stock", "found", "place", "gold", "ahead", "other"]) (fuel := 60) (dd := h_finest_first) c (i := 14) rfl rfl ⟨rfl, rfl, rfl, by decide +kernel, rfl, by decide +kernel, by decide +kernel⟩ rfl rfl rfl (by decide +kernel) (fun _ _ _ _ _ _ us hl => match us, hl with | [_], _ => rfl)
theorem e_copper_in (c : SaysV fa xT hfn K) : ∃ fd, (∀ (s : Shared) (us : List Value), us.length = ["gold"].length → BindsTo s fd ⟨us, []⟩ ((["gold"] : List Str).zip us)) ∧ PySem.W.keepIn K (.ref (He.fAd K ("copper_in", none))) = true ∧ DefE K tb (He.fAd K ("copper_in", none)) fd ["gold"] x_copper_in := defE_none (T := tb) (ps := ["gold"]) (d := x_copper_in) (N := ["gold"]) (fuel := 60) (dd := h_copper_in) c (i := 15) rfl rfl ⟨rfl, rfl, rfl, by decide +kernel, rfl, by decide +kernel, by decide +kernel⟩ rfl rfl rfl (by decide +kernel) (fun _ _ _ _ _ _ us hl => match us, hl with | [_], _ => rfl)
theorem e_taken_of (c : SaysV fa xT hfn K) : ∃ fd, (∀ (s : Shared) (us : List Value), us.length = ["gold", "pure_left", "copper_left"].length → BindsTo s fd ⟨us, []⟩ ((["gold", "pure_left", "copper_left"] : List Str).zip us)) ∧ PySem.W.keepIn K (.ref (He.fAd K ("taken_of", none))) = true ∧ DefE K tb (He.fAd K ("taken_of", none)) fd ["gold", "pure_left", "copper_left"] x_taken_of := defE_none (T := tb) (ps := ["gold", "pure_left", "copper_left"]) (d := x_taken_of) (N := ["gold", "pure_left", "copper_left", "found"]) (fuel := 60) (dd := h_taken_of) c (i := 16) rfl rfl ⟨rfl, rfl, rfl, by decide +kernel, rfl, by decide +kernel, by decide +kernel⟩ rfl rfl rfl (by decide +kernel) (fun _ _ _ _ _ _ us hl => match us, hl with | [_, _, _], _ => rfl)
theorem e_mixed (c : SaysV fa xT hfn K) : ∃ fd, (∀ (s : Shared) (us : List Value), us.length = ["weight", "fineness", "stock"].length → BindsTo s fd ⟨us, []⟩ ((["weight", "fineness", "stock"] : List Str).zip us)) ∧ PySem.W.keepIn K (.ref (He.fAd K ("mixed", none))) = true ∧ DefE K tb (He.fAd K ("mixed", none)) fd ["weight", "fineness", "stock"] x_mixed := defE_none (T := tb) (ps := ["weight", "fineness", "stock"]) (d := x_mixed) (N := ["weight", "fineness", "stock", "pure_left", "copper_left", "parts", "place", "gold", "pure"]) (fuel := 60) (dd := h_mixed) c (i := 17) rfl rfl ⟨rfl, rfl, rfl, by decide +kernel, rfl, by decide +kernel, by decide +kernel⟩ rfl rfl rfl (by decide +kernel) (fun _ _ _ _ _ _ us hl => match us, hl with | [_, _, _], _ => rfl)
theorem e_least_new (c : SaysV fa xT hfn K) : ∃ fd, (∀ (s : Shared) (us : List Value), us.length = ["weight", "fineness", "stock", "paper"].length → BindsTo s fd ⟨us, []⟩ ((["weight", "fineness", "stock", "paper"] : List Str).zip us)) ∧ PySem.W.keepIn K (.ref (He.fAd K ("least_new", none))) = true ∧ DefE K tb (He.fAd K ("least_new", none)) fd ["weight", "fineness", "stock", "paper"] x_least_new := defE_none (T := tb) (ps := ["weight", "fineness", "stock", "paper"]) (d := x_least_new) (N := ["weight", "fineness", "stock", "paper", "pure", "found", "gold", "more"]) (fuel := 60) (dd := h_least_new) c (i := 18) rfl rfl ⟨rfl, rfl, rfl, by decide +kernel, rfl, by decide +kernel, by decide +kernel⟩ rfl rfl rfl (by decide +kernel) (fun _ _ _ _ _ _ us hl => match us, hl with | [_, _, _, _], _ => rfl)
theorem e_paper_for (c : SaysV fa xT hfn K) : ∃ fd, (∀ (s : Shared) (us : List Value), us.length = ["weight", "fineness", "stock"].length → BindsTo s fd ⟨us, []⟩ ((["weight", "fineness", "stock"] : List Str).zip us)) ∧ PySem.W.keepIn K (.ref (He.fAd K ("paper_for", none))) = true ∧ DefE K tb (He.fAd K ("paper_for", none)) fd ["weight", "fineness", "stock"] x_paper_for := defE_none (T := tb) (ps := ["weight", "fineness", "stock"]) (d := x_paper_for) (N := ["weight", "fineness", "stock", "place", "new", "copper", "parts", "gold"]) (fuel := 60) (dd := h_paper_for) c (i := 19) rfl rfl ⟨rfl, rfl, rfl, by decide +kernel, rfl, by decide +kernel, by decide +kernel⟩ rfl rfl rfl (by decide +kernel) (fun _ _ _ _ _ _ us hl => match us, hl with | [_, _, _], _ => rfl)
theorem e__law_bag (c : SaysV fa xT hfn K) : ∃ fd, (∀ (s : Shared) (us : List Value), us.length = ["_law_script", "_law_k"].length → BindsTo s fd ⟨us, []⟩ ((["_law_script", "_law_k"] : List Str).zip us)) ∧ PySem.W.keepIn K (.ref (He.fAd K ("_law_bag", none))) = true ∧ DefE K tb (He.fAd K ("_law_bag", none)) fd ["_law_script", "_law_k"] x__law_bag := defE_none (T := tb) (ps := ["_law_script", "_law_k"]) (d := x__law_bag) (N := ["_law_script", "_law_k", "_law_cell", "_law_seed"]) (fuel := 60) (dd := h__law_bag) c (i := 20) rfl rfl ⟨rfl, rfl, rfl, by decide +kernel, rfl, by decide +kernel, by decide +kernel⟩ rfl rfl rfl (by decide +kernel) (fun _ _ _ _ _ _ us hl => match us, hl with | [_, _], _ => rfl)
theorem e__law_take (c : SaysV fa xT hfn K) : ∃ fd, (∀ (s : Shared) (us : List Value), us.length = ["_law_bag_here", "_law_many"].length → BindsTo s fd ⟨us, []⟩ ((["_law_bag_here", "_law_many"] : List Str).zip us)) ∧ PySem.W.keepIn K (.ref (He.fAd K ("_law_take", none))) = true ∧ DefE K tb (He.fAd K ("_law_take", none)) fd ["_law_bag_here", "_law_many"] x__law_take := defE_none (T := tb) (ps := ["_law_bag_here", "_law_many"]) (d := x__law_take) (N := ["_law_bag_here", "_law_many", "_law_found"]) (fuel := 60) (dd := h__law_take) c (i := 21) rfl rfl ⟨rfl, rfl, rfl, by decide +kernel, rfl, by decide +kernel, by decide +kernel⟩ rfl rfl rfl (by decide +kernel) (fun _ _ _ _ _ _ us hl => match us, hl with | [_, _], _ => rfl)
theorem e__law_frac (c : SaysV fa xT hfn K) : ∃ fd, (∀ (s : Shared) (us : List Value), us.length = ["_law_top", "_law_bottom"].length → BindsTo s fd ⟨us, []⟩ ((["_law_top", "_law_bottom"] : List Str).zip us)) ∧ PySem.W.keepIn K (.ref (He.fAd K ("_law_frac", none))) = true ∧ DefE K tb (He.fAd K ("_law_frac", none)) fd ["_law_top", "_law_bottom"] x__law_frac := defE_none (T := tb) (ps := ["_law_top", "_law_bottom"]) (d := x__law_frac) (N := ["_law_top", "_law_bottom", "_law_by", "_law_one", "_law_other_here"]) (fuel := 60) (dd := h__law_frac) c (i := 22) rfl rfl ⟨rfl, rfl, rfl, by decide +kernel, rfl, by decide +kernel, by decide +kernel⟩ rfl rfl rfl (by decide +kernel) (fun _ _ _ _ _ _ us hl => match us, hl with | [_, _], _ => rfl)
theorem e__law_weight (c : SaysV fa xT hfn K) : ∃ fd, (∀ (s : Shared) (us : List Value), us.length = ["_law_bag_here"].length → BindsTo s fd ⟨us, []⟩ ((["_law_bag_here"] : List Str).zip us)) ∧ PySem.W.keepIn K (.ref (He.fAd K ("_law_weight", none))) = true ∧ DefE K tb (He.fAd K ("_law_weight", none)) fd ["_law_bag_here"] x__law_weight := defE_none (T := tb) (ps := ["_law_bag_here"]) (d := x__law_weight) (N := ["_law_bag_here", "_law_far"]) (fuel := 60) (dd := h__law_weight) c (i := 23) rfl rfl ⟨rfl, rfl, rfl, by decide +kernel, rfl, by decide +kernel, by decide +kernel⟩ rfl rfl rfl (by decide +kernel) (fun _ _ _ _ _ _ us hl => match us, hl with | [_], _ => rfl)
theorem e__law_fine (c : SaysV fa xT hfn K) : ∃ fd, (∀ (s : Shared) (us : List Value), us.length = ["_law_bag_here"].length → BindsTo s fd ⟨us, []⟩ ((["_law_bag_here"] : List Str).zip us)) ∧ PySem.W.keepIn K (.ref (He.fAd K ("_law_fine", none))) = true ∧ DefE K tb (He.fAd K ("_law_fine", none)) fd ["_law_bag_here"] x__law_fine := defE_none (T := tb) (ps := ["_law_bag_here"]) (d := x__law_fine) (N := ["_law_bag_here", "_law_bottom"]) (fuel := 60) (dd := h__law_fine) c (i := 24) rfl rfl ⟨rfl, rfl, rfl, by decide +kernel, rfl, by decide +kernel, by decide +kernel⟩ rfl rfl rfl (by decide +kernel) (fun _ _ _ _ _ _ us hl => match us, hl with | [_], _ => rfl)
theorem e__law_add (c : SaysV fa xT hfn K) : ∃ fd, (∀ (s : Shared) (us : List Value), us.length = ["_law_one", "_law_other_here"].length → BindsTo s fd ⟨us, []⟩ ((["_law_one", "_law_other_here"] : List Str).zip us)) ∧ PySem.W.keepIn K (.ref (He.fAd K ("_law_add", none))) = true ∧ DefE K tb (He.fAd K ("_law_add", none)) fd ["_law_one", "_law_other_here"] x__law_add := defE_none (T := tb) (ps := ["_law_one", "_law_other_here"]) (d := x__law_add) (N := ["_law_one", "_law_other_here"]) (fuel := 60) (dd := h__law_add) c (i := 25) rfl rfl ⟨rfl, rfl, rfl, by decide +kernel, rfl, by decide +kernel, by decide +kernel⟩ rfl rfl rfl (by decide +kernel) (fun _ _ _ _ _ _ us hl => match us, hl with | [_, _], _ => rfl)
theorem e__law_sub (c : SaysV fa xT hfn K) : ∃ fd, (∀ (s : Shared) (us : List Value), us.length = ["_law_one", "_law_other_here"].length → BindsTo s fd ⟨us, []⟩ ((["_law_one", "_law_other_here"] : List Str).zip us)) ∧ PySem.W.keepIn K (.ref (He.fAd K ("_law_sub", none))) = true ∧ DefE K tb (He.fAd K ("_law_sub", none)) fd ["_law_one", "_law_other_here"] x__law_sub := defE_none (T := tb) (ps := ["_law_one", "_law_other_here"]) (d := x__law_sub) (N := ["_law_one", "_law_other_here"]) (fuel := 60) (dd := h__law_sub) c (i := 26) rfl rfl ⟨rfl, rfl, rfl, by decide +kernel, rfl, by decide +kernel, by decide +kernel⟩ rfl rfl rfl (by decide +kernel) (fun _ _ _ _ _ _ us hl => match us, hl with | [_, _], _ => rfl)
theorem e__law_mul (c : SaysV fa xT hfn K) : ∃ fd, (∀ (s : Shared) (us : List Value), us.length = ["_law_one", "_law_other_here"].length → BindsTo s fd ⟨us, []⟩ ((["_law_one", "_law_other_here"] : List Str).zip us)) ∧ PySem.W.keepIn K (.ref (He.fAd K ("_law_mul", none))) = true ∧ DefE K tb (He.fAd K ("_law_mul", none)) fd ["_law_one", "_law_other_here"] x__law_mul := defE_none (T := tb) (ps := ["_law_one", "_law_other_here"]) (d := x__law_mul) (N := ["_law_one", "_law_other_here"]) (fuel := 60) (dd := h__law_mul) c (i := 27) rfl rfl ⟨rfl, rfl, rfl, by decide +kernel, rfl, by decide +kernel, by decide +kernel⟩ rfl rfl rfl (by decide +kernel) (fun _ _ _ _ _ _ us hl => match us, hl with | [_, _], _ => rfl)
theorem e__law_less (c : SaysV fa xT hfn K) : ∃ fd, (∀ (s : Shared) (us : List Value), us.length = ["_law_one", "_law_other_here"].length → BindsTo s fd ⟨us, []⟩ ((["_law_one", "_law_other_here"] : List Str).zip us)) ∧ PySem.W.keepIn K (.ref (He.fAd K ("_law_less", none))) = true ∧ DefE K tb (He.fAd K ("_law_less", none)) fd ["_law_one", "_law_other_here"] x__law_less := defE_none (T := tb) (ps := ["_law_one", "_law_other_here"]) (d := x__law_less) (N := ["_law_one", "_law_other_here"]) (fuel := 60) (dd := h__law_less) c (i := 28) rfl rfl ⟨rfl, rfl, rfl, by decide +kernel, rfl, by decide +kernel, by decide +kernel⟩ rfl rfl rfl (by decide +kernel) (fun _ _ _ _ _ _ us hl => match us, hl with | [_, _], _ => rfl)
theorem e__law_shown (c : SaysV fa xT hfn K) : ∃ fd, (∀ (s : Shared) (us : List Value), us.length = ["_law_weight_here", "_law_fine_here", "_law_rows", "_law_paper"].length → BindsTo s fd ⟨us, []⟩ ((["_law_weight_here", "_law_fine_here", "_law_rows", "_law_paper"] : List Str).zip us)) ∧ PySem.W.keepIn K (.ref (He.fAd K ("_law_shown", none))) = true ∧ DefE K tb (He.fAd K ("_law_shown", none)) fd ["_law_weight_here", "_law_fine_here", "_law_rows", "_law_paper"] x__law_shown := defE_none (T := tb) (ps := ["_law_weight_here", "_law_fine_here", "_law_rows", "_law_paper"]) (d := x__law_shown) (N := ["_law_weight_here", "_law_fine_here", "_law_rows", "_law_paper", "_law_pure", "_law_found", "_law_heavy", "_law_rich", "_law_own", "_law_more"]) (fuel := 60) (dd := h__law_shown) c (i := 29) rfl rfl ⟨rfl, rfl, rfl, by decide +kernel, rfl, by decide +kernel, by decide +kernel⟩ rfl rfl rfl (by decide +kernel) (fun _ _ _ _ _ _ us hl => match us, hl with | [_, _, _, _], _ => rfl)
theorem e__law_fits (c : SaysV fa xT hfn K) : ∃ fd, (∀ (s : Shared) (us : List Value), us.length = ["_law_weight_here", "_law_fine_here", "_law_rows", "_law_told"].length → BindsTo s fd ⟨us, []⟩ ((["_law_weight_here", "_law_fine_here", "_law_rows", "_law_told"] : List Str).zip us)) ∧ PySem.W.keepIn K (.ref (He.fAd K ("_law_fits", none))) = true ∧ DefE K tb (He.fAd K ("_law_fits", none)) fd ["_law_weight_here", "_law_fine_here", "_law_rows", "_law_told"] x__law_fits := defE_none (T := tb) (ps := ["_law_weight_here", "_law_fine_here", "_law_rows", "_law_told"]) (d := x__law_fits) (N := ["_law_weight_here", "_law_fine_here", "_law_rows", "_law_told", "_law_whole", "_law_pure", "_law_new", "_law_copper", "_law_parts", "_law_part", "_law_row"]) (fuel := 60) (dd := h__law_fits) c (i := 30) rfl rfl ⟨rfl, rfl, rfl, by decide +kernel, rfl, by decide +kernel, by decide +kernel⟩ rfl rfl rfl (by decide +kernel) (fun _ _ _ _ _ _ us hl => match us, hl with | [_, _, _, _], _ => rfl)
theorem e__law_other (c : SaysV fa xT hfn K) : ∃ fd, (∀ (s : Shared) (us : List Value), us.length = ["_law_bag_here", "_law_weight_here", "_law_fine_here", "_law_rows"].length → BindsTo s fd ⟨us, []⟩ ((["_law_bag_here", "_law_weight_here", "_law_fine_here", "_law_rows"] : List Str).zip us)) ∧ PySem.W.keepIn K (.ref (He.fAd K ("_law_other", none))) = true ∧ DefE K tb (He.fAd K ("_law_other", none)) fd ["_law_bag_here", "_law_weight_here", "_law_fine_here", "_law_rows"] x__law_other := defE_none (T := tb) (ps := ["_law_bag_here", "_law_weight_here", "_law_fine_here", "_law_rows"]) (d := x__law_other) (N := ["_law_bag_here", "_law_weight_here", "_law_fine_here", "_law_rows", "_law_pure", "_law_copper", "_law_heavy", "_law_rich", "_law_part", "_law_own"]) (fuel := 60) (dd := h__law_other) c (i := 31) rfl rfl ⟨rfl, rfl, rfl, by decide +kernel, rfl, by decide +kernel, by decide +kernel⟩ rfl rfl rfl (by decide +kernel) (fun _ _ _ _ _ _ us hl => match us, hl with | [_, _, _, _], _ => rfl)
theorem e_law (c : SaysV fa xT hfn K) : ∃ fd, (∀ (s : Shared) (us : List Value), us.length = ["_law_script"].length → BindsTo s fd ⟨us, []⟩ ((["_law_script"] : List Str).zip us)) ∧ PySem.W.keepIn K (.ref (He.fAd K ("law", none))) = true ∧ DefE K tb (He.fAd K ("law", none)) fd ["_law_script"] x_law := defE_none (T := tb) (ps := ["_law_script"]) (d := x_law) (N := ["_law_script", "_law_k", "_law_bag_here", "_law_weight_here", "_law_fine_here", "_law_rows", "_law_turn", "_law_stock", "_law_told", "_law_paper", "_law_heavy", "_law_other_here", "_law_rich"]) (fuel := 60) (dd := h_law) c (i := 32) rfl rfl ⟨rfl, rfl, rfl, by decide +kernel, rfl, by decide +kernel, by decide +kernel⟩ rfl rfl rfl (by decide +kernel) (fun _ _ _ _ _ _ us hl => match us, hl with | [_], _ => rfl)
theorem mod (X : K.In h) (G : h.Ns mainGlobals mg) (c : SaysV fa xT hfn K) : ModF K mg tb (flOf fll) := by
  refine mod_of (fnd := fnd) (cld := cld) (mtd := mtd) (gls := gls) (fll := fll) X G c rfl ?_ ?_ ?_ ?_ ?_ ?_ ?_
  · exact allc (fn_ent X G (c.fact (fa_glo (by decide +kernel))) (e_common c)) (allc (fn_ent X G (c.fact (fa_glo (by decide +kernel))) (e_fraction c)) (allc (fn_ent X G (c.fact (fa_glo (by decide +kernel))) (e_minus c)) (allc (fn_ent X G (c.fact (fa_glo (by decide +kernel))) (e_times c)) (allc (fn_ent X G (c.fact (fa_glo (by decide +kernel))) (e_over c)) (allc (fn_ent X G (c.fact (fa_glo (by decide +kernel))) (e_less c)) (allc (fn_ent X G (c.fact (fa_glo (by decide +kernel))) (e_is_whole c)) (allc (fn_ent X G (c.fact (fa_glo (by decide +kernel))) (e_is_fraction c)) (allc (fn_ent X G (c.fact (fa_glo (by decide +kernel))) (e_is_weight c)) (allc (fn_ent X G (c.fact (fa_glo (by decide +kernel))) (e_is_fineness c)) (allc (fn_ent X G (c.fact (fa_glo (by decide +kernel))) (e_least_of c)) (allc (fn_ent X G (c.fact (fa_glo (by decide +kernel))) (e_finest_first c)) (allc (fn_ent X G (c.fact (fa_glo (by decide +kernel))) (e_copper_in c)) (allc (fn_ent X G (c.fact (fa_glo (by decide +kernel))) (e_taken_of c)) (allc (fn_ent X G (c.fact (fa_glo (by decide +kernel))) (e_mixed c)) (allc (fn_ent X G (c.fact (fa_glo (by decide +kernel))) (e_least_new c)) (allc (fn_ent X G (c.fact (fa_glo (by decide +kernel))) (e_paper_for c)) (allc (fn_ent X G (c.fact (fa_glo (by decide +kernel))) (e__law_bag c)) (allc (fn_ent X G (c.fact (fa_glo (by decide +kernel))) (e__law_take c)) (allc (fn_ent X G (c.fact (fa_glo (by decide +kernel))) (e__law_frac c)) (allc (fn_ent X G (c.fact (fa_glo (by decide +kernel))) (e__law_weight c)) (allc (fn_ent X G (c.fact (fa_glo (by decide +kernel))) (e__law_fine c)) (allc (fn_ent X G (c.fact (fa_glo (by decide +kernel))) (e__law_add c)) (allc (fn_ent X G (c.fact (fa_glo (by decide +kernel))) (e__law_sub c)) (allc (fn_ent X G (c.fact (fa_glo (by decide +kernel))) (e__law_mul c)) (allc (fn_ent X G (c.fact (fa_glo (by decide +kernel))) (e__law_less c)) (allc (fn_ent X G (c.fact (fa_glo (by decide +kernel))) (e__law_shown c)) (allc (fn_ent X G (c.fact (fa_glo (by decide +kernel))) (e__law_fits c)) (allc (fn_ent X G (c.fact (fa_glo (by decide +kernel))) (e__law_other c)) (alln)))))))))))))))))))))))))))))
  · exact allc (⟨⟨rfl, by decide +kernel⟩, cl_ent X G (c.fact (fa_cglo (by decide +kernel))) (c.fact (fa_cls (by decide +kernel))) (c.fact (fa_mkr (by decide +kernel))) (e_Gold_init c)⟩) (alln)
  · exact allc (⟨⟨by decide +kernel, by decide +kernel⟩, mt_ent X G (c.fact (fa_cglo (by decide +kernel))) (c.fact (fa_cls (by decide +kernel))) (c.fact (fa_meth (p := ("Gold", "__eq__")) (by decide +kernel))) (e_Gold_eq c)⟩) (allc (⟨⟨by decide +kernel, by decide +kernel⟩, mt_ent X G (c.fact (fa_cglo (by decide +kernel))) (c.fact (fa_cls (by decide +kernel))) (c.fact (fa_meth (p := ("Gold", "pure")) (by decide +kernel))) (e_Gold_pure c)⟩) (alln))
  · exact allc (tup_gl X G (c.tup (x := "NOUGHT") (l := [.int 0, .int 1]) (by simp [xT]))) (allc (tup_gl X G (c.tup (x := "ONE") (l := [.int 1, .int 1]) (by simp [xT]))) (alln))
  · exact allc (⟨by decide +kernel, by decide +kernel⟩) (alln)
  · exact allc (⟨by decide +kernel, ⟨_, rfl, rfl⟩, by simp [xT]⟩) (alln)
  · exact allc (⟨⟨by decide +kernel, by simp [xT]⟩, allc (by simp [xT]) (alln)⟩) (alln)
end
/-- the law, when its text's run is true -/
theorem holds (n : Nat) (hn : n < 20) (hmain : ∀ ns : List Int, ns.length ≤ 63 → ∃ s', Fn tb (flOf fll) n x_law [.scr ns] [] = .ok (.bl true) s') : PySem.Challenge.rw_goldslips_k05_whole_mixes_with_least_new.Holds := by
  w_on; o_law
  refine HandSHeadRun.head_any (r := Vh.R) (q := PySem.W.view Vh.R.prog [41]) (H := Vh.hk) (ob := Vh.ob) (M := 1000000) (loose := Vh.names) (d := HandSHeadRun.topDef Vh.R.prog 41) (kwd := []) Vh.ob_eq
    (by kernel_rfl) (fun s => by kernel_rfl) Vh.run (by kernel_rfl) (by kernel_rfl) (by kernel_rfl) (by rfl) (by first | assumption | decide +kernel) (by decide +kernel) ⟨rfl, rfl, rfl, rfl, rfl, by decide +kernel⟩ ?hw ?hc
  case hw => w_witness2
  case hc =>
    refine walk_v (l := PySem.Challenge.rw_goldslips_k05_whole_mixes_with_least_new) (n := 63) (k := 6 * n) (x := "_law_script") rfl (by decide) (by kernel_rfl) (room_top hn) ?F
    intro w mg fa h Y G hmg0
    obtain ⟨K, KX, c⟩ := Y
    have hmg : mg ("law" : PySem.Str) = some (.ref fa) := by
      have e : (HandSHeadRun.topDef Vh.R.prog 41).name = ("law" : PySem.Str) := by kernel_rfl
      rw [← e]
      exact hmg0
    have g := He.glo_ok KX G (c.fact (fa_glo (x := "law") (by decide +kernel)))
    rw [hmg] at g
    cases g
    obtain ⟨fd, b, _, e⟩ := e_law c
    exact ⟨K, fd, _, KX, fun s u => b s [u] rfl, hmain, fun base => (mod_fn (mod KX G c) n).1 e⟩
end Vh
set_option Elab.async false
set_option linter.all false
set_option maxRecDepth 100000
namespace Vj
open PySem Vm Vt
theorem mixT : MixT (tabOf tb) tb.gl (flOf fll) := by
  refine { common := ?_, fraction := ?_, minus := ?_, times := ?_, over := ?_, less := ?_, is_whole := ?_, is_fraction := ?_, is_weight := ?_, is_fineness := ?_, least_of := ?_, copper_in := ?_, gold := ?_, init := ?_, pure := ?_, nought := ?_, one := ?_, flds := ?_, finest := ?_, taken := ?_, mixed := ?_, least := ?_, paper := ?_ }
  all_goals rfl
theorem drawT : DrawT2 (tabOf tb) := by
  refine { bag := ?_, take := ?_, frac := ?_, add := ?_, sub := ?_, mul := ?_, less := ?_, weight := ?_, fine := ?_ }
  all_goals rfl
end Vj
theorem PySem.Challenge.cw_goldslips_k05_whole_mixes_with_least_new_holds : PySem.Challenge.rw_goldslips_k05_whole_mixes_with_least_new.Holds := by
  exact Vh.holds 8 (by decide) fun ns hn => Vm.k05_law Vj.mixT Vj.drawT rfl rfl rfl rfl ns hn
