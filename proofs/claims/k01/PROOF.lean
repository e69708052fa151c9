import PyProof.Rows.All
import Wide.All
import OpenK.AllK
import Wide.FinOn
import HandS.ForMost
import HandS.ForExc
import HandS.Walk
import HandS.IsInst
import HandS.TupAny
import HandS.Style
import HandS.More
import HandS.RevRange
import KE.GoesNew
import KE.GoesEnum
import HandS.CallSlots
import HandS.TryMany
import HandS.ExcInit
import HandS.ExcField
import HandS.ListItems
import HandS.Comp
import HandS.TryOnly
import HandS.Ends
import HandS.HeadEnd
import HandS.HeadHook4
import HandS.Head2
import HandS.Defaults
import PySem.Challenge.RW_kernelpapers_k01_terms_of_anything
set_option Elab.async false
set_option linter.all false
set_option maxRecDepth 100000
/-! A small functional interpreter: values as trees, lists and dicts in a small heap. -/
namespace Mi
open PySem L2
inductive W where
  | non | bl (b : Bool) | int (i : Int) | str (s : Str) | tup (xs : List W) | ref (n : Nat) | nm (x : Nat)
inductive O where
  | lst (xs : List W) | dct (kvs : List (Key × W)) | xd (fs : List (Nat × W)) | fl (xs : List W)
abbrev MH := List O
inductive Rs (α : Type) where
  | ok (a : α) (h : MH)
  | ex (c : Nat) (fs : List (Nat × W)) (h : MH)
abbrev Mo (α : Type) := Option (Rs α)
def bd {α β : Type} (x : Mo α) (f : α → MH → Mo β) : Mo β := match x with
  | none => none
  | some (.ok a h) => f a h
  | some (.ex c fs h) => some (.ex c fs h)
def rt {α : Type} (a : α) (h : MH) : Mo α := some (.ok a h)
def up {α : Type} (x : Option (α × MH)) : Mo α := match x with
  | none => none
  | some (a, h) => some (.ok a h)
@[simp] theorem bd_rt {α β : Type} (a : α) (h : MH) (f : α → MH → Mo β) : bd (rt a h) f = f a h := rfl
@[simp] theorem bd_ok {α β : Type} (a : α) (h : MH) (f : α → MH → Mo β) : bd (some (.ok a h)) f = f a h := rfl
@[simp] theorem bd_ex {α β : Type} (c : Nat) (fs : List (Nat × W)) (h : MH) (f : α → MH → Mo β) : bd (some (.ex c fs h)) f = some (.ex c fs h) := rfl
@[simp] theorem bd_none {α β : Type} (f : α → MH → Mo β) : bd (none : Mo α) f = none := rfl
@[simp] theorem up_some {α : Type} (a : α) (h : MH) : up (some (a, h)) = rt a h := rfl
@[simp] theorem up_none {α : Type} : up (none : Option (α × MH)) = none := rfl
/-! ### data -/
def keyD : Key → PyData
  | .inl i => .int i
  | .inr s => .str s
def kvGet {κ ν : Type} [DecidableEq κ] : List (κ × ν) → κ → Option ν
  | [], _ => none
  | (k', v) :: r, k => if k' = k then some v else kvGet r k
def dat : Nat → MH → W → Option PyData
  | 0, _, _ => none
  | n + 1, h, w => match w with
    | .non => some .none
    | .bl b => some (.bool b)
    | .int i => some (.int i)
    | .str s => some (.str s)
    | .tup xs => (xs.mapM (dat n h)).map .tuple
    | .ref m => match h[m]? with
      | some (.lst xs) => (xs.mapM (dat n h)).map .list
      | some (.dct kvs) => ((kvs.map (·.2)).mapM (dat n h)).map fun ds => .dict ((kvs.map fun kv => keyD kv.1).zip ds)
      | _ => none
    | .nm _ => none
def FU : Nat := 150
def truW (x : W) (h : MH) : Option Bool := match x with
  | .non => some false
  | .bl b => some b
  | .int i => some (i != 0)
  | .str s => if s.length ≤ sizeLine then some ((s.length : Int) != 0) else none
  | .tup xs => some (!xs.isEmpty)
  | .ref n => match h[n]? with
    | some (.lst xs) => some (!xs.isEmpty)
    | some (.dct kvs) => some (!kvs.isEmpty)
    | _ => none
  | .nm _ => none
/-! ### operators -/
inductive BOp | add | sub | mul | fdv | mod | pow
  deriving DecidableEq
def addW (x y : W) (h : MH) : Option (W × MH) := match x, y with
  | .int i, .int j => some (.int (i + j), h)
  | .str a, .str b => if a.length + b.length ≤ sizeLine then some (.str (a ++ b), h) else none
  | .tup a, .tup b => if a.length + b.length ≤ sizeLine then some (.tup (a ++ b), h) else none
  | .ref m, .ref n => match h[m]?, h[n]? with
    | some (.lst a), some (.lst b) => if a.length + b.length ≤ sizeLine then some (.ref h.length, h ++ [.lst (a ++ b)]) else none
    | _, _ => none
  | _, _ => none
def binW (op : BOp) (x y : W) (h : MH) : Option (W × MH) := match op with
  | .add => addW x y h
  | .sub => match x, y with | .int i, .int j => some (.int (i - j), h) | _, _ => none
  | .mul => match x, y with | .int i, .int j => if (-(2 ^ 64) < i ∧ i < 2 ^ 64) ∨ (-(2 ^ 64) < j ∧ j < 2 ^ 64) then some (.int (i * j), h) else none | _, _ => none
  | .fdv => match x, y with | .int i, .int j => if 0 < j ∧ j < 1073741824 then some (.int (i / j), h) else none | _, _ => none
  | .mod => match x, y with | .int i, .int j => if 0 < j then some (.int (i % j), h) else none | _, _ => none
  | .pow => match x, y with | .int i, .int j => if 0 ≤ j ∧ j ≤ 1000000 ∧ i.natAbs < 2 ^ 64 then some (.int (i ^ j.toNat), h) else none | _, _ => none
inductive COp | eq | ne | lt | le | gt | ge | is | isn | inn | nin
  deriving DecidableEq
def eqD (x y : W) (h : MH) : Option Bool := match dat FU h x, dat FU h y with
  | some d, some e => if d.canLay0 = true ∧ e.canLay0 = true then some (PyData.eqv d e) else none
  | _, _ => none
/-- equal by the lengths alone -/
def eqE (x y : W) (h : MH) : Option Bool := match x, y with
  | .str a, .str b => some (a == b)
  | .tup xs, .tup ys => if xs.isEmpty || ys.isEmpty then some (xs.isEmpty && ys.isEmpty) else none
  | .ref m, .ref n => match h[m]?, h[n]? with
    | some (.lst xs), some (.lst ys) => if xs.length ≠ ys.length then some false else if xs.isEmpty then some true else none
    | _, _ => none
  | _, _ => none
def flatW : W → Bool
  | .non => true | .bl _ => true | .int _ => true | .str _ => true | _ => false
def eqF : W → W → Bool
  | .non, .non => true
  | .bl a, .bl b => a == b
  | .bl a, .int b => (if a then 1 else 0) == b
  | .int a, .bl b => a == (if b then 1 else 0)
  | .int a, .int b => a == b
  | .str a, .str b => a == b
  | _, _ => false
def inF (x : W) (xs : List W) : Bool := xs.any fun y => eqF y x
def keyOf : W → Option Key
  | .int i => some (.inl i)
  | .str s => some (.inr s)
  | _ => none
structure Cfg where
  call : Nat → List W → MH → Mo W
  has : Nat → Bool
  calm : Bool
  exn : Option (Nat × Nat)
  wf : Nat
  glb : Nat → Option W
  cdt : Nat → Option (List (Str × W))
  sub : Nat → Nat → Option Bool
def inW (C : Cfg) (x y : W) (h : MH) : Option Bool := match y with
  | .str t => match x with
    | .str s => match s.cps.toList with
      | [c] => some (decide (c ∈ t.cps.toList))
      | _ => none
    | _ => none
  | .tup ys => if flatW x && ys.all flatW then some (inF x ys) else none
  | .ref n => match h[n]? with
    | some (.lst ys) => if flatW x && ys.all flatW then some (inF x ys) else none
    | some (.dct kvs) => match keyOf x with
      | some k => some ((kvGet kvs k).isSome)
      | none => none
    | _ => none
  | .nm g => match C.cdt g, x with
    | some kvs, .str s => some ((kvGet kvs s).isSome)
    | _, _ => none
  | _ => none
def cmpW (C : Cfg) (op : COp) (x y : W) (h : MH) : Option Bool := match op with
  | .eq => match eqE x y h with
    | some b => some b
    | none => eqD x y h
  | .ne => match eqE x y h with
    | some b => some (!b)
    | none => (eqD x y h).map not
  | .lt => match x, y with | .int i, .int j => some (decide (i < j)) | .str s, .str t => some (decide (s.cps.toList < t.cps.toList)) | _, _ => none
  | .le => match x, y with | .int i, .int j => some (decide (i ≤ j)) | .str s, .str t => some (!decide (t.cps.toList < s.cps.toList)) | _, _ => none
  | .gt => match x, y with | .int i, .int j => some (decide (j < i)) | _, _ => none
  | .ge => match x, y with | .int i, .int j => some (decide (j ≤ i)) | _, _ => none
  | .is => match x, y with | .bl a, .bl b => some (a == b) | .non, .non => some true | .bl _, .non => some false | .int _, .non => some false | .str _, .non => some false | .tup _, .non => some false | .ref _, .non => some false | _, _ => none
  | .isn => match x, y with | .bl a, .bl b => some (!(a == b)) | .non, .non => some false | .bl _, .non => some true | .int _, .non => some true | .str _, .non => some true | .tup _, .non => some true | .ref _, .non => some true | _, _ => none
  | .inn => inW C x y h
  | .nin => (inW C x y h).map not
def getW (C : Cfg) (x y : W) (h : MH) : Option W := match x with
  | .tup xs => match y with | .int i => atI xs i | _ => none
  | .str s => match y with
    | .int i => if s.length ≤ sizeLine then (atI s.cps.toList i).map fun c => .str ⟨#[c]⟩ else none
    | _ => none
  | .ref n => match h[n]? with
    | some (.lst xs) => match y with | .int i => atI xs i | _ => none
    | some (.fl xs) => match y with | .int i => atI xs i | _ => none
    | some (.dct kvs) => (keyOf y).bind fun k => kvGet kvs k
    | _ => none
  | .nm g => match C.cdt g, y with
    | some kvs, .str s => kvGet kvs s
    | _, _ => none
  | _ => none
def cut {α : Type} (xs : List α) (lo hi : Option Int) : List α := (xs.drop (HT.sIx xs.length 0 lo)).take (HT.sIx xs.length xs.length hi - HT.sIx xs.length 0 lo)
def slcW (x : W) (lo hi : Option Int) (h : MH) : Option (W × MH) := match x with
  | .tup xs => some (.tup (cut xs lo hi), h)
  | .str s => if s.length ≤ sizeLine then some (.str ⟨(cut s.cps.toList lo hi).toArray⟩, h) else none
  | .ref n => match h[n]? with
    | some (.lst xs) => some (.ref h.length, h ++ [.lst (cut xs lo hi)])
    | _ => none
  | _ => none
/-- o[i] = v -/
def kvPut (kvs : List (Key × W)) (k : Key) (v : W) : List (Key × W) :=
  if (kvGet kvs k).isSome then kvs.map (fun kv => if kv.1 = k then (kv.1, v) else kv) else kvs ++ [(k, v)]
def mergeW (kvs more : List (Key × W)) : List (Key × W) := more.foldl (fun acc kv => kvPut acc kv.1 kv.2) kvs
def keysOf : List (W × W) → Option (List (Key × W))
  | [] => some []
  | (k, v) :: r => match keyOf k, keysOf r with
    | some k, some r => some ((k, v) :: r)
    | _, _ => none
def pairsOf : List W → Option (List (Key × W))
  | [] => some []
  | .tup [k, v] :: r => match keyOf k, pairsOf r with
    | some k, some r => some ((k, v) :: r)
    | _, _ => none
  | _ :: _ => none
def kW : Key → W
  | .inl i => .int i
  | .inr s => .str s
def setW (o i v : W) (h : MH) : Option MH := match o with
  | .ref n => match h[n]? with
    | some (.lst xs) => match i with
      | .int k => (ixN xs.length k).map fun j => h.set n (.lst (xs.set j v))
      | _ => none
    | some (.dct kvs) => match keyOf i with
      | some k => if kvs.length < sizeLine then some (h.set n (.dct (kvPut kvs k v))) else none
      | none => none
    | _ => none
  | _ => none
/-! ### built-ins -/
inductive Ty | int | str | bool | tuple | list | dict
  deriving DecidableEq
def isiW (x : W) (t : Ty) (h : MH) : Option Bool := match x with
  | .non => some false
  | .bl _ => some (t == .bool || t == .int)
  | .int _ => some (t == .int)
  | .str _ => some (t == .str)
  | .tup _ => some (t == .tuple)
  | .ref n => match h[n]? with
    | some (.lst _) => some (t == .list)
    | some (.dct _) => some (t == .dict)
    | _ => none
  | .nm _ => none
inductive Blt | len | max | min | repr | all | any | sum | int | list | tuple | dict
  deriving DecidableEq
def blsOf : List W → Option (List Bool)
  | [] => some []
  | .bl b :: r => (blsOf r).map (b :: ·)
  | _ => none
def intsOf : List W → Option (List Int)
  | [] => some []
  | .int b :: r => (intsOf r).map (b :: ·)
  | _ => none
def lstOf (x : W) (h : MH) : Option (List W) := match x with
  | .ref n => match h[n]? with
    | some (.lst xs) => some xs
    | _ => none
  | _ => none
def seqOf (x : W) (h : MH) : Option (List W) := match x with
  | .tup xs => some xs
  | .ref n => match h[n]? with
    | some (.lst xs) => some xs
    | some (.fl xs) => some xs
    | _ => none
  | _ => none
def bltW (C : Cfg) (b : Blt) (xs : List W) (h : MH) : Option (W × MH) := match b with
  | .len => match xs with
    | [.str s] => if s.length ≤ sizeLine then some (.int s.length, h) else none
    | [x] => match seqOf x h with
      | some ys => some (.int ys.length, h)
      | none => none
    | _ => none
  | .max => if C.calm then match xs with | [.int i, .int j] => some (.int (if j > i then j else i), h) | _ => none else none
  | .min => if C.calm then match xs with | [.int i, .int j] => some (.int (if j < i then j else i), h) | _ => none else none
  | .repr => match xs with
    | [x] => match dat FU h x with
      | some d => if d.showable = true ∧ d.shown.length ≤ sizeLine then some (.str d.shown, h) else none
      | none => none
    | _ => none
  | .all => if C.calm then match xs with | [x] => (((lstOf x h).bind blsOf).map fun bs => (.bl (bs.all id), h)) | _ => none else none
  | .any => if C.calm then match xs with | [x] => (((lstOf x h).bind blsOf).map fun bs => (.bl (bs.any id), h)) | _ => none else none
  | .sum => if C.calm then match xs with | [x] => (((lstOf x h).bind intsOf).map fun bs => (.int bs.sum, h)) | _ => none else none
  | .int => match xs with | [.int i] => some (.int i, h) | [.bl k] => some (.int (if k then 1 else 0), h) | _ => none
  | .list => match xs with | [x] => (seqOf x h).map fun ys => (.ref h.length, h ++ [.lst ys]) | _ => none
  | .tuple => match xs with | [x] => (seqOf x h).map fun ys => (.tup ys, h) | _ => none
  | .dict => if C.calm then match xs with | [x] => ((lstOf x h).bind pairsOf).map fun kvs => (.ref h.length, h ++ [.dct (mergeW [] kvs)]) | _ => none else none
inductive Mth | append | extend | insert | clear | split | join
  deriving DecidableEq
def strsOf : List W → Option (List Str)
  | [] => some []
  | .str b :: r => (strsOf r).map (b :: ·)
  | _ => none
def mthW (m : Mth) (o : W) (xs : List W) (h : MH) : Option (W × MH) := match m with
  | .append => match o, xs with
    | .ref n, [x] => match h[n]? with
      | some (.lst ys) => if ys.length < sizeLine then some (.non, h.set n (.lst (ys ++ [x]))) else none
      | _ => none
    | _, _ => none
  | .extend => match o, xs with
    | .ref n, [.ref m] => match h[n]?, h[m]? with
      | some (.lst ys), some (.lst zs) => if ys.length + zs.length ≤ sizeLine then some (.non, h.set n (.lst (ys ++ zs))) else none
      | _, _ => none
    | _, _ => none
  | .insert => match o, xs with
    | .ref n, [.int i, x] => match h[n]? with
      | some (.lst ys) => if ys.length < sizeLine ∧ 0 ≤ i ∧ i < 2 ^ 63 then some (.non, h.set n (.lst (ys.take i.toNat ++ [x] ++ ys.drop i.toNat))) else none
      | _ => none
    | _, _ => none
  | .clear => match o, xs with
    | .ref n, [] => match h[n]? with
      | some (.lst _) => some (.non, h.set n (.lst []))
      | _ => none
    | _, _ => none
  | .split => match o, xs with
    | .str a, [.str b] => if (b.length == 0) = false ∧ a.length + 2 ≤ sizeLine then some (.ref h.length, h ++ [.lst ((Txt.split a b).map .str)]) else none
    | _, _ => none
  | .join => match o, xs with
    | .str a, [x] => match (seqOf x h).bind strsOf with
      | some ys => if (ys.map (·.length)).sum + ys.length * a.length ≤ 16777216 then some (.str (Txt.join a ys), h) else none
      | none => none
    | _, _ => none
def mthK (m : Mth) (x : W) (h : MH) : Bool := match m, x with
  | .split, .str _ => true
  | .join, .str _ => true
  | .append, .ref n => (lstOf (.ref n) h).isSome
  | .extend, .ref n => (lstOf (.ref n) h).isSome
  | .insert, .ref n => (lstOf (.ref n) h).isSome
  | .clear, .ref n => (lstOf (.ref n) h).isSome
  | _, _ => false
/-! ### syntax -/
mutual
inductive ME where
  | var (i : Nat) | int (i : Int) | str (s : Str) | bl (b : Bool) | non | glb (x : Nat)
  | tup (es : MEs) | lst (es : MEs)
  | bin (op : BOp) (a b : ME) | neg (a : ME)
  | cmp (op : COp) (a b : ME) | chn (op op' : COp) (a b c : ME)
  | and (a b : ME) | or (a b : ME) | not (a : ME) | ite (c a b : ME)
  | idx (a b : ME) | slc (a : ME) (lo hi : MO)
  | call (f : Nat) (es : MEs) | blt (b : Blt) (es : MEs) | isi (a : ME) (t : Ty)
  | mth (m : Mth) (o : ME) (es : MEs)
  | exf (i f : Nat)
  | comp (elt : ME) (tg : MG) (it : MI) (cnd : Option ME) (vs : List Nat)
  | dct (ps : MPs) | itl (a : ME)
inductive MPs where
  | nil | cons (k v : ME) (r : MPs)
inductive MEs where
  | nil | cons (e : ME) (es : MEs)
inductive MO where
  | no | so (e : ME)
inductive MI where
  | pl (e : ME) | rg1 (a : ME) | rg2 (a b : ME) | enm (a : ME) | zip (a b : ME)
inductive MG where
  | nm (i : Nat) | tp (is : List Nat)
end
abbrev Lo := List (Option W)
def wipeW (ρ : Lo) : List Nat → Lo
  | [] => ρ
  | v :: vs => (wipeW ρ vs).set v none
/-! ### what is walked -/
inductive Bs where
  | lst (n : Nat) | fix (xs : List W)
def Bs.items (h : MH) : Bs → Option (List W)
  | .lst n => match h[n]? with
    | some (.lst xs) => some xs
    | _ => none
  | .fix xs => some xs
inductive Src where
  | one (b : Bs) | rng (lo : Int) (n : Nat) | enm (b : Bs) | zip (b c : Bs)
def Src.item (h : MH) (i : Nat) : Src → Option (Option W)
  | .one b => (b.items h).map fun xs => xs[i]?
  | .rng lo n => some (if i < n then some (.int (lo + i)) else none)
  | .enm b => (b.items h).map fun xs => (xs[i]?).map fun w => .tup [.int i, w]
  | .zip b c => match b.items h, c.items h with
    | some xs, some ys => match xs[i]?, ys[i]? with
      | some a, some b => some (some (.tup [a, b]))
      | _, _ => if i = min xs.length ys.length then some none else none
    | _, _ => none
def Bs.len (h : MH) (b : Bs) : Nat := match b.items h with
  | some xs => xs.length
  | none => 0
def Src.len (h : MH) : Src → Nat
  | .one b => b.len h
  | .rng _ n => n
  | .enm b => b.len h
  | .zip b c => min (b.len h) (c.len h)
def srcOf (x : W) (h : MH) : Option Bs := match x with
  | .tup xs => some (.fix xs)
  | .str s => some (.fix (s.cps.toList.map fun c => .str ⟨#[c]⟩))
  | .ref n => match h[n]? with
    | some (.lst _) => some (.lst n)
    | _ => none
  | _ => none
def lsrcOf (x : W) (h : MH) : Option Bs := match x with
  | .ref n => match h[n]? with
    | some (.lst _) => some (.lst n)
    | _ => none
  | _ => none
def rngW (lo hi : Int) : Option Src := if -(2 ^ 62) ≤ lo ∧ lo < 2 ^ 62 ∧ -(2 ^ 62) ≤ hi ∧ hi < 2 ^ 62 then some (.rng lo (hi - lo).toNat) else none
/-- targets -/
def tgW (g : MG) (w : W) (ρ : Lo) (h : MH) : Option Lo := match g with
  | .nm i => some (ρ.set i (some w))
  | .tp is => match w with
    | .tup xs => if xs.length = is.length then some ((is.zip xs).foldl (fun r p => r.set p.1 (some p.2)) ρ) else none
    | _ => none
/-- the turns of a comprehension: f tells a turn's element -/
def cmpLp (f : W → MH → Mo (Option W)) (n : Nat) (s : Src) : Nat → Nat → MH → Mo Unit
  | 0, _, _ => none
  | fu + 1, i, h => match s.item h i with
    | none => none
    | some none => rt () h
    | some (some w) => bd (f w h) fun r h1 => match r with
      | none => cmpLp f n s fu (i + 1) h1
      | some y => match h1[n]? with
        | some (.lst acc) => if acc.length < sizeLine then cmpLp f n s fu (i + 1) (h1.set n (.lst (acc ++ [y]))) else none
        | _ => none
def noex {α : Type} (x : Mo α) : Mo α := match x with
  | some (.ok a h) => some (.ok a h)
  | _ => none
@[simp] theorem noex_rt {α : Type} (a : α) (h : MH) : noex (rt a h) = rt a h := rfl
mutual
def ev (C : Cfg) : ME → Lo → MH → Mo W
  | .var i, ρ, h => match ρ[i]? with
    | some (some w) => rt w h
    | _ => none
  | .int i, _, h => rt (.int i) h
  | .str s, _, h => rt (.str s) h
  | .bl b, _, h => rt (.bl b) h
  | .non, _, h => rt .non h
  | .glb x, _, h => match C.glb x with
    | some w => rt w h
    | none => none
  | .tup es, ρ, h => bd (evs C es ρ h) fun ws h1 => if ws.length ≤ sizeLine then rt (.tup ws) h1 else none
  | .lst es, ρ, h => bd (evs C es ρ h) fun ws h1 => if ws.length ≤ sizeLine then rt (.ref h1.length) (h1 ++ [.lst ws]) else none
  | .bin op a b, ρ, h => bd (ev C a ρ h) fun x h1 => bd (ev C b ρ h1) fun y h2 => up (binW op x y h2)
  | .neg a, ρ, h => bd (ev C a ρ h) fun x h1 => match x with
    | .int i => rt (.int (-i)) h1
    | _ => none
  | .cmp op a b, ρ, h => bd (ev C a ρ h) fun x h1 => bd (ev C b ρ h1) fun y h2 => up ((cmpW C op x y h2).map fun r => (.bl r, h2))
  | .chn op op' a b c, ρ, h => bd (ev C a ρ h) fun x h1 => bd (ev C b ρ h1) fun y h2 => match cmpW C op x y h2 with
    | some true => bd (ev C c ρ h2) fun z h3 => up ((cmpW C op' y z h3).map fun r => (.bl r, h3))
    | some false => rt (.bl false) h2
    | none => none
  | .and a b, ρ, h => bd (ev C a ρ h) fun x h1 => match x with
    | .bl true => ev C b ρ h1
    | .bl false => rt (.bl false) h1
    | _ => none
  | .or a b, ρ, h => bd (ev C a ρ h) fun x h1 => match x with
    | .bl false => ev C b ρ h1
    | .bl true => rt (.bl true) h1
    | _ => none
  | .not a, ρ, h => bd (ev C a ρ h) fun x h1 => match x with
    | .bl k => rt (.bl (!k)) h1
    | _ => none
  | .ite c a b, ρ, h => bd (tst C c ρ h) fun k h1 => if k = true then ev C a ρ h1 else ev C b ρ h1
  | .idx a b, ρ, h => bd (ev C a ρ h) fun x h1 => bd (ev C b ρ h1) fun y h2 => up ((getW C x y h2).map fun r => (r, h2))
  | .slc a lo hi, ρ, h => bd (ev C a ρ h) fun x h1 => bd (evo C lo ρ h1) fun l h2 => bd (evo C hi ρ h2) fun u h3 => up (slcW x l u h3)
  | .call f es, ρ, h => if C.has f = true then bd (evs C es ρ h) fun ws h1 => C.call f ws h1 else none
  | .blt b es, ρ, h => bd (evs C es ρ h) fun ws h1 => up (bltW C b ws h1)
  | .isi a t, ρ, h => bd (ev C a ρ h) fun x h1 => up ((isiW x t h1).map fun r => (.bl r, h1))
  | .mth m o es, ρ, h => bd (ev C o ρ h) fun x h1 => if mthK m x h1 = true then bd (evs C es ρ h1) fun ws h2 => up (mthW m x ws h2) else none
  | .exf i f, _, h => match C.exn with
    | some (j, n) => if i = j then (match h[n]? with
      | some (.xd fs) => match kvGet fs f with
        | some w => rt w h
        | none => none
      | _ => none) else none
    | none => none
  | .comp elt tg it cnd vs, ρ, h => if C.calm then bd (evi C it ρ h) fun s h1 =>
      bd (cmpLp (fun w h2 => match tgW tg w (wipeW ρ vs) h2 with
        | none => none
        | some ρ2 => match cnd with
          | none => bd (noex (ev C elt ρ2 h2)) fun y h3 => rt (some y) h3
          | some c => bd (noex (tst C c ρ2 h2)) fun k h3 => if k = true then bd (noex (ev C elt ρ2 h3)) fun y h4 => rt (some y) h4 else rt none h3)
        h1.length s (s.len h1 + 1) 0 (h1 ++ [.lst []])) fun _ h2 => rt (.ref h1.length) h2
    else none
  | .dct ps, ρ, h => match ps with
    | .nil => rt (.ref h.length) (h ++ [.dct []])
    | _ => bd (evp C ps ρ (h ++ [.dct []])) fun xs h2 => match h2[h.length]?, keysOf xs with
      | some (.dct []), some kvs => if kvs.length ≤ 15 then rt (.ref h.length) (h2.set h.length (.dct (mergeW [] kvs))) else none
      | _, _ => none
  | .itl a, ρ, h => if C.calm then bd (ev C a ρ h) fun x h1 => match x with
    | .ref n => match h1[n]? with
      | some (.dct kvs) => rt (.ref h1.length) (h1 ++ [.lst (kvs.map fun kv => .tup [kW kv.1, kv.2])])
      | _ => none
    | _ => none
    else none
def evp (C : Cfg) : MPs → Lo → MH → Mo (List (W × W))
  | .nil, _, h => rt [] h
  | .cons k v r, ρ, h => bd (ev C k ρ h) fun x h1 => bd (ev C v ρ h1) fun y h2 => bd (evp C r ρ h2) fun xs h3 => rt ((x, y) :: xs) h3
def tst (C : Cfg) : ME → Lo → MH → Mo Bool
  | .and a b, ρ, h => bd (tst C a ρ h) fun k h1 => if k = true then tst C b ρ h1 else rt false h1
  | .or a b, ρ, h => bd (tst C a ρ h) fun k h1 => if k = true then rt true h1 else tst C b ρ h1
  | .not a, ρ, h => bd (tst C a ρ h) fun k h1 => rt (!k) h1
  | .cmp op a b, ρ, h => bd (ev C a ρ h) fun x h1 => bd (ev C b ρ h1) fun y h2 => up ((cmpW C op x y h2).map fun r => (r, h2))
  | .chn op op' a b c, ρ, h => bd (ev C a ρ h) fun x h1 => bd (ev C b ρ h1) fun y h2 => match cmpW C op x y h2 with
    | some true => bd (ev C c ρ h2) fun z h3 => up ((cmpW C op' y z h3).map fun r => (r, h3))
    | some false => rt false h2
    | none => none
  | .var i, ρ, h => bd (match ρ[i]? with
    | some (some w) => rt w h
    | _ => none) fun z h3 => up ((truW z h3).map fun k => (k, h3))
  | .call f es, ρ, h => if C.has f = true then bd (bd (evs C es ρ h) fun ws h1 => C.call f ws h1) fun x h2 => up ((truW x h2).map fun k => (k, h2)) else none
  | .blt b es, ρ, h => bd (bd (evs C es ρ h) fun ws h1 => up (bltW C b ws h1)) fun x h2 => up ((truW x h2).map fun k => (k, h2))
  | .isi a t, ρ, h => bd (bd (ev C a ρ h) fun x h1 => up ((isiW x t h1).map fun r => (.bl r, h1))) fun x h2 => up ((truW x h2).map fun k => (k, h2))
  | .idx a b, ρ, h => bd (bd (ev C a ρ h) fun x h1 => bd (ev C b ρ h1) fun y h2 => up ((getW C x y h2).map fun r => (r, h2))) fun z h3 => up ((truW z h3).map fun k => (k, h3))
  | _, _, _ => none
def evs (C : Cfg) : MEs → Lo → MH → Mo (List W)
  | .nil, _, h => rt [] h
  | .cons e es, ρ, h => bd (ev C e ρ h) fun x h1 => bd (evs C es ρ h1) fun xs h2 => rt (x :: xs) h2
def evo (C : Cfg) : MO → Lo → MH → Mo (Option Int)
  | .no, _, h => rt none h
  | .so e, ρ, h => bd (ev C e ρ h) fun x h1 => match x with
    | .int i => rt (some i) h1
    | _ => none
def evi (C : Cfg) : MI → Lo → MH → Mo Src
  | .pl e, ρ, h => bd (ev C e ρ h) fun x h1 => up ((srcOf x h1).map fun s => (.one s, h1))
  | .rg1 a, ρ, h => bd (ev C a ρ h) fun x h1 => match x with
    | .int j => up ((rngW 0 j).map fun s => (s, h1))
    | _ => none
  | .rg2 a b, ρ, h => bd (ev C a ρ h) fun x h1 => bd (ev C b ρ h1) fun y h2 => match x, y with
    | .int i, .int j => up ((rngW i j).map fun s => (s, h2))
    | _, _ => none
  | .enm a, ρ, h => bd (ev C a ρ h) fun x h1 => up ((lsrcOf x h1).map fun s => (.enm s, h1))
  | .zip a b, ρ, h => bd (ev C a ρ h) fun x h1 => bd (ev C b ρ h1) fun y h2 => up ((srcOf x h2).bind fun s => (srcOf y h2).map fun t => (.zip s t, h2))
end
/-! ### statements -/
mutual
inductive MS where
  | asg (i : Nat) (e : ME) | asgT (is : List Nat) (e : ME) | par2 (i j : Nat) (a b : ME) | setI (o i e : ME)
  | aug (i : Nat) (op : BOp) (e : ME)
  | expr (e : ME) | ite (c : ME) (a b : MSs) | for_ (tg : MG) (it : MI) (body : MSs) | whl (c : ME) (body : MSs)
  | ret (e : ME) | retN | raise (c : Nat) (es : MEs) | try_ (body : MSs) (hs : MHs) | pass | brk | cnt
inductive MSs where
  | nil | cons (s : MS) (ss : MSs)
inductive MHs where
  | nil | stop | cons (c : Nat) (slot : Option Nat) (body : MSs) (r : MHs)
end
inductive So where
  | nx (ρ : Lo) (h : MH) | rt (w : W) (h : MH) | bk (ρ : Lo) (h : MH) | ct (ρ : Lo) (h : MH) | ex (c : Nat) (fs : List (Nat × W)) (ρ : Lo) (h : MH)
abbrev Sm := Option So
def sE {α : Type} (ρ : Lo) (x : Mo α) (f : α → MH → Sm) : Sm := match x with
  | none => none
  | some (.ok a h) => f a h
  | some (.ex c fs h) => some (.ex c fs ρ h)
@[simp] theorem sE_rt {α : Type} (ρ : Lo) (a : α) (h : MH) (f : α → MH → Sm) : sE ρ (rt a h) f = f a h := rfl
@[simp] theorem sE_ok {α : Type} (ρ : Lo) (a : α) (h : MH) (f : α → MH → Sm) : sE ρ (some (.ok a h)) f = f a h := rfl
@[simp] theorem sE_ex {α : Type} (ρ : Lo) (c : Nat) (fs : List (Nat × W)) (h : MH) (f : α → MH → Sm) : sE ρ (some (.ex c fs h)) f = some (.ex c fs ρ h) := rfl
@[simp] theorem sE_none {α : Type} (ρ : Lo) (f : α → MH → Sm) : sE ρ (none : Mo α) f = none := rfl
def sQ (x : Sm) (f : Lo → MH → Sm) : Sm := match x with
  | some (.nx ρ h) => f ρ h
  | y => y
@[simp] theorem sQ_nx (ρ : Lo) (h : MH) (f : Lo → MH → Sm) : sQ (some (.nx ρ h)) f = f ρ h := rfl
@[simp] theorem sQ_rt (w : W) (h : MH) (f : Lo → MH → Sm) : sQ (some (.rt w h)) f = some (.rt w h) := rfl
@[simp] theorem sQ_ex (c : Nat) (fs : List (Nat × W)) (ρ : Lo) (h : MH) (f : Lo → MH → Sm) : sQ (some (.ex c fs ρ h)) f = some (.ex c fs ρ h) := rfl
@[simp] theorem sQ_bk (ρ : Lo) (h : MH) (f : Lo → MH → Sm) : sQ (some (.bk ρ h)) f = some (.bk ρ h) := rfl
@[simp] theorem sQ_ct (ρ : Lo) (h : MH) (f : Lo → MH → Sm) : sQ (some (.ct ρ h)) f = some (.ct ρ h) := rfl
def forLp (tg : MG) (f : Lo → MH → Sm) (s : Src) : Nat → Nat → Lo → MH → Sm
  | 0, _, _, _ => none
  | fu + 1, i, ρ, h => match s.item h i with
    | none => none
    | some none => some (.nx ρ h)
    | some (some w) => match tgW tg w ρ h with
      | none => none
      | some ρ1 => match f ρ1 h with
        | some (.nx ρ2 h2) => forLp tg f s fu (i + 1) ρ2 h2
        | some (.ct ρ2 h2) => forLp tg f s fu (i + 1) ρ2 h2
        | some (.bk ρ2 h2) => some (.nx ρ2 h2)
        | y => y
def whlLp (c : Lo → MH → Mo Bool) (f : Lo → MH → Sm) : Nat → Lo → MH → Sm
  | 0, _, _ => none
  | fu + 1, ρ, h => sE ρ (c ρ h) fun k h1 => if k = true then (match f ρ h1 with
      | some (.nx ρ2 h2) => whlLp c f fu ρ2 h2
      | some (.ct ρ2 h2) => whlLp c f fu ρ2 h2
      | some (.bk ρ2 h2) => some (.nx ρ2 h2)
      | y => y) else some (.nx ρ h1)
/-- slot i is not the handled exception's -/
def free (C : Cfg) (i : Nat) : Bool := match C.exn with
  | some (j, _) => !(i == j)
  | none => true
def zipF (ps : List Nat) (ws : List W) : List (Nat × W) := ps.zip ws
mutual
def ex (C : Cfg) (K : Nat → Option (List Nat)) : MS → Lo → MH → Sm
  | .asg i e, ρ, h => if free C i then sE ρ (ev C e ρ h) fun x h1 => some (.nx (ρ.set i (some x)) h1) else none
  | .asgT is e, ρ, h => if C.calm && is.all (free C) then sE ρ (ev C e ρ h) fun x h1 => match seqOf x h1 with
      | some xs => if xs.length = is.length then some (.nx ((is.zip xs).foldl (fun r p => r.set p.1 (some p.2)) ρ) h1) else none
      | none => none
    else none
  | .par2 i j a b, ρ, h => if C.calm && free C i && free C j && !(i == j) then sE ρ (ev C a ρ h) fun x h1 => sE ρ (ev C b ρ h1) fun y h2 => some (.nx ((ρ.set i (some x)).set j (some y)) h2) else none
  | .setI o i e, ρ, h => sE ρ (ev C e ρ h) fun v h1 => sE ρ (ev C o ρ h1) fun x h2 => sE ρ (ev C i ρ h2) fun y h3 => match setW x y v h3 with
      | some h4 => some (.nx ρ h4)
      | none => none
  | .aug i op e, ρ, h => if free C i then (match ρ[i]? with
      | some (some (.int x)) => sE ρ (ev C e ρ h) fun y h1 => match op, y with
        | .add, .int y => some (.nx (ρ.set i (some (.int (x + y)))) h1)
        | .sub, .int y => some (.nx (ρ.set i (some (.int (x - y)))) h1)
        | _, _ => none
      | _ => none) else none
  | .expr e, ρ, h => sE ρ (ev C e ρ h) fun _ h1 => some (.nx ρ h1)
  | .ite c a b, ρ, h => sE ρ (tst C c ρ h) fun k h1 => if k = true then exs C K a ρ h1 else exs C K b ρ h1
  | .for_ tg it body, ρ, h => if C.calm then sE ρ (evi C it ρ h) fun s h1 => forLp tg (exs C K body) s (s.len h1 + 1) 0 ρ h1 else none
  | .whl c body, ρ, h => if C.calm then whlLp (tst C c) (exs C K body) C.wf ρ h else none
  | .ret e, ρ, h => sE ρ (ev C e ρ h) fun x h1 => some (.rt x h1)
  | .retN, _, h => some (.rt .non h)
  | .raise c es, ρ, h => if C.calm then sE ρ (evs C es ρ h) fun ws h1 => match K c with
      | some ps => if ps.length = ws.length then some (.ex c (ps.zip ws).reverse ρ h1) else none
      | none => none
    else none
  | .try_ body hs, ρ, h => if C.calm then (match exs C K body ρ h with
      | some (.ex c fs ρ1 h1) => hdl C K hs c fs ρ1 h1
      | y => y) else none
  | .pass, ρ, h => some (.nx ρ h)
  | .brk, ρ, h => some (.bk ρ h)
  | .cnt, ρ, h => some (.ct ρ h)
def exs (C : Cfg) (K : Nat → Option (List Nat)) : MSs → Lo → MH → Sm
  | .nil, ρ, h => some (.nx ρ h)
  | .cons s ss, ρ, h => sQ (ex C K s ρ h) fun ρ1 h1 => exs C K ss ρ1 h1
def hdl (C : Cfg) (K : Nat → Option (List Nat)) : MHs → Nat → List (Nat × W) → Lo → MH → Sm
  | .nil, c, fs, ρ, h => some (.ex c fs ρ h)
  | .stop, _, _, _, _ => none
  | .cons c' slot body r, c, fs, ρ, h => match C.sub c c' with
    | some true => (match slot with
      | some i => if (match body with | .nil => true | _ => false) then none else
        match exs { C with call := fun _ _ _ => none, has := fun _ => false, calm := false, exn := some (i, h.length) } K body (ρ.set i none) (h ++ [.xd fs]) with
        | some (.nx ρ1 h1) => some (.nx (ρ1.set i none) h1)
        | some (.rt w h1) => some (.rt w h1)
        | some (.bk ρ1 h1) => some (.bk (ρ1.set i none) h1)
        | some (.ct ρ1 h1) => some (.ct (ρ1.set i none) h1)
        | _ => none
      | none => match exs { C with call := fun _ _ _ => none, has := fun _ => false, calm := false, exn := none } K body ρ (h ++ [.xd fs]) with
        | some (.ex _ _ _ _) => none
        | y => y)
    | some false => hdl C K r c fs ρ h
    | none => none
end
/-! ### the defs -/
structure MDef where
  np : Nat
  ns : Nat
  body : MSs
structure Tab where
  defs : Nat → Option MDef
  excs : Nat → Option (List Nat)
  wf : Nat
  glb : Nat → Option W
  cdt : Nat → Option (List (Str × W))
  sub : Nat → Nat → Option Bool
  /-- a def called with its last arguments left out -/
  dfl : Nat → Option (Nat × List W) := fun _ => none
def cfgCall (T : Tab) (call : Nat → List W → MH → Mo W) (f : Nat) (ws : List W) (h : MH) : Mo W := match T.dfl f with
  | some (g, ds) => call g (ws ++ ds) h
  | none => call f ws h
def cfgHas (T : Tab) (f : Nat) : Bool := match T.dfl f with
  | some (g, _) => (T.defs g).isSome
  | none => (T.defs f).isSome
def cfg (T : Tab) (call : Nat → List W → MH → Mo W) : Cfg := { call := cfgCall T call, has := cfgHas T, calm := true, exn := none, wf := T.wf, glb := T.glb, cdt := T.cdt, sub := T.sub }
def endOf (x : Sm) : Mo W := match x with
  | some (.nx _ h) => rt .non h
  | some (.rt w h) => rt w h
  | some (.ex c fs _ h) => some (.ex c fs h)
  | _ => none
def run (T : Tab) : Nat → Nat → List W → MH → Mo W
  | 0, _, _, _ => none
  | k + 1, f, ws, h => match T.defs f with
    | none => none
    | some d => if ws.length = d.np then endOf (exs (cfg T (run T k)) T.excs d.body (ws.map some ++ List.replicate (d.ns - d.np) none) h) else none
end Mi
set_option Elab.async false
set_option linter.all false
set_option maxRecDepth 100000
set_option maxHeartbeats 1000000
/-! How the small heap lies in the model's. -/
namespace Mi
open PySem PySem.Spec PyProof.Rows L2
structure Gx where
  K : PySem.W.Frag
  w : World
  mg : Str → Option Value
  gn : Nat → Str
  fn : Nat → Str
  cls : Nat → Value
  xa : Option (Addr × Addr)
mutual
def RW (G : Gx) (H : Hp) (μ : List Addr) : W → V → Prop
  | .non, v => v = .non
  | .bl b, v => v = .bl b
  | .int i, v => v = .int i
  | .str s, v => v = .str s
  | .tup xs, v => ∃ a vs, v = .ref a ∧ SqT G.K H a vs ∧ RWs G H μ xs vs
  | .ref n, v => ∃ a, v = .ref a ∧ μ[n]? = some a
  | .nm x, v => ∃ u, G.mg (G.gn x) = some u ∧ RelV v u
def RWs (G : Gx) (H : Hp) (μ : List Addr) : List W → List V → Prop
  | [], vs => vs = []
  | x :: xs, vs => ∃ v r, vs = v :: r ∧ RW G H μ x v ∧ RWs G H μ xs r
end
def RKs (G : Gx) (H : Hp) (μ : List Addr) : List (Key × W) → List (Key × V) → Prop
  | [], vs => vs = []
  | (k, x) :: xs, vs => ∃ v r, vs = (k, v) :: r ∧ RW G H μ x v ∧ RKs G H μ xs r
def RFs (G : Gx) (H : Hp) (μ : List Addr) : List (Nat × W) → List (Str × V) → Prop
  | [], vs => vs = []
  | (k, x) :: xs, vs => ∃ v r, vs = (G.fn k, v) :: r ∧ RW G H μ x v ∧ RFs G H μ xs r
def RO (G : Gx) (H : Hp) (μ : List Addr) : O → HO → Prop
  | .lst xs, o => ∃ vs, o = .lst vs ∧ RWs G H μ xs vs
  | .dct kvs, o => ∃ vs, o = .dK vs ∧ RKs G H μ kvs vs
  | .xd fs, o => ∃ vs, o = .xd vs ∧ RFs G H μ fs vs
  | .fl xs, o => ∃ vs ob, o = .frz ob (.lst vs) ∧ RWs G H μ xs vs
structure RH (G : Gx) (H : Hp) (μ : List Addr) (h : MH) : Prop where
  len : μ.length = h.length
  nd : μ.Nodup
  at_ : ∀ (n : Nat) (o : O), h[n]? = some o → ∃ a ho, μ[n]? = some a ∧ H a = some ho ∧ RO G H μ o ho
  sy : ∃ ob, H sysModules = some (.frz ob (.own sysModules))
structure Ext (G : Gx) (H : Hp) (μ : List Addr) (H' : Hp) (μ' : List Addr) : Prop where
  pre : ∃ t, μ' = μ ++ t
  tup : ∀ a xs, SqT G.K H a xs → SqT G.K H' a xs
section
variable {G : Gx} {H H' H2 : Hp} {μ μ' μ2 : List Addr} {h : MH}
theorem Ext.refl : Ext G H μ H μ := ⟨⟨[], by simp⟩, fun _ _ h => h⟩
theorem Ext.trans (a : Ext G H μ H' μ') (b : Ext G H' μ' H2 μ2) : Ext G H μ H2 μ2 := by
  obtain ⟨t, rfl⟩ := a.pre
  obtain ⟨t', rfl⟩ := b.pre
  exact ⟨⟨t ++ t', by simp⟩, fun x xs h => b.tup x xs (a.tup x xs h)⟩
theorem Ext.get (e : Ext G H μ H' μ') {n : Nat} {a : Addr} (h : μ[n]? = some a) : μ'[n]? = some a := by
  obtain ⟨t, rfl⟩ := e.pre
  obtain ⟨hl, _⟩ := List.getElem?_eq_some_iff.mp h
  rw [List.getElem?_append_left hl]; exact h
mutual
theorem RW.mono (e : Ext G H μ H' μ') : ∀ (w : W) (v : V), RW G H μ w v → RW G H' μ' w v
  | .non, _, h => by simpa only [RW] using h
  | .bl _, _, h => by simpa only [RW] using h
  | .int _, _, h => by simpa only [RW] using h
  | .str _, _, h => by simpa only [RW] using h
  | .tup xs, v, h => by
    simp only [RW] at h ⊢
    obtain ⟨a, vs, h1, h2, h3⟩ := h
    exact ⟨a, vs, h1, e.tup _ _ h2, RWs.mono e xs vs h3⟩
  | .ref n, v, h => by
    simp only [RW] at h ⊢
    obtain ⟨a, h1, h2⟩ := h
    exact ⟨a, h1, e.get h2⟩
  | .nm x, v, h => by simpa only [RW] using h
theorem RWs.mono (e : Ext G H μ H' μ') : ∀ (ws : List W) (vs : List V), RWs G H μ ws vs → RWs G H' μ' ws vs
  | [], _, h => by simpa only [RWs] using h
  | x :: xs, vs, h => by
    simp only [RWs] at h ⊢
    obtain ⟨v, r, h1, h2, h3⟩ := h
    exact ⟨v, r, h1, RW.mono e x v h2, RWs.mono e xs r h3⟩
end
theorem RKs.mono (e : Ext G H μ H' μ') : ∀ (ws : List (Key × W)) (vs : List (Key × V)), RKs G H μ ws vs → RKs G H' μ' ws vs
  | [], _, h => by simpa only [RKs] using h
  | (k, x) :: xs, vs, h => by
    simp only [RKs] at h ⊢
    obtain ⟨v, r, h1, h2, h3⟩ := h
    exact ⟨v, r, h1, RW.mono e x v h2, RKs.mono e xs r h3⟩
theorem RFs.mono (e : Ext G H μ H' μ') : ∀ (ws : List (Nat × W)) (vs : List (Str × V)), RFs G H μ ws vs → RFs G H' μ' ws vs
  | [], _, h => by simpa only [RFs] using h
  | (k, x) :: xs, vs, h => by
    simp only [RFs] at h ⊢
    obtain ⟨v, r, h1, h2, h3⟩ := h
    exact ⟨v, r, h1, RW.mono e x v h2, RFs.mono e xs r h3⟩
theorem RO.mono (e : Ext G H μ H' μ') {o : O} {ho : HO} (h : RO G H μ o ho) : RO G H' μ' o ho := by
  cases o with
  | lst xs => obtain ⟨vs, h1, h2⟩ := h; exact ⟨vs, h1, RWs.mono e _ _ h2⟩
  | dct xs => obtain ⟨vs, h1, h2⟩ := h; exact ⟨vs, h1, RKs.mono e _ _ h2⟩
  | xd xs => obtain ⟨vs, h1, h2⟩ := h; exact ⟨vs, h1, RFs.mono e _ _ h2⟩
  | fl xs => obtain ⟨vs, ob, h1, h2⟩ := h; exact ⟨vs, ob, h1, RWs.mono e _ _ h2⟩
/-- no tuple -/
theorem RO.ntup {o : O} {ho : HO} (h : RO G H μ o ho) : (∀ xs, ho ≠ .tup xs) ∧ ∀ ob xs, ho ≠ .frz ob (.tup xs) := by
  cases o with
  | lst xs => obtain ⟨vs, rfl, h2⟩ := h; exact ⟨fun _ z => (by cases z), fun _ _ z => (by cases z)⟩
  | dct xs => obtain ⟨vs, rfl, h2⟩ := h; exact ⟨fun _ z => (by cases z), fun _ _ z => (by cases z)⟩
  | xd xs => obtain ⟨vs, rfl, h2⟩ := h; exact ⟨fun _ z => (by cases z), fun _ _ z => (by cases z)⟩
  | fl xs => obtain ⟨vs, ob, rfl, h2⟩ := h; exact ⟨fun _ z => (by cases z), fun _ _ z => (by cases z)⟩
theorem RO.nown {o : O} {ho : HO} (h : RO G H μ o ho) : ∀ {ob a}, ho ≠ .frz ob (.own a) := by
  cases o with
  | lst xs => obtain ⟨vs, rfl, h2⟩ := h; exact fun z => (by cases z)
  | dct xs => obtain ⟨vs, rfl, h2⟩ := h; exact fun z => (by cases z)
  | xd xs => obtain ⟨vs, rfl, h2⟩ := h; exact fun z => (by cases z)
  | fl xs => obtain ⟨vs, ob, rfl, h2⟩ := h; exact fun z => (by cases z)
theorem sqt_upd {a p : Addr} {xs : List V} {o : HO} (h : SqT G.K H a xs) (hp : ∀ u, H p = some u → (∀ xs, u ≠ .tup xs) ∧ ∀ ob xs, u ≠ .frz ob (.tup xs)) : SqT G.K (upd H p o) a xs := by
  rcases h with (h | ⟨ob, h⟩) | h
  · refine .inl (.inl ?_)
    rw [upd_ne]; exact h
    rintro rfl
    exact (hp _ h).1 _ rfl
  · refine .inl (.inr ⟨ob, ?_⟩)
    rw [upd_ne]; exact h
    rintro rfl
    exact (hp _ h).2 _ _ rfl
  · exact .inr h
theorem Ext.upd_ {p : Addr} {o : HO} (hp : ∀ u, H p = some u → (∀ xs, u ≠ .tup xs) ∧ ∀ ob xs, u ≠ .frz ob (.tup xs)) : Ext G H μ (upd H p o) μ :=
  ⟨⟨[], by simp⟩, fun _ _ h => sqt_upd h hp⟩
theorem Ext.new {p : Addr} {o : HO} (hp : H p = none) : Ext G H μ (L2.upd H p o) μ := Ext.upd_ fun u e => by rw [hp] at e; cases e
theorem Ext.more (t : List Addr) : Ext G H μ H (μ ++ t) := ⟨⟨t, rfl⟩, fun _ _ h => h⟩
theorem RH.some_ (R : RH G H μ h) {a : Addr} (ha : a ∈ μ) : ∃ o, H a = some o := by
  obtain ⟨n, hn⟩ := List.mem_iff_getElem?.mp ha
  obtain ⟨hl, _⟩ := List.getElem?_eq_some_iff.mp hn
  have hl' : n < h.length := by rw [← R.len]; exact hl
  obtain ⟨a', ho, h1, h2, _⟩ := R.at_ n h[n] (by simp [hl'])
  rw [hn] at h1
  cases h1
  exact ⟨ho, h2⟩
theorem RH.fresh (R : RH G H μ h) {p : Addr} (hp : H p = none) : p ∉ μ := fun hm => by
  obtain ⟨o, e⟩ := R.some_ hm
  rw [hp] at e; cases e
/-- something that is not ours is laid -/
theorem RH.side (R : RH G H μ h) {p : Addr} {o : HO} (hp : H p = none) : RH G (upd H p o) μ h := by
  refine ⟨R.len, R.nd, fun n ob hn => ?_, R.sy.imp fun ob e => by rw [upd_ne (ne_of_none e hp)]; exact e⟩
  obtain ⟨a, ho, h1, h2, h3⟩ := R.at_ n ob hn
  refine ⟨a, ho, h1, ?_, h3.mono (Ext.new hp)⟩
  rw [upd_ne (ne_of_none h2 hp)]; exact h2
/-- a new object of ours -/
theorem RH.new (R : RH G H μ h) {p : Addr} {o : O} {ho : HO} (hp : H p = none) (hr : RO G H μ o ho) : RH G (upd H p ho) (μ ++ [p]) (h ++ [o]) := by
  have ex : Ext G H μ (upd H p ho) (μ ++ [p]) := (Ext.new hp).trans (Ext.more _)
  refine ⟨by simp [R.len], ?_, fun n ob hn => ?_, R.sy.imp fun ob e => by rw [upd_ne (ne_of_none e hp)]; exact e⟩
  · refine List.nodup_append.mpr ⟨R.nd, by simp, fun a ha b hb => ?_⟩
    have : b = p := by simpa using hb
    subst this
    rintro rfl
    exact R.fresh hp ha
  · by_cases hl : n < h.length
    · rw [List.getElem?_append_left hl] at hn
      obtain ⟨a, ho', h1, h2, h3⟩ := R.at_ n ob hn
      refine ⟨a, ho', ex.get h1, ?_, h3.mono ex⟩
      rw [upd_ne (ne_of_none h2 hp)]; exact h2
    · have hl' : h.length ≤ n := Nat.le_of_not_lt hl
      rw [List.getElem?_append_right hl'] at hn
      obtain ⟨hb, e⟩ := List.getElem?_eq_some_iff.mp hn
      have hz : n - h.length = 0 := by simp at hb; omega
      have hn' : n = h.length := by omega
      subst hn'
      simp at e
      subst e
      refine ⟨p, ho, ?_, upd_same, hr.mono ex⟩
      rw [← R.len]; simp
theorem Ext.newO {p : Addr} {ho : HO} (hp : H p = none) : Ext G H μ (upd H p ho) (μ ++ [p]) := (Ext.new hp).trans (Ext.more _)
/-- one of ours is changed -/
theorem RH.set (R : RH G H μ h) {n : Nat} {a : Addr} {o o' : O} {ho' : HO} (hn : h[n]? = some o) (ha : μ[n]? = some a) (hr : RO G H μ o' ho') : RH G (upd H a ho') μ (h.set n o') ∧ Ext G H μ (upd H a ho') μ := by
  obtain ⟨a', ho, h1, h2, h3⟩ := R.at_ n o hn
  rw [ha] at h1; cases h1
  have ex : Ext G H μ (upd H a ho') μ := Ext.upd_ fun u e => by
    rw [h2] at e; cases e
    exact h3.ntup
  refine ⟨⟨by simp [R.len], R.nd, fun m ob hm => ?_, R.sy.imp fun ob e => by rw [upd_ne]; exact e; rintro rfl; rw [e] at h2; cases h2; exact h3.nown rfl⟩, ex⟩
  by_cases hmn : m = n
  · subst hmn
    obtain ⟨hl, _⟩ := List.getElem?_eq_some_iff.mp hn
    rw [List.getElem?_set_self hl] at hm
    cases hm
    exact ⟨a, ho', ha, upd_same, hr.mono ex⟩
  · rw [List.getElem?_set_ne (Ne.symm hmn)] at hm
    obtain ⟨b, hob, g1, g2, g3⟩ := R.at_ m ob hm
    refine ⟨b, hob, g1, ?_, g3.mono ex⟩
    rw [upd_ne]; exact g2
    rintro rfl
    obtain ⟨l1, e1⟩ := List.getElem?_eq_some_iff.mp g1
    obtain ⟨l2, e2⟩ := List.getElem?_eq_some_iff.mp ha
    exact hmn ((List.getElem_inj R.nd).mp (e1.trans e2.symm))
theorem RH.get (R : RH G H μ h) {n : Nat} {a : Addr} {o : O} (hn : h[n]? = some o) (ha : μ[n]? = some a) : ∃ ho, H a = some ho ∧ RO G H μ o ho := by
  obtain ⟨a', ho, h1, h2, h3⟩ := R.at_ n o hn
  rw [ha] at h1; cases h1
  exact ⟨ho, h2, h3⟩
theorem RH.lst (R : RH G H μ h) {n : Nat} {a : Addr} {xs : List W} (hn : h[n]? = some (.lst xs)) (ha : μ[n]? = some a) : ∃ vs, H a = some (.lst vs) ∧ RWs G H μ xs vs := by
  obtain ⟨ho, h1, vs, rfl, h3⟩ := R.get hn ha
  exact ⟨vs, h1, h3⟩
theorem RH.fl (R : RH G H μ h) {n : Nat} {a : Addr} {xs : List W} (hn : h[n]? = some (.fl xs)) (ha : μ[n]? = some a) : ∃ vs ob, H a = some (.frz ob (.lst vs)) ∧ RWs G H μ xs vs := by
  obtain ⟨ho, h1, vs, ob, rfl, h3⟩ := R.get hn ha
  exact ⟨vs, ob, h1, h3⟩
theorem RH.dct (R : RH G H μ h) {n : Nat} {a : Addr} {xs : List (Key × W)} (hn : h[n]? = some (.dct xs)) (ha : μ[n]? = some a) : ∃ vs, H a = some (.dK vs) ∧ RKs G H μ xs vs := by
  obtain ⟨ho, h1, vs, rfl, h3⟩ := R.get hn ha
  exact ⟨vs, h1, h3⟩
theorem RH.nsys (R : RH G H μ h) {a : Addr} (ha : a ∈ μ) : a ≠ sysModules := by
  obtain ⟨n, hn⟩ := List.mem_iff_getElem?.mp ha
  obtain ⟨hl, _⟩ := List.getElem?_eq_some_iff.mp hn
  have hl' : n < h.length := by rw [← R.len]; exact hl
  obtain ⟨a', ho, h1, h2, h3⟩ := R.at_ n h[n] (by simp [hl'])
  rw [hn] at h1
  cases h1
  obtain ⟨ob, e⟩ := R.sy
  rintro rfl
  rw [e] at h2; cases h2
  exact h3.nown rfl
theorem mem_of_get {n : Nat} {a : Addr} (h : μ[n]? = some a) : a ∈ μ := List.mem_of_getElem? h
theorem RH.ref (R : RH G H μ h) {n : Nat} {o : O} (hn : h[n]? = some o) : ∃ a, μ[n]? = some a := by
  obtain ⟨a, _, h1, _⟩ := R.at_ n o hn
  exact ⟨a, h1⟩
/-! ### lists -/
theorem RWs.length : ∀ {ws : List W} {vs : List V}, RWs G H μ ws vs → ws.length = vs.length
  | [], vs, h => by simp only [RWs] at h; subst h; rfl
  | x :: xs, vs, h => by
    simp only [RWs] at h
    obtain ⟨v, r, rfl, _, h3⟩ := h
    simp [RWs.length h3]
theorem RWs.get : ∀ {ws : List W} {vs : List V} {i : Nat} {w : W}, RWs G H μ ws vs → ws[i]? = some w → ∃ v, vs[i]? = some v ∧ RW G H μ w v
  | [], vs, i, w, h, e => by simp at e
  | x :: xs, vs, 0, w, h, e => by
    simp only [RWs] at h
    obtain ⟨v, r, rfl, h2, _⟩ := h
    simp at e; subst e
    exact ⟨v, rfl, h2⟩
  | x :: xs, vs, i + 1, w, h, e => by
    simp only [RWs] at h
    obtain ⟨v, r, rfl, _, h3⟩ := h
    simp at e
    obtain ⟨v', g1, g2⟩ := RWs.get h3 e
    exact ⟨v', by simpa using g1, g2⟩
theorem RWs.append : ∀ {ws : List W} {vs : List V} {ws' : List W} {vs' : List V}, RWs G H μ ws vs → RWs G H μ ws' vs' → RWs G H μ (ws ++ ws') (vs ++ vs')
  | [], vs, _, _, h, h' => by simp only [RWs] at h; subst h; exact h'
  | x :: xs, vs, _, _, h, h' => by
    simp only [RWs] at h
    obtain ⟨v, r, rfl, h2, h3⟩ := h
    simp only [List.cons_append, RWs]
    exact ⟨v, _, rfl, h2, RWs.append h3 h'⟩
theorem RWs.nil : RWs G H μ [] [] := by simp only [RWs]
theorem RWs.cons {x : W} {v : V} {xs : List W} {vs : List V} (h : RW G H μ x v) (t : RWs G H μ xs vs) : RWs G H μ (x :: xs) (v :: vs) := by
  simp only [RWs]
  exact ⟨v, vs, rfl, h, t⟩
theorem RWs.one {x : W} {v : V} (h : RW G H μ x v) : RWs G H μ [x] [v] := .cons h .nil
theorem RWs.take : ∀ {ws : List W} {vs : List V} (n : Nat), RWs G H μ ws vs → RWs G H μ (ws.take n) (vs.take n)
  | ws, vs, 0, h => by simp only [List.take_zero]; exact .nil
  | [], vs, n + 1, h => by simp only [RWs] at h; subst h; exact .nil
  | x :: xs, vs, n + 1, h => by
    simp only [RWs] at h
    obtain ⟨v, r, rfl, h2, h3⟩ := h
    exact .cons h2 (RWs.take n h3)
theorem RWs.drop : ∀ {ws : List W} {vs : List V} (n : Nat), RWs G H μ ws vs → RWs G H μ (ws.drop n) (vs.drop n)
  | ws, vs, 0, h => h
  | [], vs, n + 1, h => by simp only [RWs] at h; subst h; exact .nil
  | x :: xs, vs, n + 1, h => by
    simp only [RWs] at h
    obtain ⟨v, r, rfl, h2, h3⟩ := h
    exact RWs.drop n h3
theorem RWs.set : ∀ {ws : List W} {vs : List V} {x : W} {v : V} (n : Nat), RWs G H μ ws vs → RW G H μ x v → RWs G H μ (ws.set n x) (vs.set n v)
  | [], vs, _, _, n, h, _ => by simp only [RWs] at h; subst h; exact .nil
  | x :: xs, vs, y, w, 0, h, hx => by
    simp only [RWs] at h
    obtain ⟨v, r, rfl, h2, h3⟩ := h
    exact .cons hx h3
  | x :: xs, vs, y, w, n + 1, h, hx => by
    simp only [RWs] at h
    obtain ⟨v, r, rfl, h2, h3⟩ := h
    exact .cons h2 (RWs.set n h3 hx)
theorem RWs.cutV {ws : List W} {vs : List V} (h : RWs G H μ ws vs) (lo hi : Option Int) : RWs G H μ (cut ws lo hi) (L2.cutV vs lo hi) := by
  have e := h.length
  unfold cut L2.cutV
  rw [e]
  exact (h.drop _).take _
theorem RWs.atI {ws : List W} {vs : List V} {i : Int} {w : W} (h : RWs G H μ ws vs) (e : L2.atI ws i = some w) : ∃ v, L2.atI vs i = some v ∧ RW G H μ w v := by
  unfold L2.atI at e ⊢
  rw [← h.length]
  cases q : ixN ws.length i with
  | none => rw [q] at e; cases e
  | some j =>
    rw [q] at e
    exact h.get e
theorem RWs.strs : ∀ {ss : List Str} {vs : List V}, RWs G H μ (ss.map W.str) vs → vs = ss.map V.str
  | [], vs, h => by simpa only [List.map_nil, RWs] using h
  | s :: ss, vs, h => by
    simp only [List.map_cons, RWs] at h
    obtain ⟨v, r, rfl, h2, h3⟩ := h
    simp only [RW] at h2
    rw [RWs.strs h3, h2]; rfl
theorem RWs.of_strs : ∀ {ss : List Str}, RWs G H μ (ss.map W.str) (ss.map V.str)
  | [] => .nil
  | s :: ss => .cons (by simp only [RW]) RWs.of_strs
theorem blsOf_eq : ∀ {ws : List W} {bs : List Bool}, blsOf ws = some bs → ws = bs.map W.bl
  | [], bs, h => by simp [blsOf] at h; subst h; rfl
  | .bl b :: r, bs, h => by
    simp only [blsOf, Option.map_eq_some_iff] at h
    obtain ⟨bs', h1, rfl⟩ := h
    rw [blsOf_eq h1]; rfl
  | .non :: _, _, h => by simp [blsOf] at h
  | .int _ :: _, _, h => by simp [blsOf] at h
  | .str _ :: _, _, h => by simp [blsOf] at h
  | .tup _ :: _, _, h => by simp [blsOf] at h
  | .ref _ :: _, _, h => by simp [blsOf] at h
  | .nm _ :: _, _, h => by simp [blsOf] at h
theorem intsOf_eq : ∀ {ws : List W} {bs : List Int}, intsOf ws = some bs → ws = bs.map W.int
  | [], bs, h => by simp [intsOf] at h; subst h; rfl
  | .int b :: r, bs, h => by
    simp only [intsOf, Option.map_eq_some_iff] at h
    obtain ⟨bs', h1, rfl⟩ := h
    rw [intsOf_eq h1]; rfl
  | .non :: _, _, h => by simp [intsOf] at h
  | .bl _ :: _, _, h => by simp [intsOf] at h
  | .str _ :: _, _, h => by simp [intsOf] at h
  | .tup _ :: _, _, h => by simp [intsOf] at h
  | .ref _ :: _, _, h => by simp [intsOf] at h
  | .nm _ :: _, _, h => by simp [intsOf] at h
theorem strsOf_eq : ∀ {ws : List W} {bs : List Str}, strsOf ws = some bs → ws = bs.map W.str
  | [], bs, h => by simp [strsOf] at h; subst h; rfl
  | .str b :: r, bs, h => by
    simp only [strsOf, Option.map_eq_some_iff] at h
    obtain ⟨bs', h1, rfl⟩ := h
    rw [strsOf_eq h1]; rfl
  | .non :: _, _, h => by simp [strsOf] at h
  | .bl _ :: _, _, h => by simp [strsOf] at h
  | .int _ :: _, _, h => by simp [strsOf] at h
  | .tup _ :: _, _, h => by simp [strsOf] at h
  | .ref _ :: _, _, h => by simp [strsOf] at h
  | .nm _ :: _, _, h => by simp [strsOf] at h
theorem RWs.bls : ∀ {ss : List Bool} {vs : List V}, RWs G H μ (ss.map W.bl) vs → vs = ss.map V.bl
  | [], vs, h => by simpa only [List.map_nil, RWs] using h
  | s :: ss, vs, h => by
    simp only [List.map_cons, RWs] at h
    obtain ⟨v, r, rfl, h2, h3⟩ := h
    simp only [RW] at h2
    rw [RWs.bls h3, h2]; rfl
theorem RWs.ints : ∀ {ss : List Int} {vs : List V}, RWs G H μ (ss.map W.int) vs → vs = ss.map V.int
  | [], vs, h => by simpa only [List.map_nil, RWs] using h
  | s :: ss, vs, h => by
    simp only [List.map_cons, RWs] at h
    obtain ⟨v, r, rfl, h2, h3⟩ := h
    simp only [RW] at h2
    rw [RWs.ints h3, h2]; rfl
/-- a sequence that is read -/
theorem RH.seq (R : RH G H μ h) {x : W} {v : V} {ys : List W} (hx : RW G H μ x v) (e : seqOf x h = some ys) : ∃ a vs, v = .ref a ∧ (SqL G.K H a vs ∨ SqT G.K H a vs) ∧ RWs G H μ ys vs := by
  cases x with
  | tup xs =>
    simp only [seqOf, Option.some.injEq] at e; subst e
    simp only [RW] at hx
    obtain ⟨a, vs, h1, h2, h3⟩ := hx
    exact ⟨a, vs, h1, .inr h2, h3⟩
  | ref n =>
    simp only [RW] at hx
    obtain ⟨a, h1, h2⟩ := hx
    simp only [seqOf] at e
    split at e
    · rename_i xs hn
      cases e
      obtain ⟨vs, g1, g2⟩ := R.lst hn h2
      exact ⟨a, vs, h1, .inl (SqL.of g1), g2⟩
    · rename_i xs hn
      cases e
      obtain ⟨vs, ob, g1, g2⟩ := R.fl hn h2
      exact ⟨a, vs, h1, .inl (.inl (.inr ⟨ob, g1⟩)), g2⟩
    · cases e
  | _ => simp [seqOf] at e
theorem RH.lstOf (R : RH G H μ h) {x : W} {v : V} {ys : List W} (hx : RW G H μ x v) (e : lstOf x h = some ys) : ∃ a vs, v = .ref a ∧ SqL G.K H a vs ∧ RWs G H μ ys vs := by
  cases x with
  | ref n =>
    simp only [RW] at hx
    obtain ⟨a, h1, h2⟩ := hx
    simp only [Mi.lstOf] at e
    split at e
    · rename_i xs hn
      cases e
      obtain ⟨vs, g1, g2⟩ := R.lst hn h2
      exact ⟨a, vs, h1, SqL.of g1, g2⟩
    · cases e
  | _ => simp [Mi.lstOf] at e
end
end Mi
set_option Elab.async false
set_option linter.all false
set_option maxRecDepth 100000
set_option maxHeartbeats 1000000
/-! The operators by values. -/
namespace Mi
open PySem PySem.Spec PyProof.Rows L2
/-- what is wanted behind a value with its heap -/
def Fin1 (G : Gx) (μ : List Addr) (H : Hp) (w : W) (h' : MH) (Q : VK) : Prop := ∀ μ' H' v, Ext G H μ H' μ' → RH G H' μ' h' → RW G H' μ' w v → Q v H'
def rM2 (G : Gx) (f : W → W → MH → Option (W × MH)) : R2 := fun x y H Q => ∃ μ a b h w h', RW G H μ a x ∧ RW G H μ b y ∧ RH G H μ h ∧ f a b h = some (w, h') ∧ Fin1 G μ H w h' Q
def rMs (G : Gx) (f : List W → MH → Option (W × MH)) : List V → Hp → VK → Prop := fun xs H Q => ∃ μ ws h w h', RWs G H μ ws xs ∧ RH G H μ h ∧ f ws h = some (w, h') ∧ Fin1 G μ H w h' Q
def rMm (G : Gx) (f : W → List W → MH → Option (W × MH)) : V → List V → Hp → VK → Prop := fun x xs H Q => ∃ μ a ws h w h', RW G H μ a x ∧ RWs G H μ ws xs ∧ RH G H μ h ∧ f a ws h = some (w, h') ∧ Fin1 G μ H w h' Q
/-- what the rules of a body's surroundings need -/
structure Sur (G : Gx) (X : Cx) : Prop where
  k : X.K = G.K
  w : X.w = G.w
  mg : X.mg = G.mg
  un : X.A.units + 210 < cLine
  gd : X.A.guards = some []
section
variable {G : Gx} {X : Cx} {H H' : Hp} {μ μ' : List Addr} {h h' : MH} {Q : VK} {pins : List (Addr × Obj)} {s : Shared} {σ : L2.St}
theorem Fin1.same {w : W} {v : V} (f : Fin1 G μ H w h Q) (R : RH G H μ h) (r : RW G H μ w v) : Q v H := f μ H v Ext.refl R r
theorem Fin1.int {i : Int} (f : Fin1 G μ H (.int i) h Q) (R : RH G H μ h) : Q (.int i) H := f.same R (by simp only [RW])
theorem Fin1.bl {i : Bool} (f : Fin1 G μ H (.bl i) h Q) (R : RH G H μ h) : Q (.bl i) H := f.same R (by simp only [RW])
theorem Fin1.str {i : Str} (f : Fin1 G μ H (.str i) h Q) (R : RH G H μ h) : Q (.str i) H := f.same R (by simp only [RW])
theorem Fin1.non (f : Fin1 G μ H .non h Q) (R : RH G H μ h) : Q .non H := f.same R (by simp only [RW])
/-- a new tuple -/
theorem Fin1.tup {ws : List W} {vs : List V} (f : Fin1 G μ H (.tup ws) h Q) (R : RH G H μ h) (r : RWs G H μ ws vs) : ∀ p, H p = none → Q (.ref p) (L2.upd H p (.tup vs)) := fun p hp => by
  refine f μ _ (.ref p) (Ext.new hp) (R.side hp) ?_
  simp only [RW]
  exact ⟨p, vs, rfl, SqT.of upd_same, RWs.mono (Ext.new hp) _ _ r⟩
/-- a new list -/
theorem Fin1.lst {ws : List W} {vs : List V} (f : Fin1 G μ H (.ref h.length) (h ++ [.lst ws]) Q) (R : RH G H μ h) (r : RWs G H μ ws vs) : ∀ p, H p = none → Q (.ref p) (L2.upd H p (.lst vs)) := fun p hp => by
  refine f (μ ++ [p]) _ (.ref p) (Ext.newO hp) (R.new hp ⟨vs, rfl, r⟩) ?_
  simp only [RW]
  refine ⟨p, rfl, ?_⟩
  rw [← R.len]; simp
theorem rw_int {i : Int} {x : V} (r : RW G H μ (.int i) x) : x = .int i := by simpa only [RW] using r
theorem rw_bl {i : Bool} {x : V} (r : RW G H μ (.bl i) x) : x = .bl i := by simpa only [RW] using r
theorem rw_str {i : Str} {x : V} (r : RW G H μ (.str i) x) : x = .str i := by simpa only [RW] using r
theorem rw_non {x : V} (r : RW G H μ .non x) : x = .non := by simpa only [RW] using r
theorem rw_tup {xs : List W} {x : V} (r : RW G H μ (.tup xs) x) : ∃ a vs, x = .ref a ∧ SqT G.K H a vs ∧ RWs G H μ xs vs := by simpa only [RW] using r
theorem rw_ref {n : Nat} {x : V} (r : RW G H μ (.ref n) x) : ∃ a, x = .ref a ∧ μ[n]? = some a := by simpa only [RW] using r
theorem opM_add (S : Sur G X) : OpR X (binaryOp .Add) (rM2 G (binW .add)) := by
  intro pins s σ H x y v u Q I rx ry q
  obtain ⟨μ, a, b, h, w, h', ra, rb, R, e, f⟩ := q
  simp only [binW] at e
  unfold addW at e
  split at e
  · -- ints
    cases e
    cases rw_int ra; cases rw_int rb
    exact op_add pins s σ H _ _ v u Q I rx ry ⟨_, _, rfl, rfl, f.int R⟩
  · -- texts
    split at e
    · rename_i hz
      cases e
      cases rw_str ra; cases rw_str rb
      exact op_add_str pins s σ H _ _ v u Q I rx ry ⟨_, _, rfl, rfl, hz, f.str R⟩
    · cases e
  · -- tuples
    split at e
    · rename_i xs ys hz
      cases e
      obtain ⟨p, vs, rfl, t1, r1⟩ := rw_tup ra
      obtain ⟨p2, vs2, rfl, t2, r2⟩ := rw_tup rb
      refine op_catA pins s σ H _ _ v u Q I rx ry ⟨p, p2, vs, vs2, rfl, rfl, S.k ▸ t1, S.k ▸ t2, by rw [← r1.length, ← r2.length]; exact hz, fun e => ?_, fun _ e => ?_, fun _ _ => f.tup R (r1.append r2)⟩
      · subst e
        have : xs = [] := by have := r1.length; simpa using this
        subst this
        exact f.same R rb
      · subst e
        have : ys = [] := by have := r2.length; simpa using this
        subst this
        refine f.same R ?_
        simpa using ra
    · cases e
  · -- lists
    split at e
    · rename_i m n xs ys hm hn
      split at e
      · rename_i hz
        cases e
        obtain ⟨p, rfl, t1⟩ := rw_ref ra
        obtain ⟨p2, rfl, t2⟩ := rw_ref rb
        obtain ⟨vs, g1, r1⟩ := R.lst hm t1
        obtain ⟨vs2, g2, r2⟩ := R.lst hn t2
        exact op_cat pins s σ H _ _ v u Q I rx ry ⟨p, p2, vs, vs2, rfl, rfl, g1, g2, by rw [← r1.length, ← r2.length]; exact hz, f.lst R (r1.append r2)⟩
      · cases e
    · cases e
  · cases e
theorem opM_int {op : Operator} {o : BOp} {C : Int → Int → Prop} {g : Int → Int → Int} (S : Sur G X) (rule : OpR X (binaryOp op) (rI C fun i j => .int (g i j)))
    (hf : ∀ a b h w h', binW o a b h = some (w, h') → ∃ i j, a = .int i ∧ b = .int j ∧ C i j ∧ w = .int (g i j) ∧ h' = h) : OpR X (binaryOp op) (rM2 G (binW o)) := by
  intro pins s σ H x y v u Q I rx ry q
  obtain ⟨μ, a, b, h, w, h', ra, rb, R, e, f⟩ := q
  obtain ⟨i, j, rfl, rfl, c, rfl, rfl⟩ := hf _ _ _ _ _ e
  cases rw_int ra; cases rw_int rb
  exact rule pins s σ H _ _ v u Q I rx ry ⟨i, j, rfl, rfl, c, f.int R⟩
theorem opM_sub (S : Sur G X) : OpR X (binaryOp .Sub) (rM2 G (binW .sub)) := by
  refine opM_int (C := fun _ _ => True) (g := fun i j => i - j) S ?_ ?_
  · intro pins s σ H x y v u Q I rx ry q
    obtain ⟨i, j, a, b, _, q⟩ := q
    exact op_sub pins s σ H x y v u Q I rx ry ⟨i, j, a, b, q⟩
  · intro a b h w h' e
    simp only [binW] at e
    split at e
    · cases e; exact ⟨_, _, rfl, rfl, trivial, rfl, rfl⟩
    · cases e
theorem opM_mul (S : Sur G X) : OpR X (binaryOp .Mult) (rM2 G (binW .mul)) := by
  refine opM_int (C := CMul) (g := fun i j => i * j) S op_mul ?_
  intro a b h w h' e
  simp only [binW] at e
  split at e
  · split at e
    · rename_i hc; cases e; exact ⟨_, _, rfl, rfl, hc, rfl, rfl⟩
    · cases e
  · cases e
theorem opM_fdv (S : Sur G X) : OpR X (binaryOp .FloorDiv) (rM2 G (binW .fdv)) := by
  refine opM_int (C := CDiv) (g := fun i j => i / j) S op_fdiv ?_
  intro a b h w h' e
  simp only [binW] at e
  split at e
  · split at e
    · rename_i hc; cases e; exact ⟨_, _, rfl, rfl, hc, rfl, rfl⟩
    · cases e
  · cases e
theorem opM_mod (S : Sur G X) : OpR X (binaryOp .Mod) (rM2 G (binW .mod)) := by
  refine opM_int (C := fun _ j => 0 < j) (g := fun i j => i % j) S op_mod ?_
  intro a b h w h' e
  simp only [binW] at e
  split at e
  · split at e
    · rename_i hc; cases e; exact ⟨_, _, rfl, rfl, hc, rfl, rfl⟩
    · cases e
  · cases e
theorem opM_pow (S : Sur G X) : OpR X (binaryOp .Pow) (rM2 G (binW .pow)) := by
  refine opM_int (C := CPow) (g := fun i j => i ^ j.toNat) S op_pow ?_
  intro a b h w h' e
  simp only [binW] at e
  split at e
  · split at e
    · rename_i hc; cases e; exact ⟨_, _, rfl, rfl, hc, rfl, rfl⟩
    · cases e
  · cases e
/-! ### data -/
theorem mapM_some {α β : Type} {f : α → Option β} : ∀ {l : List α} {r : List β}, l.mapM f = some r → (l = [] ∧ r = []) ∨ ∃ a t b u, l = a :: t ∧ r = b :: u ∧ f a = some b ∧ t.mapM f = some u
  | [], r, h => by simp at h; exact .inl ⟨rfl, h⟩
  | a :: t, r, h => by
    rw [List.mapM_cons] at h
    cases q : f a with
    | none => rw [q] at h; cases h
    | some b =>
      rw [q] at h
      cases q2 : t.mapM f with
      | none => rw [q2] at h; cases h
      | some u =>
        rw [q2] at h
        cases h
        exact .inr ⟨a, t, b, u, rfl, rfl, q, q2⟩
theorem Inv.tupR (I : Inv X pins σ H s) {a : Addr} {vs : List V} (h : SqT X.K H a vs) : ∃ o its n, Vals vs its ∧ s.heap.get? a = some o ∧ o.cls = .type "tuple" ∧ o.data = .seq its.toArray n := by
  obtain ⟨its, r, ⟨o, h1, h2, n, h3⟩, _⟩ := I.tuple h
  exact ⟨o, its, n, r, h1, h2, h3⟩
theorem all_reads (f : W → Option PyData) (hf : ∀ (w : W) (d : PyData) (v : V) (u : Value), f w = some d → RW G H μ w v → RelV v u → ∃ as, Reads s.heap u d as ∧ sysModules ∉ as) :
    ∀ (ws : List W) (ds : List PyData) (vs : List V) (us : List Value), ws.mapM f = some ds → RWs G H μ ws vs → Vals vs us → ∃ as, ReadsAll s.heap us ds as ∧ sysModules ∉ as
  | [], ds, vs, us, e, r, rv => by
    simp at e; subst e
    simp only [RWs] at r; subst r
    cases rv
    exact ⟨[], .nil, by simp⟩
  | w :: ws, ds, vs, us, e, r, rv => by
    rcases mapM_some e with ⟨z, _⟩ | ⟨a, t, d, u, z, rfl, e1, e2⟩
    · cases z
    · cases z
      simp only [RWs] at r
      obtain ⟨v, vr, rfl, r1, r2⟩ := r
      cases rv with
      | cons q1 q2 =>
        obtain ⟨as, h1, h2⟩ := hf _ _ _ _ e1 r1 q1
        obtain ⟨bs, h3, h4⟩ := all_reads f hf ws u vr _ e2 r2 q2
        exact ⟨as ++ bs, .cons h1 h3, by simp [h2, h4]⟩
theorem pairs_vals {P : Program} {w : World} : ∀ {es : List DictEntry} {vs : List (Key × Value)} {kvs : List (Key × V)}, Pairs (mixKind P w) es vs → KV kvs vs →
    Vals (kvs.map fun kv => kV kv.1) (es.map (·.key)) ∧ Vals (kvs.map (·.2)) (es.map (·.val))
  | [], _, _, .nil, .nil => ⟨.nil, .nil⟩
  | e :: es, _, _, .cons (kv := kv) h1 h2 h3, .cons (a := p) r1 r2 => by
    obtain ⟨g1, g2⟩ := pairs_vals h3 r2
    have hk : keyIs kv.1 e.key = true := h1
    refine ⟨.cons ?_ g1, .cons ?_ g2⟩
    · have := relV_key hk
      rw [← r1.1] at this; exact this
    · show L2.RelV p.2 e.val
      rw [h2]; exact r1.2
theorem dk_parts (I : Inv X pins σ H s) {a : Addr} {kvs : List (Key × V)} (h : H a = some (.dK kvs)) : ∃ o es n, s.heap.get? a = some o ∧ o.cls = .type "dict" ∧ o.data = .dict es n ∧ Vals (kvs.map fun kv => kV kv.1) (es.toList.map (·.key)) ∧ Vals (kvs.map (·.2)) (es.toList.map (·.val)) := by
  obtain ⟨_, _, vs, r, o, es, ep, h1, h2, h3, _, h4, _⟩ := (show ObjOk X.prog X.w H s.heap a (.dK kvs) from I.hok a _ h)
  obtain ⟨g1, g2⟩ := pairs_vals h4 r
  exact ⟨o, es, ep, h1, h2.1, h3, g1, g2⟩
theorem keys_reads : ∀ (ks : List Key) (us : List Value), Vals (ks.map kV) us → ReadsAll s.heap us (ks.map keyD) []
  | [], us, r => by cases r; exact .nil
  | k :: ks, us, r => by
    cases r with
    | cons q1 q2 =>
      refine .cons (as := []) (bs := []) ?_ (keys_reads ks _ q2)
      cases k with
      | inl i => obtain ⟨t, rfl⟩ := q1; exact .int i t
      | inr x => obtain ⟨t, rfl⟩ := q1; exact .str x t
theorem RKs.keys : ∀ {kvs : List (Key × W)} {vs : List (Key × V)}, RKs G H μ kvs vs → vs.map (·.1) = kvs.map (·.1)
  | [], vs, h => by simp only [RKs] at h; subst h; rfl
  | (k, x) :: xs, vs, h => by
    simp only [RKs] at h
    obtain ⟨v, r, rfl, _, h3⟩ := h
    simp [RKs.keys h3]
theorem RKs.vals : ∀ {kvs : List (Key × W)} {vs : List (Key × V)}, RKs G H μ kvs vs → RWs G H μ (kvs.map (·.2)) (vs.map (·.2))
  | [], vs, h => by simp only [RKs] at h; subst h; exact .nil
  | (k, x) :: xs, vs, h => by
    simp only [RKs] at h
    obtain ⟨v, r, rfl, h2, h3⟩ := h
    exact .cons h2 (RKs.vals h3)
theorem RKs.get (k : Key) : ∀ {kvs : List (Key × W)} {vs : List (Key × V)}, RKs G H μ kvs vs → match kvGet kvs k, valV vs k with
    | some w, some v => RW G H μ w v
    | none, none => True
    | _, _ => False
  | [], vs, h => by simp only [RKs] at h; subst h; trivial
  | (k', x) :: xs, vs, h => by
    simp only [RKs] at h
    obtain ⟨v, r, rfl, h2, h3⟩ := h
    unfold kvGet
    by_cases e : k' = k
    · rw [if_pos e, valV_pos e]; exact h2
    · rw [if_neg e, valV_neg e]; exact RKs.get k h3
theorem RKs.get_some {k : Key} {kvs : List (Key × W)} {vs : List (Key × V)} {w : W} (h : RKs G H μ kvs vs) (e : kvGet kvs k = some w) : ∃ v, valV vs k = some v ∧ RW G H μ w v := by
  have q := h.get k
  rw [e] at q
  cases z : valV vs k with
  | none => rw [z] at q; exact q.elim
  | some v => rw [z] at q; exact ⟨v, rfl, q⟩
theorem RKs.isSome {k : Key} {kvs : List (Key × W)} {vs : List (Key × V)} (h : RKs G H μ kvs vs) : (kvGet kvs k).isSome = (valV vs k).isSome := by
  have q := h.get k
  cases z1 : kvGet kvs k <;> cases z : valV vs k <;> rw [z1, z] at q <;> first | rfl | exact q.elim
theorem RKs.length {kvs : List (Key × W)} {vs : List (Key × V)} (h : RKs G H μ kvs vs) : kvs.length = vs.length := by
  have := congrArg List.length h.keys
  simpa using this.symm
theorem RKs.append : ∀ {a : List (Key × W)} {vs : List (Key × V)} {b : List (Key × W)} {us : List (Key × V)}, RKs G H μ a vs → RKs G H μ b us → RKs G H μ (a ++ b) (vs ++ us)
  | [], vs, _, _, h, h' => by simp only [RKs] at h; subst h; exact h'
  | (k, x) :: xs, vs, _, _, h, h' => by
    simp only [RKs] at h
    obtain ⟨v, r, rfl, h2, h3⟩ := h
    simp only [List.cons_append, RKs]
    exact ⟨v, _, rfl, h2, RKs.append h3 h'⟩
theorem RKs.repl (k : Key) {w : W} {v : V} (hw : RW G H μ w v) : ∀ {kvs : List (Key × W)} {vs : List (Key × V)}, RKs G H μ kvs vs →
    RKs G H μ (kvs.map fun kv => if kv.1 = k then (kv.1, w) else kv) (vs.map fun kv => if kv.1 = k then (kv.1, v) else kv)
  | [], vs, h => by simp only [RKs] at h; subst h; simp only [List.map_nil, RKs]
  | (k', x) :: xs, vs, h => by
    simp only [RKs] at h
    obtain ⟨v', r, rfl, h2, h3⟩ := h
    simp only [List.map_cons]
    by_cases e : k' = k
    · simp only [e, if_true, RKs]; exact ⟨_, _, rfl, hw, RKs.repl k hw h3⟩
    · simp only [e, if_false, RKs]; exact ⟨_, _, rfl, h2, RKs.repl k hw h3⟩
theorem RKs.put {k : Key} {w : W} {v : V} {kvs : List (Key × W)} {vs : List (Key × V)} (h : RKs G H μ kvs vs) (hw : RW G H μ w v) : RKs G H μ (kvPut kvs k w) (putK vs k v) := by
  unfold kvPut putK
  rw [h.isSome, valV_any]
  split
  · exact h.repl k hw
  · exact h.append (by simp only [RKs]; exact ⟨v, [], rfl, hw, rfl⟩)
theorem mapM_length {α β : Type} {f : α → Option β} : ∀ {l : List α} {r : List β}, l.mapM f = some r → l.length = r.length
  | [], r, h => by simp at h; subst h; rfl
  | a :: t, r, h => by
    rcases mapM_some h with ⟨z, _⟩ | ⟨a', t', b, u, z, rfl, e1, e2⟩
    · cases z
    · cases z; simp [mapM_length e2]
theorem dat_reads (S : Sur G X) (I : Inv X pins σ H s) (R : RH G H μ h) : ∀ (n : Nat) (w : W) (d : PyData) (v : V) (u : Value), dat n h w = some d → RW G H μ w v → RelV v u → ∃ as, Reads s.heap u d as ∧ sysModules ∉ as
  | 0, w, d, v, u, e, _, _ => by simp [dat] at e
  | n + 1, w, d, v, u, e, r, rv => by
    cases w with
    | non => simp only [dat, Option.some.injEq] at e; subst e; cases rw_non r; cases rv; exact ⟨[], .none, by simp⟩
    | bl b => simp only [dat, Option.some.injEq] at e; subst e; cases rw_bl r; cases rv; exact ⟨[], .bool b, by simp⟩
    | int i => simp only [dat, Option.some.injEq] at e; subst e; cases rw_int r; obtain ⟨t, rfl⟩ := rv; exact ⟨[], .int i t, by simp⟩
    | str i => simp only [dat, Option.some.injEq] at e; subst e; cases rw_str r; obtain ⟨t, rfl⟩ := rv; exact ⟨[], .str i t, by simp⟩
    | nm x => simp [dat] at e
    | tup xs =>
      simp only [dat, Option.map_eq_some_iff] at e
      obtain ⟨ds, e1, rfl⟩ := e
      obtain ⟨a, vs, rfl, t1, r1⟩ := rw_tup r
      cases rv
      obtain ⟨o, its, k, rvs, g1, g2, g3⟩ := Inv.tupR I (S.k ▸ t1)
      obtain ⟨as, h1, h2⟩ := all_reads (s := s) (dat n h) (fun w d v u e r rv => dat_reads S I R n w d v u e r rv) xs ds vs its e1 r1 rvs
      exact ⟨as, .tuple g1 g2 g3 (by simpa using h1), h2⟩
    | ref m =>
      obtain ⟨a, rfl, t1⟩ := rw_ref r
      cases rv
      simp only [dat] at e
      split at e
      · rename_i xs hm
        simp only [Option.map_eq_some_iff] at e
        obtain ⟨ds, e1, rfl⟩ := e
        obtain ⟨vs, g1, r1⟩ := R.lst hm t1
        obtain ⟨its, k, rvs, hh, _⟩ := L2.Inv.lst I g1
        obtain ⟨as, h1, h2⟩ := all_reads (s := s) (dat n h) (fun w d v u e r rv => dat_reads S I R n w d v u e r rv) xs ds vs its e1 r1 rvs
        exact ⟨a :: as, .list hh rfl rfl (by simpa using h1), by simp [h2, Ne.symm (R.nsys (mem_of_get t1))]⟩
      · rename_i kvs hm
        simp only [Option.map_eq_some_iff] at e
        obtain ⟨ds, e1, rfl⟩ := e
        obtain ⟨vs, g1, r1⟩ := R.dct hm t1
        obtain ⟨o, es, k, h1, h2, h3, v1, v2⟩ := dk_parts I g1
        have hl := mapM_length e1
        have hl' : (kvs.map fun kv => keyD kv.1).length = ds.length := by simpa using hl
        obtain ⟨bs, b1, b2⟩ := all_reads (s := s) (dat n h) (fun w d v u e r rv => dat_reads S I R n w d v u e r rv) _ ds _ _ e1 r1.vals v2
        have kk : vs.map (fun kv => kV kv.1) = (kvs.map (·.1)).map kV := by rw [← r1.keys, List.map_map]; rfl
        rw [kk] at v1
        have a1 := keys_reads (s := s) _ _ v1
        refine ⟨a :: [] ++ bs, .dict h1 h2 h3 (as := []) (bs := bs) ?_ ?_, by simp [b2, Ne.symm (R.nsys (mem_of_get t1))]⟩
        · rw [List.map_fst_zip (by omega)]
          rw [List.map_map] at a1
          exact a1
        · rw [List.map_snd_zip (by omega)]
          exact b1
      · cases e
theorem depthAll_le : ∀ (ds : List PyData) (n : Nat), (∀ d ∈ ds, d.depth ≤ n) → PyData.depthAll ds ≤ n
  | [], n, _ => by simp [PyData.depthAll]
  | d :: ds, n, h => by
    simp only [PyData.depthAll]
    exact Nat.max_le.mpr ⟨h d List.mem_cons_self, depthAll_le ds n fun x hx => h x (List.mem_cons_of_mem _ hx)⟩
theorem mapM_mem {α β : Type} {f : α → Option β} : ∀ {l : List α} {r : List β}, l.mapM f = some r → ∀ b ∈ r, ∃ a ∈ l, f a = some b
  | [], r, h => by simp at h; subst h; intro b hb; cases hb
  | a :: t, r, h => by
    rcases mapM_some h with ⟨z, _⟩ | ⟨a', t', b, u, z, rfl, e1, e2⟩
    · cases z
    · cases z
      intro c hc
      rcases List.mem_cons.mp hc with rfl | hc
      · exact ⟨a, List.mem_cons_self, e1⟩
      · obtain ⟨x, hx, e⟩ := mapM_mem e2 c hc
        exact ⟨x, List.mem_cons_of_mem _ hx, e⟩
theorem keyD_depth (k : Key) : (keyD k).depth = 0 := by cases k <;> rfl
theorem depthKv_le (n : Nat) : ∀ (ks : List Key) (ds : List PyData), (∀ d ∈ ds, d.depth ≤ n) → PyData.depthKv ((ks.map keyD).zip ds) ≤ n
  | [], _, _ => by simp [PyData.depthKv]
  | _ :: _, [], _ => by simp [PyData.depthKv]
  | k :: ks, d :: ds, h => by
    simp only [List.map_cons, List.zip_cons_cons, PyData.depthKv, keyD_depth]
    have h1 := h d List.mem_cons_self
    have h2 := depthKv_le n ks ds fun x hx => h x (List.mem_cons_of_mem _ hx)
    omega
theorem dat_depth : ∀ (n : Nat) (w : W) (d : PyData), dat n h w = some d → d.depth ≤ n
  | 0, w, d, e => by simp [dat] at e
  | n + 1, w, d, e => by
    cases w with
    | non => simp only [dat, Option.some.injEq] at e; subst e; simp [PyData.depth]
    | bl b => simp only [dat, Option.some.injEq] at e; subst e; simp [PyData.depth]
    | int i => simp only [dat, Option.some.injEq] at e; subst e; simp [PyData.depth]
    | str i => simp only [dat, Option.some.injEq] at e; subst e; simp [PyData.depth]
    | nm x => simp [dat] at e
    | tup xs =>
      simp only [dat, Option.map_eq_some_iff] at e
      obtain ⟨ds, e1, rfl⟩ := e
      simp only [PyData.depth]
      exact Nat.add_le_add_right (depthAll_le ds n fun d hd => let ⟨a, _, e⟩ := mapM_mem e1 d hd; dat_depth n a d e) 1
    | ref m =>
      simp only [dat] at e
      split at e
      · simp only [Option.map_eq_some_iff] at e
        obtain ⟨ds, e1, rfl⟩ := e
        simp only [PyData.depth]
        exact Nat.add_le_add_right (depthAll_le ds n fun d hd => let ⟨a, _, e⟩ := mapM_mem e1 d hd; dat_depth n a d e) 1
      · rename_i kvs hm
        simp only [Option.map_eq_some_iff] at e
        obtain ⟨ds, e1, rfl⟩ := e
        simp only [PyData.depth]
        have := depthKv_le n (kvs.map (·.1)) ds fun d hd => let ⟨a, _, e⟩ := mapM_mem e1 d hd; dat_depth n a d e
        rw [List.map_map] at this
        exact Nat.add_le_add_right this 1
      · cases e
end
end Mi
set_option Elab.async false
set_option linter.all false
set_option maxRecDepth 100000
set_option maxHeartbeats 1000000
/-! Truth, comparisons, subscripts, built-ins, methods by values. -/
namespace Mi
open PySem PySem.Spec PyProof.Rows L2
def rTru (G : Gx) : V → Hp → (Bool → Hp → Prop) → Prop := fun x H Q => ∃ μ a h k, RW G H μ a x ∧ RH G H μ h ∧ truW a h = some k ∧ Q k H
/-- a written dict with text keys -/
def KD (G : Gx) (x : Nat) (kvs : List (Str × W)) : Prop := ∃ a es n, G.mg (G.gn x) = some (.ref a) ∧ KDict G.K G.w a es n ∧
  ∀ z, ∃ r, PySem.W.nsIn G.K a z = some r ∧ (match kvGet kvs z, r with
    | some w, some u => ∃ v, RelV v u ∧ ∀ H μ, RW G H μ w v
    | none, none => True
    | _, _ => False)
def CfgD (G : Gx) (C : Cfg) : Prop := ∀ x kvs, C.cdt x = some kvs → KD G x kvs
def cop : COp → CmpOp
  | .eq => .Eq | .ne => .NotEq | .lt => .Lt | .le => .LtE | .gt => .Gt | .ge => .GtE | .is => .Is | .isn => .IsNot | .inn => .In | .nin => .NotIn
def fB (f : W → W → MH → Option Bool) : W → W → MH → Option (W × MH) := fun x y h => (f x y h).map fun r => (.bl r, h)
section
variable {G : Gx} {X : Cx} {C : Cfg} {H H' : Hp} {μ μ' : List Addr} {h h' : MH} {Q : VK} {pins : List (Addr × Obj)} {s : Shared} {σ : L2.St}
theorem truM (S : Sur G X) : TruR X (rTru G) := by
  intro pins s σ H x v Q I rx q
  obtain ⟨μ, a, h, k, ra, R, e, q⟩ := q
  refine tru_ok pins s σ H x v Q I rx ⟨k, ?_, q⟩
  cases a with
  | non => cases rw_non ra; simp only [truW, Option.some.injEq] at e; subst e; rfl
  | bl b => cases rw_bl ra; simp only [truW, Option.some.injEq] at e; subst e; rfl
  | int b => cases rw_int ra; simp only [truW, Option.some.injEq] at e; subst e; rfl
  | str b =>
    cases rw_str ra
    simp only [truW] at e
    split at e
    · rename_i hz; cases e; exact ⟨hz, rfl⟩
    · cases e
  | tup xs =>
    simp only [truW, Option.some.injEq] at e; subst e
    obtain ⟨p, vs, rfl, t1, r1⟩ := rw_tup ra
    refine .inr (.inl ⟨vs, S.k ▸ t1, ?_⟩)
    have := r1.length
    cases xs <;> cases vs <;> simp at this ⊢
  | ref n =>
    obtain ⟨p, rfl, t1⟩ := rw_ref ra
    simp only [truW] at e
    split at e
    · rename_i xs hn
      cases e
      obtain ⟨vs, g1, r1⟩ := R.lst hn t1
      refine .inl ⟨vs, SqL.of g1, ?_⟩
      have := r1.length
      cases xs <;> cases vs <;> simp at this ⊢
    · rename_i kvs hn
      cases e
      obtain ⟨vs, g1, r1⟩ := R.dct hn t1
      refine .inr (.inr ⟨vs, g1, ?_⟩)
      have := r1.length
      cases kvs <;> cases vs <;> simp at this ⊢
    · cases e
  | nm x => simp [truW] at e
theorem opB (S : Sur G X) {op : CmpOp} {f : W → W → MH → Option Bool}
    (run : ∀ (pins : List (Addr × Obj)) (s : Shared) (σ : L2.St) (H : Hp) (x y : V) (v u : Value) (Q : VK) (μ : List Addr) (a b : W) (h : MH) (k : Bool), Inv X pins σ H s → RelV x v → RelV y u → RW G H μ a x → RW G H μ b y → RH G H μ h → f a b h = some k → Q (.bl k) H →
      wpAny (model X.prog X.w) X.A (compareOp op v u) (EP X pins σ Q) X.xe s) : OpR X (compareOp op) (rM2 G (fB f)) := by
  intro pins s σ H x y v u Q I rx ry q
  obtain ⟨μ, a, b, h, w, h', ra, rb, R, e, fin⟩ := q
  simp only [fB, Option.map_eq_some_iff] at e
  obtain ⟨k, e, e2⟩ := e
  cases e2
  exact run pins s σ H x y v u Q μ a b h k I rx ry ra rb R e (fin.bl R)
theorem eqD_some {x y : W} {k : Bool} (e : eqD x y h = some k) : ∃ d d2, dat FU h x = some d ∧ dat FU h y = some d2 ∧ d.canLay0 = true ∧ d2.canLay0 = true ∧ k = PyData.eqv d d2 := by
  unfold eqD at e
  split at e
  · rename_i d d2 h1 h2
    split at e
    · rename_i hc
      cases e
      exact ⟨d, d2, h1, h2, hc.1, hc.2, rfl⟩
    · cases e
  · cases e
theorem opM_eqE (S : Sur G X) (pins : List (Addr × Obj)) (s : Shared) (σ : L2.St) (H : Hp) (x y : V) (v u : Value) (Q : VK) (μ : List Addr) (a b : W) (h : MH) (k : Bool) (I : Inv X pins σ H s) (rx : RelV x v) (ry : RelV y u) (ra : RW G H μ a x) (rb : RW G H μ b y) (R : RH G H μ h) (e : eqE a b h = some k) (q : Q (.bl k) H) :
    wpAny (model X.prog X.w) X.A (compareOp .Eq v u) (EP X pins σ Q) X.xe s := by
  have un : X.A.units < cLine := by have := S.un; omega
  unfold eqE at e
  split at e
  · cases e
    cases rw_str ra; cases rw_str rb
    obtain ⟨t, rfl⟩ := rx
    obtain ⟨t2, rfl⟩ := ry
    exact SeqAt.RcAt.str_str _ _ _ _ _ _ _ _ ⟨.bl _, H, I, rfl, q⟩
  · rename_i xs ys
    split at e
    · rename_i hz
      cases e
      obtain ⟨p, vs, rfl, t1, r1⟩ := rw_tup ra
      obtain ⟨p2, vs2, rfl, t2, r2⟩ := rw_tup rb
      cases rx; cases ry
      obtain ⟨i1, v1, p1, _⟩ := I.tuple (S.k ▸ t1)
      obtain ⟨i2, v2, q1, _⟩ := I.tuple (S.k ▸ t2)
      have l1 := r1.length.trans v1.length
      have l2 := r2.length.trans v2.length
      have hmin : min i1.toArray.size i2.toArray.size = 0 := by
        have h0 : xs.length = 0 ∨ ys.length = 0 := by cases xs <;> cases ys <;> simp at hz ⊢
        rw [List.size_toArray, List.size_toArray]
        omega
      refine SeqAt.RcAt.tuples (e := fun _ => true) (show s.heap.IsTuple p i1.toArray from p1) (show s.heap.IsTuple p2 i2.toArray from q1) un (fun j j1 j2 => by omega) _ _ _ _ ⟨.bl _, H, I, rfl, ?_⟩
      rw [hmin]
      have : ((List.range 0).all (fun _ => true) && i1.toArray.size == i2.toArray.size) = (xs.isEmpty && ys.isEmpty) := by
        simp only [List.size_toArray, ← l1, ← l2]
        cases xs <;> cases ys <;> simp at hz ⊢
      rw [this]; exact q
    · cases e
  · rename_i m n
    obtain ⟨p, rfl, t1⟩ := rw_ref ra
    obtain ⟨p2, rfl, t2⟩ := rw_ref rb
    cases rx; cases ry
    split at e
    · rename_i xs ys hx hy
      obtain ⟨vs, g1, r1⟩ := R.lst hx t1
      obtain ⟨vs2, g2, r2⟩ := R.lst hy t2
      obtain ⟨i1, v1, p1, _⟩ := I.list (SqL.of g1)
      obtain ⟨i2, v2, q1, _⟩ := I.list (SqL.of g2)
      have l1 := r1.length.trans v1.length
      have l2 := r2.length.trans v2.length
      split at e
      · rename_i hne
        cases e
        exact SeqAt.RcAt.lists_lengths p1.isList q1.isList (by simp only [List.size_toArray, ← l1, ← l2]; simpa using hne) un _ _ _ _ ⟨.bl _, H, I, rfl, q⟩
      · rename_i hne
        split at e
        · rename_i hz
          cases e
          have h0 : xs.length = 0 := by cases xs <;> simp at hz ⊢
          have heq : xs.length = ys.length := by simpa using hne
          refine SeqAt.RcAt.lists (e := fun _ => true) p1.isList q1.isList (by simp only [List.size_toArray, ← l1, ← l2]; exact heq) un (fun j j1 j2 => by simp only [List.size_toArray, ← l1] at j1; omega) _ _ _ _ ⟨.bl _, H, I, rfl, ?_⟩
          have : (List.range i1.toArray.size).all (fun _ => true) = true := by simp
          rw [this]; exact q
        · cases e
    · cases e
  · cases e
theorem opM_eq (S : Sur G X) : OpR X (compareOp .Eq) (rM2 G (fB (cmpW C .eq))) := opB S fun pins s σ H x y v u Q μ a b h k I rx ry ra rb R e q => by
  simp only [cmpW] at e
  split at e
  · rename_i k' hk
    cases e
    exact opM_eqE S pins s σ H x y v u Q μ a b h _ I rx ry ra rb R hk q
  obtain ⟨d, d2, h1, h2, c1, c2, rfl⟩ := eqD_some e
  obtain ⟨as, r1, _⟩ := dat_reads S I R _ _ _ _ _ h1 ra rx
  obtain ⟨bs, r2, _⟩ := dat_reads S I R _ _ _ _ _ h2 rb ry
  have z := dat_depth _ _ _ h1
  have un := S.un
  exact SeqAt.compareEq_reads r1 r2 c1 c2 (by unfold FU at z; omega) ⟨.bl _, H, I, rfl, q⟩
theorem opM_neE (S : Sur G X) (pins : List (Addr × Obj)) (s : Shared) (σ : L2.St) (H : Hp) (x y : V) (v u : Value) (Q : VK) (μ : List Addr) (a b : W) (h : MH) (k : Bool) (I : Inv X pins σ H s) (rx : RelV x v) (ry : RelV y u) (ra : RW G H μ a x) (rb : RW G H μ b y) (R : RH G H μ h) (e : eqE a b h = some k) (q : Q (.bl (!k)) H) :
    wpAny (model X.prog X.w) X.A (compareOp .NotEq v u) (EP X pins σ Q) X.xe s := by
  have un : X.A.units < cLine := by have := S.un; omega
  unfold eqE at e
  split at e
  · cases e
    cases rw_str ra; cases rw_str rb
    obtain ⟨t, rfl⟩ := rx
    obtain ⟨t2, rfl⟩ := ry
    exact SeqAt.RcNeAt.str_str _ _ _ _ _ _ _ _ ⟨.bl _, H, I, rfl, q⟩
  · rename_i xs ys
    split at e
    · rename_i hz
      cases e
      obtain ⟨p, vs, rfl, t1, r1⟩ := rw_tup ra
      obtain ⟨p2, vs2, rfl, t2, r2⟩ := rw_tup rb
      cases rx; cases ry
      obtain ⟨i1, v1, p1, _⟩ := I.tuple (S.k ▸ t1)
      obtain ⟨i2, v2, q1, _⟩ := I.tuple (S.k ▸ t2)
      have l1 := r1.length.trans v1.length
      have l2 := r2.length.trans v2.length
      have hmin : min i1.toArray.size i2.toArray.size = 0 := by
        have h0 : xs.length = 0 ∨ ys.length = 0 := by cases xs <;> cases ys <;> simp at hz ⊢
        rw [List.size_toArray, List.size_toArray]
        omega
      refine SeqAt.RcNeAt.tuples (e := fun _ => true) (show s.heap.IsTuple p i1.toArray from p1) (show s.heap.IsTuple p2 i2.toArray from q1) un (fun j j1 j2 => by omega) _ _ _ _ ⟨.bl _, H, I, rfl, ?_⟩
      rw [hmin]
      have : ((List.range 0).all (fun _ => true) && i1.toArray.size == i2.toArray.size) = (xs.isEmpty && ys.isEmpty) := by
        simp only [List.size_toArray, ← l1, ← l2]
        cases xs <;> cases ys <;> simp at hz ⊢
      rw [this]; exact q
    · cases e
  · rename_i m n
    obtain ⟨p, rfl, t1⟩ := rw_ref ra
    obtain ⟨p2, rfl, t2⟩ := rw_ref rb
    cases rx; cases ry
    split at e
    · rename_i xs ys hx hy
      obtain ⟨vs, g1, r1⟩ := R.lst hx t1
      obtain ⟨vs2, g2, r2⟩ := R.lst hy t2
      obtain ⟨i1, v1, p1, _⟩ := I.list (SqL.of g1)
      obtain ⟨i2, v2, q1, _⟩ := I.list (SqL.of g2)
      have l1 := r1.length.trans v1.length
      have l2 := r2.length.trans v2.length
      split at e
      · rename_i hne
        cases e
        exact SeqAt.RcNeAt.lists_lengths p1.isList q1.isList (by simp only [List.size_toArray, ← l1, ← l2]; simpa using hne) un _ _ _ _ ⟨.bl _, H, I, rfl, q⟩
      · rename_i hne
        split at e
        · rename_i hz
          cases e
          have h0 : xs.length = 0 := by cases xs <;> simp at hz ⊢
          have heq : xs.length = ys.length := by simpa using hne
          refine SeqAt.RcNeAt.lists (e := fun _ => true) p1.isList q1.isList (by simp only [List.size_toArray, ← l1, ← l2]; exact heq) un (fun j j1 j2 => by simp only [List.size_toArray, ← l1] at j1; omega) _ _ _ _ ⟨.bl _, H, I, rfl, ?_⟩
          have : (List.range i1.toArray.size).all (fun _ => true) = true := by simp
          rw [this]; exact q
        · cases e
    · cases e
  · cases e
theorem opM_ne (S : Sur G X) : OpR X (compareOp .NotEq) (rM2 G (fB (cmpW C .ne))) := opB S fun pins s σ H x y v u Q μ a b h k I rx ry ra rb R e q => by
  simp only [cmpW] at e
  split at e
  · rename_i k' hk
    cases e
    exact opM_neE S pins s σ H x y v u Q μ a b h _ I rx ry ra rb R hk q
  simp only [Option.map_eq_some_iff] at e
  obtain ⟨k', e, rfl⟩ := e
  obtain ⟨d, d2, h1, h2, c1, c2, rfl⟩ := eqD_some e
  obtain ⟨as, r1, _⟩ := dat_reads S I R _ _ _ _ _ h1 ra rx
  obtain ⟨bs, r2, _⟩ := dat_reads S I R _ _ _ _ _ h2 rb ry
  have z := dat_depth _ _ _ h1
  have un := S.un
  exact SeqAt.compareNe_reads r1 r2 c1 c2 (by unfold FU at z; omega) ⟨.bl _, H, I, rfl, q⟩
theorem opM_lt (S : Sur G X) : OpR X (compareOp .Lt) (rM2 G (fB (cmpW C .lt))) := opB S fun pins s σ H x y v u Q μ a b h k I rx ry ra rb R e q => by
  simp only [cmpW] at e
  split at e
  · cases e; cases rw_int ra; cases rw_int rb
    exact op_lt pins s σ H _ _ v u Q I rx ry ⟨_, _, rfl, rfl, q⟩
  · cases e; cases rw_str ra; cases rw_str rb
    exact op_lt_str pins s σ H _ _ v u Q I rx ry ⟨_, _, rfl, rfl, q⟩
  · cases e
theorem opM_le (S : Sur G X) : OpR X (compareOp .LtE) (rM2 G (fB (cmpW C .le))) := opB S fun pins s σ H x y v u Q μ a b h k I rx ry ra rb R e q => by
  simp only [cmpW] at e
  split at e
  · cases e; cases rw_int ra; cases rw_int rb
    exact op_le pins s σ H _ _ v u Q I rx ry ⟨_, _, rfl, rfl, q⟩
  · cases e; cases rw_str ra; cases rw_str rb
    exact op_le_str pins s σ H _ _ v u Q I rx ry ⟨_, _, rfl, rfl, q⟩
  · cases e
theorem opM_gt (S : Sur G X) : OpR X (compareOp .Gt) (rM2 G (fB (cmpW C .gt))) := opB S fun pins s σ H x y v u Q μ a b h k I rx ry ra rb R e q => by
  simp only [cmpW] at e
  split at e
  · cases e; cases rw_int ra; cases rw_int rb
    exact op_gt pins s σ H _ _ v u Q I rx ry ⟨_, _, rfl, rfl, q⟩
  · cases e
theorem opM_ge (S : Sur G X) : OpR X (compareOp .GtE) (rM2 G (fB (cmpW C .ge))) := opB S fun pins s σ H x y v u Q μ a b h k I rx ry ra rb R e q => by
  simp only [cmpW] at e
  split at e
  · cases e; cases rw_int ra; cases rw_int rb
    exact op_ge pins s σ H _ _ v u Q I rx ry ⟨_, _, rfl, rfl, q⟩
  · cases e
theorem rw_ne_non {a : W} {x : V} (r : RW G H μ a x) (hne : a ≠ .non) (hnm : ∀ y, a ≠ .nm y) : x ≠ .non := by
  cases a with
  | non => exact absurd rfl hne
  | bl b => cases rw_bl r; simp
  | int b => cases rw_int r; simp
  | str b => cases rw_str r; simp
  | tup b => obtain ⟨_, _, rfl, _⟩ := rw_tup r; simp
  | ref b => obtain ⟨_, rfl, _⟩ := rw_ref r; simp
  | nm y => exact absurd rfl (hnm y)
theorem opM_is (S : Sur G X) : OpR X (compareOp .Is) (rM2 G (fB (cmpW C .is))) := opB S fun pins s σ H x y v u Q μ a b h k I rx ry ra rb R e q => by
  have nn : b = .non → a ≠ .non → (∀ y, a ≠ .nm y) → k = false → wpAny (model X.prog X.w) X.A (compareOp .Is v u) (EP X pins σ Q) X.xe s := fun hb hne hnm hk => by
    subst hb; subst hk
    cases rw_non rb
    exact op_isN pins s σ H _ _ v u Q I rx ry ⟨rfl, by rw [decide_eq_false (rw_ne_non ra hne hnm)]; exact q⟩
  simp only [cmpW] at e
  split at e
  · cases e; cases rw_bl ra; cases rw_bl rb
    exact op_isBl pins s σ H _ _ v u Q I rx ry ⟨_, _, rfl, rfl, by rw [Bool.beq_eq_decide_eq] at q; exact q⟩
  · cases e; cases rw_non ra; cases rw_non rb
    exact op_isN pins s σ H _ _ v u Q I rx ry ⟨rfl, by simpa using q⟩
  all_goals first
    | (cases e; exact nn rfl (fun z => by cases z) (fun y z => by cases z) rfl)
    | cases e
theorem opM_isn (S : Sur G X) : OpR X (compareOp .IsNot) (rM2 G (fB (cmpW C .isn))) := opB S fun pins s σ H x y v u Q μ a b h k I rx ry ra rb R e q => by
  have nn : b = .non → a ≠ .non → (∀ y, a ≠ .nm y) → k = true → wpAny (model X.prog X.w) X.A (compareOp .IsNot v u) (EP X pins σ Q) X.xe s := fun hb hne hnm hk => by
    subst hb; subst hk
    cases rw_non rb
    exact op_notN pins s σ H _ _ v u Q I rx ry ⟨rfl, by rw [decide_eq_false (rw_ne_non ra hne hnm)]; exact q⟩
  simp only [cmpW] at e
  split at e
  · cases e; cases rw_bl ra; cases rw_bl rb
    exact op_notBl pins s σ H _ _ v u Q I rx ry ⟨_, _, rfl, rfl, by rw [Bool.beq_eq_decide_eq] at q; exact q⟩
  · cases e; cases rw_non ra; cases rw_non rb
    exact op_notN pins s σ H _ _ v u Q I rx ry ⟨rfl, by simpa using q⟩
  all_goals first
    | (cases e; exact nn rfl (fun z => by cases z) (fun y z => by cases z) rfl)
    | cases e
theorem rw_flat {a : W} {x : V} (r : RW G H μ a x) (f : flatW a = true) : flatV x = true ∧ ∀ {b : W} {y : V}, RW G H μ b y → flatW b = true → eqV x y = eqF a b := by
  cases a with
  | non => cases rw_non r; refine ⟨rfl, fun {b y} rb fb => ?_⟩; cases b <;> first | (cases rw_non rb; rfl) | (cases rw_bl rb; rfl) | (cases rw_int rb; rfl) | (cases rw_str rb; rfl) | (simp [flatW] at fb)
  | bl i => cases rw_bl r; refine ⟨rfl, fun {b y} rb fb => ?_⟩; cases b <;> first | (cases rw_non rb; rfl) | (cases rw_bl rb; rfl) | (cases rw_int rb; rfl) | (cases rw_str rb; rfl) | (simp [flatW] at fb)
  | int i => cases rw_int r; refine ⟨rfl, fun {b y} rb fb => ?_⟩; cases b <;> first | (cases rw_non rb; rfl) | (cases rw_bl rb; rfl) | (cases rw_int rb; rfl) | (cases rw_str rb; rfl) | (simp [flatW] at fb)
  | str i => cases rw_str r; refine ⟨rfl, fun {b y} rb fb => ?_⟩; cases b <;> first | (cases rw_non rb; rfl) | (cases rw_bl rb; rfl) | (cases rw_int rb; rfl) | (cases rw_str rb; rfl) | (simp [flatW] at fb)
  | _ => simp [flatW] at f
theorem inF_eq {x : W} {v : V} (r : RW G H μ x v) (f : flatW x = true) : ∀ {xs : List W} {vs : List V}, RWs G H μ xs vs → xs.all flatW = true → vs.all flatV = true ∧ inV v vs = inF x xs
  | [], vs, h, _ => by simp only [RWs] at h; subst h; exact ⟨rfl, rfl⟩
  | y :: ys, vs, h, hf => by
    simp only [RWs] at h
    obtain ⟨u, rr, rfl, h2, h3⟩ := h
    simp only [List.all_cons, Bool.and_eq_true] at hf
    obtain ⟨g1, g2⟩ := inF_eq r f h3 hf.2
    obtain ⟨f1, f2⟩ := rw_flat h2 hf.1
    refine ⟨by simp [f1, g1], ?_⟩
    unfold inV inF at g2 ⊢
    rw [List.any_cons, List.any_cons, f2 r f, g2]
theorem inM (S : Sur G X) (D : CfgD G C) (neg : Bool) (op : CmpOp) (rs : OpR X (compareOp op) (rIn X.K neg))
    (rstr : OpR X (compareOp op) (fun x y H Q => ∃ (c : Nat) (z : Str), x = .str ⟨#[c]⟩ ∧ y = .str z ∧ Q (.bl (if neg then !(decide (c ∈ z.cps.toList)) else decide (c ∈ z.cps.toList))) H))
    (rd : OpR X (compareOp op) (fun x y H Q => ∃ a o, y = .ref a ∧ DGet H a x o ∧ Q (.bl (if neg then !o.isSome else o.isSome)) H))
    (rk : ∀ d es n, KDict X.K X.w d es n → OpR X (compareOp op) (fun x y H Q => ∃ (z : Str) (r : Option Value), x = .str z ∧ y = .ref d ∧ PySem.W.nsIn X.K d z = some r ∧ Q (.bl (if neg then !r.isSome else r.isSome)) H)) :
    OpR X (compareOp op) (rM2 G (fB fun x y h => (inW C x y h).map fun k => if neg then !k else k)) := opB S fun pins s σ H x y v u Q μ a b h k I rx ry ra rb R e q => by
  simp only [Option.map_eq_some_iff] at e
  obtain ⟨k, e, rfl⟩ := e
  have sq : ∀ (ys : List W) (p : Addr) (vs : List V), y = .ref p → (SqL G.K H p vs ∨ SqT G.K H p vs) → RWs G H μ ys vs → (if (flatW a && ys.all flatW) = true then some (inF a ys) else none) = some k → wpAny (model X.prog X.w) X.A (compareOp op v u) (EP X pins σ Q) X.xe s := fun ys p vs hy hs hr hk => by
    split at hk
    · rename_i hf
      simp only [Bool.and_eq_true] at hf
      cases hk
      obtain ⟨g1, g2⟩ := inF_eq ra hf.1 hr hf.2
      refine rs pins s σ H x y v u Q I rx ry ⟨p, vs, hy, S.k ▸ hs, (rw_flat ra hf.1).1, g1, ?_⟩
      rw [g2]; exact q
    · cases hk
  unfold inW at e
  cases b with
  | str t =>
    cases a with
    | str z =>
      simp only at e
      split at e
      · rename_i c hc
        cases e
        cases rw_str ra; cases rw_str rb
        have hz : z = ⟨#[c]⟩ := by
          have : z.cps = #[c] := by
            rw [← Array.toList_inj, hc]
          cases z; simp at this; subst this; rfl
        subst hz
        exact rstr pins s σ H _ _ v u Q I rx ry ⟨c, t, rfl, rfl, q⟩
      · cases e
    | _ => simp at e
  | tup ys =>
    obtain ⟨p, vs, hy, t1, r1⟩ := rw_tup rb
    exact sq ys p vs hy (.inr t1) r1 (by simpa using e)
  | ref n =>
    obtain ⟨p, hy, t1⟩ := rw_ref rb
    simp only at e
    split at e
    · rename_i ys hn
      obtain ⟨vs, g1, r1⟩ := R.lst hn t1
      exact sq ys p vs hy (.inl (SqL.of g1)) r1 (by simpa using e)
    · rename_i kvs hn
      split at e
      · rename_i ky hk
        cases e
        obtain ⟨vs, g1, r1⟩ := R.dct hn t1
        have hx : x = kV ky := by
          cases a <;> simp [keyOf] at hk
          · subst hk; cases rw_int ra; rfl
          · subst hk; cases rw_str ra; rfl
        subst hx
        refine rd pins s σ H _ y v u Q I rx ry ⟨p, _, hy, DGet.k g1, ?_⟩
        rw [← r1.isSome]; exact q
      · cases e
    · cases e
  | nm g =>
    simp only at e
    split at e
    · rename_i kvs z hk
      cases e
      obtain ⟨d, es, n, hm, hd, hz⟩ := D g kvs hk
      obtain ⟨r, e1, e2⟩ := hz z
      have hz' : x = .str z := rw_str ra
      subst hz'
      simp only [RW] at rb
      obtain ⟨u', hu', ru⟩ := rb
      rw [hm] at hu'; cases hu'
      have hy : y = .ref d := by
        have := ru.abs
        cases y <;> simp [absV] at this
        exact this ▸ rfl
      subst hy
      refine rk d es n (S.k ▸ S.w ▸ hd) pins s σ H _ _ v u Q I rx ry ⟨z, r, rfl, rfl, S.k ▸ e1, ?_⟩
      have : r.isSome = (kvGet kvs z).isSome := by
        cases z1 : kvGet kvs z <;> cases r <;> rw [z1] at e2 <;> first | rfl | exact e2.elim
      rw [this]; exact q
    · cases e
  | _ => simp at e
end
end Mi
set_option Elab.async false
set_option linter.all false
set_option maxRecDepth 100000
set_option maxHeartbeats 1000000
/-! Subscripts, slices, built-ins, methods by values. -/
namespace Mi
open PySem PySem.Spec PyProof.Rows L2
def fG (C : Cfg) : W → W → MH → Option (W × MH) := fun x y h => (getW C x y h).map fun r => (r, h)
def rSlM (G : Gx) : V → Option Int → Option Int → Hp → VK → Prop := fun x lo hi H Q => ∃ μ a h w h', RW G H μ a x ∧ RH G H μ h ∧ slcW a lo hi h = some (w, h') ∧ Fin1 G μ H w h' Q
section
variable {G : Gx} {X : Cx} {C : Cfg} {H H' : Hp} {μ μ' : List Addr} {h h' : MH} {Q : VK} {pins : List (Addr × Obj)} {s : Shared} {σ : L2.St}
theorem dict_type (I : Inv X pins σ H s) {a : Addr} {kvs : List (Key × V)} (h : H a = some (.dK kvs)) : s.TypeIs (.ref a) "dict" := by
  obtain ⟨o, es, n, h1, h2, _⟩ := dk_parts I h
  exact ⟨o, h1, h2⟩
theorem ixM (S : Sur G X) (D : CfgD G C) : IxR X (rM2 G (fG C)) := by
  intro value slice pins s σ H x y v u Q I rx ry q hs
  obtain ⟨μ, a, b, h, w, h', ra, rb, R, e, fin⟩ := q
  simp only [fG, Option.map_eq_some_iff] at e
  obtain ⟨r, e, e2⟩ := e
  cases e2
  unfold getW at e
  cases a with
  | tup xs =>
    simp only at e
    split at e
    · obtain ⟨p, vs, rfl, t1, r1⟩ := rw_tup ra
      cases rw_int rb
      obtain ⟨z, z1, z2⟩ := r1.atI e
      exact ix_tup value slice pins s σ H _ _ v u Q I rx ry ⟨p, vs, _, z, rfl, rfl, S.k ▸ t1, z1, fin.same R z2⟩ hs
    · cases e
  | str x =>
    simp only at e
    split at e
    · split at e
      · rename_i hz
        simp only [Option.map_eq_some_iff] at e
        obtain ⟨c, e, rfl⟩ := e
        cases rw_str ra; cases rw_int rb
        exact ix_str value slice pins s σ H _ _ v u Q I rx ry ⟨x, _, c, rfl, rfl, hz, e, fin.str R⟩ hs
      · cases e
    · cases e
  | ref n =>
    obtain ⟨p, rfl, t1⟩ := rw_ref ra
    simp only at e
    split at e
    · rename_i xs hn
      split at e
      · obtain ⟨vs, g1, r1⟩ := R.lst hn t1
        cases rw_int rb
        obtain ⟨z, z1, z2⟩ := r1.atI e
        exact ix_list value slice pins s σ H _ _ v u Q I rx ry ⟨p, vs, _, z, rfl, rfl, SqL.of g1, z1, fin.same R z2⟩ hs
      · cases e
    · rename_i xs hn
      split at e
      · obtain ⟨vs, ob, g1, r1⟩ := R.fl hn t1
        cases rw_int rb
        obtain ⟨z, z1, z2⟩ := r1.atI e
        exact ix_list value slice pins s σ H _ _ v u Q I rx ry ⟨p, vs, _, z, rfl, rfl, .inl (.inr ⟨ob, g1⟩), z1, fin.same R z2⟩ hs
      · cases e
    · rename_i kvs hn
      cases hk : keyOf b with
      | none => rw [hk] at e; cases e
      | some ky =>
        rw [hk] at e
        have e' : kvGet kvs ky = some _ := e
        obtain ⟨vs, g1, r1⟩ := R.dct hn t1
        obtain ⟨z, z1, z2⟩ := r1.get_some e'
        have hx : y = kV ky := by
          cases b <;> simp [keyOf] at hk
          · subst hk; cases rw_int rb; rfl
          · subst hk; cases rw_str rb; rfl
        subst hx
        cases rx
        have un := S.un
        refine tail_any (dict_type I g1) PySem.F.slot_dict_getitem.lookup (d_getItem (v := z) (by omega) I (by have g := DGet.k (k := ky) g1; rw [z1] at g; exact g) ry fun w' s' I' rw' => ⟨z, H, I', rw', fin.same R z2⟩) hs
    · cases e
  | nm g =>
    simp only at e
    split at e
    · rename_i kvs z hk
      obtain ⟨d, es, n, hm, hd, hz⟩ := D g kvs hk
      obtain ⟨rr, e1, e2⟩ := hz z
      cases rw_str rb
      simp only [RW] at ra
      obtain ⟨u', hu', ru⟩ := ra
      rw [hm] at hu'; cases hu'
      have hy : x = .ref d := by
        have := ru.abs
        cases x <;> simp [absV] at this
        exact this ▸ rfl
      subst hy
      rw [e] at e2
      cases rr with
      | none => exact e2.elim
      | some uu =>
        obtain ⟨vv, r1, r2⟩ := e2
        exact ix_kdict value slice pins s σ H _ _ v u Q I rx ry ⟨d, z, vv, rfl, rfl, ⟨es, n, uu, S.k ▸ hd.at_, S.w ▸ hd.lit, S.k ▸ e1, r1⟩, fin.same R (r2 H μ)⟩ hs
    · cases e
  | _ => simp at e
theorem cut_whole {α : Type} {xs : List α} {lo hi : Option Int} (h : HT.sIx xs.length 0 lo = 0 ∧ HT.sIx xs.length xs.length hi = xs.length) : cut xs lo hi = xs := by
  unfold cut
  rw [h.1, h.2]; simp
theorem slM (S : Sur G X) : SlR X (rSlM G) := by
  intro pins s σ H x v vl vu lo hi sl Q I rx hsl pl pu q
  obtain ⟨μ, a, h, w, h', ra, R, e, fin⟩ := q
  unfold slcW at e
  cases a with
  | tup xs =>
    simp only [Option.some.injEq, Prod.mk.injEq] at e
    obtain ⟨rfl, rfl⟩ := e
    obtain ⟨p, vs, rfl, t1, r1⟩ := rw_tup ra
    refine sl_tupA pins s σ H _ v vl vu lo hi sl Q I rx hsl pl pu ⟨p, vs, rfl, S.k ▸ t1, fun hw => ?_, fun _ => fin.tup R (r1.cutV lo hi)⟩
    rw [← r1.length] at hw
    rw [cut_whole hw] at fin
    exact fin.same R ra
  | str z =>
    simp only at e
    split at e
    · rename_i hz
      cases e
      cases rw_str ra
      exact sl_str pins s σ H _ v vl vu lo hi sl Q I rx hsl pl pu ⟨z, rfl, hz, fin.str R⟩
    · cases e
  | ref n =>
    obtain ⟨p, rfl, t1⟩ := rw_ref ra
    simp only at e
    split at e
    · rename_i xs hn
      cases e
      obtain ⟨vs, g1, r1⟩ := R.lst hn t1
      exact sl_list pins s σ H _ v vl vu lo hi sl Q I rx hsl pl pu ⟨p, vs, rfl, SqL.of g1, fin.lst R (r1.cutV lo hi)⟩
    · cases e
  | _ => simp at e
theorem poM (he : PE X e te) : PO X (some e) (tPart te) := po_some he
/-! ### built-ins -/
theorem rws_one {x : W} {vs : List V} (r : RWs G H μ [x] vs) : ∃ v, vs = [v] ∧ RW G H μ x v := by
  simp only [RWs] at r
  obtain ⟨v, t, rfl, h1, rfl⟩ := r
  exact ⟨v, rfl, h1⟩
theorem rws_two {x y : W} {vs : List V} (r : RWs G H μ [x, y] vs) : ∃ v u, vs = [v, u] ∧ RW G H μ x v ∧ RW G H μ y u := by
  simp only [RWs] at r
  obtain ⟨v, t, rfl, h1, v', t', rfl, h2, rfl⟩ := r
  exact ⟨v, v', rfl, h1, h2⟩
theorem bl_len (S : Sur G X) : CallR X (.builtin "len") (rMs G (bltW C .len)) := by
  intro pins s σ H xs us Q I rv q
  obtain ⟨μ, ws, h, w, h', ra, R, e, fin⟩ := q
  simp only [bltW] at e
  split at e
  · obtain ⟨v, rfl, r1⟩ := rws_one ra
    cases rw_str r1
    split at e
    · rename_i hz
      cases e
      exact call_len_str pins s σ H _ us Q I rv ⟨_, rfl, hz, fin.int R⟩
    · cases e
  · obtain ⟨v, rfl, r1⟩ := rws_one ra
    split at e
    · rename_i ys hy
      cases e
      obtain ⟨p, vs, rfl, g1, g2⟩ := R.seq r1 hy
      refine call_len_seq pins s σ H _ us Q I rv ⟨p, vs, rfl, S.k ▸ g1, ?_⟩
      rw [← g2.length]; exact fin.int R
    · cases e
  · cases e
theorem bl_max (S : Sur G X) (hc : C.calm = true → X.calm = true) : CallR X (.builtin "max") (rMs G (bltW C .max)) := by
  intro pins s σ H xs us Q I rv q
  obtain ⟨μ, ws, h, w, h', ra, R, e, fin⟩ := q
  simp only [bltW] at e
  split at e
  · rename_i hcc
    split at e
    · cases e
      obtain ⟨v, u, rfl, r1, r2⟩ := rws_two ra
      cases rw_int r1; cases rw_int r2
      exact call_max2 (hc hcc) pins s σ H _ us Q I rv ⟨_, _, rfl, fin.int R⟩
    · cases e
  · cases e
theorem bl_min (S : Sur G X) (hc : C.calm = true → X.calm = true) : CallR X (.builtin "min") (rMs G (bltW C .min)) := by
  intro pins s σ H xs us Q I rv q
  obtain ⟨μ, ws, h, w, h', ra, R, e, fin⟩ := q
  simp only [bltW] at e
  split at e
  · rename_i hcc
    split at e
    · cases e
      obtain ⟨v, u, rfl, r1, r2⟩ := rws_two ra
      cases rw_int r1; cases rw_int r2
      exact call_min2 (hc hcc) pins s σ H _ us Q I rv ⟨_, _, rfl, fin.int R⟩
    · cases e
  · cases e
theorem bl_all (S : Sur G X) (hc : C.calm = true → X.calm = true) : CallR X (.builtin "all") (rMs G (bltW C .all)) := by
  intro pins s σ H xs us Q I rv q
  obtain ⟨μ, ws, h, w, h', ra, R, e, fin⟩ := q
  simp only [bltW] at e
  split at e
  · rename_i hcc
    split at e
    · simp only [Option.map_eq_some_iff, Option.bind_eq_some_iff] at e
      obtain ⟨bs, ⟨ys, h1, h2⟩, e⟩ := e
      cases e
      obtain ⟨v, rfl, r1⟩ := rws_one ra
      obtain ⟨p, vs, rfl, g1, g2⟩ := R.lstOf r1 h1
      rw [blsOf_eq h2] at g2
      have := g2.bls
      subst this
      exact cr_all (hc hcc) pins s σ H _ us Q I rv ⟨p, bs, rfl, S.k ▸ g1, fin.bl R⟩
    · cases e
  · cases e
theorem bl_any (S : Sur G X) (hc : C.calm = true → X.calm = true) : CallR X (.builtin "any") (rMs G (bltW C .any)) := by
  intro pins s σ H xs us Q I rv q
  obtain ⟨μ, ws, h, w, h', ra, R, e, fin⟩ := q
  simp only [bltW] at e
  split at e
  · rename_i hcc
    split at e
    · simp only [Option.map_eq_some_iff, Option.bind_eq_some_iff] at e
      obtain ⟨bs, ⟨ys, h1, h2⟩, e⟩ := e
      cases e
      obtain ⟨v, rfl, r1⟩ := rws_one ra
      obtain ⟨p, vs, rfl, g1, g2⟩ := R.lstOf r1 h1
      rw [blsOf_eq h2] at g2
      have := g2.bls
      subst this
      exact cr_any (hc hcc) pins s σ H _ us Q I rv ⟨p, bs, rfl, S.k ▸ g1, fin.bl R⟩
    · cases e
  · cases e
theorem bl_sum (S : Sur G X) (hc : C.calm = true → X.calm = true) : CallR X (.builtin "sum") (rMs G (bltW C .sum)) := by
  intro pins s σ H xs us Q I rv q
  obtain ⟨μ, ws, h, w, h', ra, R, e, fin⟩ := q
  simp only [bltW] at e
  split at e
  · rename_i hcc
    split at e
    · simp only [Option.map_eq_some_iff, Option.bind_eq_some_iff] at e
      obtain ⟨bs, ⟨ys, h1, h2⟩, e⟩ := e
      cases e
      obtain ⟨v, rfl, r1⟩ := rws_one ra
      obtain ⟨p, vs, rfl, g1, g2⟩ := R.lstOf r1 h1
      rw [intsOf_eq h2] at g2
      have := g2.ints
      subst this
      exact cr_sum (hc hcc) pins s σ H _ us Q I rv ⟨p, bs, rfl, S.k ▸ g1, fin.int R⟩
    · cases e
  · cases e
theorem bl_int (S : Sur G X) : CallR X (.type "int") (rMs G (bltW C .int)) := by
  intro pins s σ H xs us Q I rv q
  obtain ⟨μ, ws, h, w, h', ra, R, e, fin⟩ := q
  simp only [bltW] at e
  split at e
  · cases e
    obtain ⟨v, rfl, r1⟩ := rws_one ra
    cases rw_int r1
    exact call_int1 pins s σ H _ us Q I rv (.inl ⟨_, rfl, fin.int R⟩)
  · cases e
    obtain ⟨v, rfl, r1⟩ := rws_one ra
    cases rw_bl r1
    exact call_int1 pins s σ H _ us Q I rv (.inr ⟨_, rfl, fin.int R⟩)
  · cases e
theorem bl_list (S : Sur G X) : CallR X (.type "list") (rMs G (bltW C .list)) := by
  intro pins s σ H xs us Q I rv q
  obtain ⟨μ, ws, h, w, h', ra, R, e, fin⟩ := q
  simp only [bltW] at e
  split at e
  · simp only [Option.map_eq_some_iff] at e
    obtain ⟨ys, h1, e⟩ := e
    cases e
    obtain ⟨v, rfl, r1⟩ := rws_one ra
    obtain ⟨p, vs, rfl, g1, g2⟩ := R.seq r1 h1
    exact call_list_of pins s σ H _ us Q I rv ⟨p, vs, rfl, S.k ▸ g1, fin.lst R g2⟩
  · cases e
theorem bl_tuple (S : Sur G X) : CallR X (.type "tuple") (rMs G (bltW C .tuple)) := by
  intro pins s σ H xs us Q I rv q
  obtain ⟨μ, ws, h, w, h', ra, R, e, fin⟩ := q
  simp only [bltW] at e
  split at e
  · simp only [Option.map_eq_some_iff] at e
    obtain ⟨ys, h1, e⟩ := e
    cases e
    obtain ⟨v, rfl, r1⟩ := rws_one ra
    obtain ⟨p, vs, rfl, g1, g2⟩ := R.seq r1 h1
    refine call_tuple_of pins s σ H _ us Q I rv ⟨p, vs, rfl, ?_⟩
    rcases g1 with g1 | g1
    · exact .inl ⟨S.k ▸ g1, fin.tup R g2⟩
    · refine .inr ⟨S.k ▸ g1, fin.same R ?_⟩
      simp only [RW]
      exact ⟨p, vs, rfl, g1, g2⟩
  · cases e
theorem bl_repr (S : Sur G X) : CallR X (.builtin "repr") (rMs G (bltW C .repr)) := by
  intro pins s σ H xs us Q I rv q
  obtain ⟨μ, ws, h, w, h', ra, R, e, fin⟩ := q
  simp only [bltW] at e
  split at e
  · split at e
    · rename_i x _ d hd
      split at e
      · rename_i hc
        cases e
        obtain ⟨v, rfl, r1⟩ := rws_one ra
        obtain ⟨u, rfl, rv1⟩ := vals1 rv
        have hd0 := hd
        have un := S.un
        obtain ⟨as, rd, hs⟩ := dat_reads S I R _ _ _ _ _ hd r1 rv1
        have hdp := dat_depth _ _ _ hd
        have isref : ∀ a, v = .ref a → wpAny (model X.prog X.w) X.A (call (.builtin "repr") [u]) (EP X pins σ Q) X.xe s := fun a hv => by
          subst hv
          cases rv1
          exact repr_of_reads' rd hc.1 (fun _ => hs) S.gd (by unfold FU at hdp; omega) (fun _ _ e => e) (fun h' t tk k => ⟨.str d.shown, H, I.kept k, ⟨t, rfl⟩, fin.str R⟩) hc.2
        unfold FU at hd0
        cases x with
        | non => simp only [dat, Option.some.injEq] at hd0; subst hd0; cases rw_non r1; cases rv1; exact P.repr_of_none ⟨.str _, H, I.tok _, ⟨_, rfl⟩, fin.str R⟩
        | bl b => simp only [dat, Option.some.injEq] at hd0; subst hd0; cases rw_bl r1; cases rv1; exact P.repr_of_bool ⟨.str _, H, I.tok _, ⟨_, rfl⟩, fin.str R⟩
        | int i =>
          simp only [dat, Option.some.injEq] at hd0; subst hd0; cases rw_int r1; obtain ⟨t, rfl⟩ := rv1
          exact P.repr_of_int (by have := hc.1; simpa [PyData.showable] using this) ⟨.str _, H, I.tok _, ⟨_, rfl⟩, fin.str R⟩
        | str i =>
          simp only [dat, Option.some.injEq] at hd0; subst hd0; cases rw_str r1; obtain ⟨t, rfl⟩ := rv1
          exact P.repr_of_str ⟨.str _, H, I.tok _, ⟨_, rfl⟩, fin.str R⟩ hc.2
        | nm x => simp [dat] at hd0
        | tup ys => obtain ⟨a, vs, rfl, _⟩ := rw_tup r1; exact isref a rfl
        | ref n => obtain ⟨a, rfl, _⟩ := rw_ref r1; exact isref a rfl
      · cases e
    · cases e
  · cases e
end
end Mi
set_option Elab.async false
set_option linter.all false
set_option maxRecDepth 100000
set_option maxHeartbeats 1000000
/-! isinstance, methods by values. -/
namespace Mi
open PySem PySem.Spec PyProof.Rows L2
def tyN : Ty → String
  | .int => "int" | .str => "str" | .bool => "bool" | .tuple => "tuple" | .list => "list" | .dict => "dict"
def rIsM (G : Gx) (t : Ty) : List V → Hp → VK → Prop := fun xs H Q => ∃ x μ a h k, xs = [x, .ty (tyN t)] ∧ RW G H μ a x ∧ RH G H μ h ∧ isiW a t h = some k ∧ Q (.bl k) H
theorem kit_non (t : Ty) : kitB "NoneType" (tyN t) = some false := by cases t <;> decide +kernel
theorem kit_bool (t : Ty) : kitB "bool" (tyN t) = some (t == .bool || t == .int) := by cases t <;> decide +kernel
theorem kit_int (t : Ty) : kitB "int" (tyN t) = some (t == .int) := by cases t <;> decide +kernel
theorem kit_str (t : Ty) : kitB "str" (tyN t) = some (t == .str) := by cases t <;> decide +kernel
theorem kit_tuple (t : Ty) : kitB "tuple" (tyN t) = some (t == .tuple) := by cases t <;> decide +kernel
theorem kit_list (t : Ty) : kitB "list" (tyN t) = some (t == .list) := by cases t <;> decide +kernel
theorem kit_dict (t : Ty) : kitB "dict" (tyN t) = some (t == .dict) := by cases t <;> decide +kernel
section
variable {G : Gx} {X : Cx} {C : Cfg} {H H' : Hp} {μ μ' : List Addr} {h h' : MH} {Q : VK} {pins : List (Addr × Obj)} {s : Shared} {σ : L2.St}
theorem isiM (S : Sur G X) (t : Ty) : CallR X (.builtin "isinstance") (rIsM G t) := by
  intro pins s σ H xs us Q I rv q
  obtain ⟨x, μ, a, h, k, rfl, ra, R, e, q⟩ := q
  have go : ∀ T, TyX X.K H x (.type T) → kitB T (tyN t) = some k → wpAny (model X.prog X.w) X.A (call (.builtin "isinstance") us) (EP X pins σ Q) X.xe s := fun T ty kk =>
    call_isi pins s σ H _ us Q I rv ⟨x, _, _, _, k, rfl, .ty (tyN t), ty, kit_ty kk, q⟩
  cases a with
  | non => cases rw_non ra; simp only [isiW, Option.some.injEq] at e; subst e; exact go _ (.base .non) (kit_non t)
  | bl b => cases rw_bl ra; simp only [isiW, Option.some.injEq] at e; subst e; exact go _ (.base (.bl b)) (kit_bool t)
  | int b => cases rw_int ra; simp only [isiW, Option.some.injEq] at e; subst e; exact go _ (.base (.int b)) (kit_int t)
  | str b => cases rw_str ra; simp only [isiW, Option.some.injEq] at e; subst e; exact go _ (.base (.str b)) (kit_str t)
  | tup ys =>
    simp only [isiW, Option.some.injEq] at e; subst e
    obtain ⟨p, vs, rfl, t1, _⟩ := rw_tup ra
    rcases t1 with (t1 | ⟨o, t1⟩) | ⟨o, its, n, h1, h2, _⟩
    · exact go _ (.base (.tup t1)) (kit_tuple t)
    · exact go _ (.fTuple t1) (kit_tuple t)
    · exact go _ (.kTuple (S.k ▸ h1) h2) (kit_tuple t)
  | ref n =>
    obtain ⟨p, rfl, t1⟩ := rw_ref ra
    simp only [isiW] at e
    split at e
    · rename_i ys hn
      cases e
      obtain ⟨vs, g1, _⟩ := R.lst hn t1
      exact go _ (.base (.lst g1)) (kit_list t)
    · rename_i ys hn
      cases e
      obtain ⟨vs, g1, _⟩ := R.dct hn t1
      exact go _ (.base (.dK g1)) (kit_dict t)
    · cases e
  | nm y => simp [isiW] at e
/-- our list at n becomes another one -/
theorem Fin1.setL {n : Nat} {p : Addr} {o : O} {ws : List W} {vs : List V} (f : Fin1 G μ H .non (h.set n (.lst ws)) Q) (R : RH G H μ h) (hn : h[n]? = some o) (hp : μ[n]? = some p) (r : RWs G H μ ws vs) : Q .non (L2.upd H p (.lst vs)) := by
  obtain ⟨R', ex⟩ := R.set (o' := .lst ws) (ho' := .lst vs) hn hp ⟨vs, rfl, r⟩
  exact f μ _ .non ex R' (by simp only [RW])
theorem mt_appendM (S : Sur G X) : MtR X "list.append" (rMm G (mthW .append)) := by
  intro pins s σ H x xs v us Q I rx rv q
  obtain ⟨μ, a, ws, h, w, h', ra, rs, R, e, fin⟩ := q
  simp only [mthW] at e
  split at e
  · split at e
    · rename_i n y ys hn
      split at e
      · rename_i hz
        cases e
        obtain ⟨p, rfl, t1⟩ := rw_ref ra
        obtain ⟨vs, g1, r1⟩ := R.lst hn t1
        obtain ⟨u, rfl, r2⟩ := rws_one rs
        exact mt_append pins s σ H _ _ v us Q I rx rv ⟨p, vs, u, rfl, rfl, g1, by rw [← r1.length]; exact hz, fin.setL R hn t1 (r1.append (.one r2))⟩
      · cases e
    · cases e
  · cases e
theorem mt_extendM (S : Sur G X) : MtR X "list.extend" (rMm G (mthW .extend)) := by
  intro pins s σ H x xs v us Q I rx rv q
  obtain ⟨μ, a, ws, h, w, h', ra, rs, R, e, fin⟩ := q
  simp only [mthW] at e
  split at e
  · split at e
    · rename_i n m ys zs hn hm
      split at e
      · rename_i hz
        cases e
        obtain ⟨p, rfl, t1⟩ := rw_ref ra
        obtain ⟨vs, g1, r1⟩ := R.lst hn t1
        obtain ⟨u, rfl, r2⟩ := rws_one rs
        obtain ⟨p2, rfl, t2⟩ := rw_ref r2
        obtain ⟨vs2, g2, r3⟩ := R.lst hm t2
        exact mt_extend pins s σ H _ _ v us Q I rx rv ⟨p, p2, vs, vs2, rfl, rfl, g1, g2, by rw [← r1.length, ← r3.length]; exact hz, fin.setL R hn t1 (r1.append r3)⟩
      · cases e
    · cases e
  · cases e
theorem mt_insertM (S : Sur G X) : MtR X "list.insert" (rMm G (mthW .insert)) := by
  intro pins s σ H x xs v us Q I rx rv q
  obtain ⟨μ, a, ws, h, w, h', ra, rs, R, e, fin⟩ := q
  simp only [mthW] at e
  split at e
  · split at e
    · rename_i n i y ys hn
      split at e
      · rename_i hz
        cases e
        obtain ⟨p, rfl, t1⟩ := rw_ref ra
        obtain ⟨vs, g1, r1⟩ := R.lst hn t1
        obtain ⟨u, u2, rfl, r2, r3⟩ := rws_two rs
        cases rw_int r2
        exact mt_insert pins s σ H _ _ v us Q I rx rv ⟨p, vs, _, u2, rfl, rfl, g1, by rw [← r1.length]; exact hz.1, hz.2.1, hz.2.2, fin.setL R hn t1 (((r1.take _).append (.one r3)).append (r1.drop _))⟩
      · cases e
    · cases e
  · cases e
theorem mt_clearM (S : Sur G X) : MtR X "list.clear" (rMm G (mthW .clear)) := by
  intro pins s σ H x xs v us Q I rx rv q
  obtain ⟨μ, a, ws, h, w, h', ra, rs, R, e, fin⟩ := q
  simp only [mthW] at e
  split at e
  · split at e
    · rename_i n ys hn
      cases e
      obtain ⟨p, rfl, t1⟩ := rw_ref ra
      obtain ⟨vs, g1, r1⟩ := R.lst hn t1
      have hx : xs = [] := by simpa only [RWs] using rs
      subst hx
      exact mt_clear pins s σ H _ _ v us Q I rx rv ⟨p, vs, rfl, rfl, g1, fin.setL R hn t1 .nil⟩
    · cases e
  · cases e
theorem mt_splitM (S : Sur G X) : MtR X "str.split" (rMm G (mthW .split)) := by
  intro pins s σ H x xs v us Q I rx rv q
  obtain ⟨μ, a, ws, h, w, h', ra, rs, R, e, fin⟩ := q
  simp only [mthW] at e
  split at e
  · split at e
    · rename_i a b hz
      cases e
      cases rw_str ra
      obtain ⟨u, rfl, r2⟩ := rws_one rs
      cases rw_str r2
      exact mt_split pins s σ H _ _ v us Q I rx rv ⟨a, b, rfl, rfl, hz.1, hz.2, fin.lst R RWs.of_strs⟩
    · cases e
  · cases e
theorem mt_joinM (S : Sur G X) : MtR X "str.join" (rMm G (mthW .join)) := by
  intro pins s σ H x xs v us Q I rx rv q
  obtain ⟨μ, a, ws, h, w, h', ra, rs, R, e, fin⟩ := q
  simp only [mthW] at e
  split at e
  · split at e
    · rename_i a y ys hy
      split at e
      · rename_i hz
        cases e
        simp only [Option.bind_eq_some_iff] at hy
        obtain ⟨zs, h1, h2⟩ := hy
        cases rw_str ra
        obtain ⟨u, rfl, r2⟩ := rws_one rs
        obtain ⟨p, vs, rfl, g1, g2⟩ := R.seq r2 h1
        rw [strsOf_eq h2] at g2
        have := g2.strs
        subst this
        exact mt_join pins s σ H _ _ v us Q I rx rv ⟨_, p, ys, rfl, rfl, S.k ▸ g1, hz, fin.str R⟩
      · cases e
    · cases e
  · cases e
theorem pairs_ok (R : RH G H μ h) : ∀ {ws : List W} {vs : List V} {kvs : List (Key × W)}, RWs G H μ ws vs → pairsOf ws = some kvs → ∃ (ps : List Addr) (kv' : List (Key × V)), vs = ps.map V.ref ∧ Paired (fun p kv => SqT G.K H p [kV kv.1, kv.2]) ps kv' ∧ RKs G H μ kvs kv'
  | [], vs, kvs, r, e => by
    simp only [RWs] at r; subst r
    simp only [pairsOf, Option.some.injEq] at e; subst e
    exact ⟨[], [], rfl, .nil, by simp only [RKs]⟩
  | .tup [k, v] :: ws, vs, kvs, r, e => by
    simp only [RWs] at r
    obtain ⟨x, vr, rfl, r1, r2⟩ := r
    simp only [pairsOf] at e
    split at e
    · rename_i ky kr hk hr
      cases e
      obtain ⟨ps, kv', rfl, q1, q2⟩ := pairs_ok R r2 hr
      obtain ⟨p, us, rfl, t1, t2⟩ := rw_tup r1
      obtain ⟨a, b, rfl, ra, rb⟩ := rws_two t2
      have hi : a = kV ky := by
        cases k <;> simp [keyOf] at hk
        · subst hk; cases rw_int ra; rfl
        · subst hk; cases rw_str ra; rfl
      subst hi
      exact ⟨p :: ps, (ky, b) :: kv', rfl, .cons t1 q1, by simp only [RKs]; exact ⟨b, kv', rfl, rb, q2⟩⟩
    · cases e
  | .non :: _, _, _, _, e => by simp [pairsOf] at e
  | .bl _ :: _, _, _, _, e => by simp [pairsOf] at e
  | .int _ :: _, _, _, _, e => by simp [pairsOf] at e
  | .str _ :: _, _, _, _, e => by simp [pairsOf] at e
  | .ref _ :: _, _, _, _, e => by simp [pairsOf] at e
  | .nm _ :: _, _, _, _, e => by simp [pairsOf] at e
  | .tup [] :: _, _, _, _, e => by simp [pairsOf] at e
  | .tup [_] :: _, _, _, _, e => by simp [pairsOf] at e
  | .tup (_ :: _ :: _ :: _) :: _, _, _, _, e => by simp [pairsOf] at e
theorem merge_ok : ∀ {more : List (Key × W)} {ms : List (Key × V)} {kvs : List (Key × W)} {vs : List (Key × V)}, RKs G H μ more ms → RKs G H μ kvs vs → RKs G H μ (mergeW kvs more) (mergeK vs ms)
  | [], ms, kvs, vs, r, r' => by simp only [RKs] at r; subst r; exact r'
  | (k, x) :: more, ms, kvs, vs, r, r' => by
    simp only [RKs] at r
    obtain ⟨v, t, rfl, h1, h2⟩ := r
    exact merge_ok (more := more) (ms := t) (kvs := kvPut kvs k x) (vs := putK vs k v) h2 (r'.put h1)
theorem Fin1.dct {ws : List (Key × W)} {vs : List (Key × V)} (f : Fin1 G μ H (.ref h.length) (h ++ [.dct ws]) Q) (R : RH G H μ h) (r : RKs G H μ ws vs) : ∀ p, H p = none → Q (.ref p) (L2.upd H p (.dK vs)) := fun p hp => by
  refine f (μ ++ [p]) _ (.ref p) (Ext.newO hp) (R.new hp ⟨vs, rfl, r⟩) ?_
  simp only [RW]
  refine ⟨p, rfl, ?_⟩
  rw [← R.len]; simp
theorem bl_dict (S : Sur G X) (hc : C.calm = true → X.calm = true) : CallR X (.type "dict") (rMs G (bltW C .dict)) := by
  intro pins s σ H xs us Q I rv q
  obtain ⟨μ, ws, h, w, h', ra, R, e, fin⟩ := q
  simp only [bltW] at e
  split at e
  · rename_i hcc
    split at e
    · simp only [Option.map_eq_some_iff, Option.bind_eq_some_iff] at e
      obtain ⟨kvs, ⟨ys, h1, h2⟩, e⟩ := e
      cases e
      obtain ⟨v, rfl, r1⟩ := rws_one ra
      obtain ⟨p, vs, rfl, g1, g2⟩ := R.lstOf r1 h1
      obtain ⟨ps, kv', rfl, q1, q2⟩ := pairs_ok R g2 h2
      exact call_dictP (hc hcc) pins s σ H _ us Q I rv ⟨p, ps, kv', rfl, S.k ▸ g1, S.k ▸ q1, fin.dct R (merge_ok q2 (by simp only [RKs]))⟩
    · cases e
  · cases e
/-- o[i] = v by values -/
theorem setM (S : Sur G X) : PSet X (fun o i v H Q => ∃ μ a b c h h', RW G H μ a o ∧ RW G H μ b i ∧ RW G H μ c v ∧ RH G H μ h ∧ setW a b c h = some h' ∧ ∀ H', Ext G H μ H' μ → RH G H' μ h' → Q H') := by
  intro pins s σ H o i v ov iv u Q I ro ri rv q
  obtain ⟨μ, a, b, c, h, h', ra, rb, rc, R, e, fin⟩ := q
  unfold setW at e
  split at e
  · rename_i n
    obtain ⟨p, rfl, t1⟩ := rw_ref ra
    split at e
    · rename_i xs hn
      split at e
      · simp only [Option.map_eq_some_iff] at e
        obtain ⟨j, e1, rfl⟩ := e
        cases rw_int rb
        obtain ⟨vs, g1, r1⟩ := R.lst hn t1
        obtain ⟨R', ex⟩ := R.set (o' := .lst (xs.set j c)) (ho' := .lst (vs.set j v)) hn t1 ⟨_, rfl, r1.set j rc⟩
        exact set_list pins s σ H _ _ v ov iv u Q I ro ri rv ⟨p, vs, _, j, rfl, rfl, g1, by rw [← r1.length]; exact e1, fin _ ex R'⟩
      · cases e
    · rename_i kvs hn
      split at e
      · rename_i ky hk
        split at e
        · rename_i hz
          cases e
          obtain ⟨vs, g1, r1⟩ := R.dct hn t1
          have hi : i = kV ky := by
            cases b <;> simp [keyOf] at hk
            · subst hk; cases rw_int rb; rfl
            · subst hk; cases rw_str rb; rfl
          subst hi
          obtain ⟨R', ex⟩ := R.set (o' := .dct (kvPut kvs ky c)) (ho' := .dK (putK vs ky v)) hn t1 ⟨_, rfl, r1.put rc⟩
          cases ro
          have un := S.un
          exact d_setItem (by omega) I (DPut.k g1 (by rw [← r1.length]; exact hz)) ri rv fun s' I' => ⟨_, I', fin _ ex R'⟩
        · cases e
      · cases e
    · cases e
  · cases e
end
end Mi
set_option Elab.async false
set_option linter.all false
set_option maxRecDepth 100000
set_option maxHeartbeats 1000000
/-! What is walked: lists, tuples, texts; zip of any two of them. -/
namespace Mi
open PySem PySem.Spec PyProof.Rows L2
inductive Ds where
  | l (a : Addr) | t (a : Addr) | s (x : Str)
def Ds.v : Ds → V
  | .l a => .ref a
  | .t a => .ref a
  | .s x => .str x
def DIt (K : PySem.W.Frag) (H : Hp) : Ds → List V → Prop
  | .l a, xs => SqL K H a xs
  | .t a, xs => SqT K H a xs
  | .s x, xs => xs = x.cps.toList.map fun c => .str ⟨#[c]⟩
def itr (h : Heap) (it : Addr) (i : Nat) : Ds → Prop
  | .l a => h.IsListIter it a i
  | .t a => h.IsTupleIter it a i
  | .s x => ∃ t, h.IsStrIter it (strIterType x) x t i
section
variable {X : Cx} {pins : List (Addr × Obj)} {σ : L2.St} {H : Hp} {s : Shared}
theorem K_base (I : Inv X pins σ H s) {a : Addr} {o : Obj} (h : X.K.lookup a = some o) : X.base.get? a = some o := I.ok.mod.kin a o h
theorem src_ne (I : Inv X pins σ H s) {a b : Addr} (hb : FpOk X pins H b) (ha : H a ≠ none ∨ ∃ o, X.K.lookup a = some o) : a ≠ b := by
  rintro rfl
  obtain ⟨f0, _, _, f3, _⟩ := hb
  rcases ha with ha | ⟨o, ha⟩
  · exact ha f0
  · have q := K_base I ha
    rcases f3 with z | z
    · exact I.ok.noex _ _ q z
    · have q1 := Heap.lt_size q
      have q2 := I.ok.bsz
      exact absurd (Nat.lt_of_lt_of_le q1 (Nat.le_trans q2 z)) (Nat.lt_irrefl _)
theorem sqL_there (h : SqL X.K H a xs) : H a ≠ none ∨ ∃ o, X.K.lookup a = some o := by
  rcases h with (h | ⟨o, h⟩) | ⟨o, _, _, h, _⟩
  · left; rw [h]; simp
  · left; rw [h]; simp
  · right; exact ⟨o, h⟩
theorem sqT_there (h : SqT X.K H a xs) : H a ≠ none ∨ ∃ o, X.K.lookup a = some o := by
  rcases h with (h | ⟨o, h⟩) | ⟨o, _, _, h, _⟩
  · left; rw [h]; simp
  · left; rw [h]; simp
  · right; exact ⟨o, h⟩
theorem itr_obj {h : Heap} {it : Addr} {i : Nat} : ∀ {d : Ds}, itr h it i d → ∃ o n vs, h.get? it = some o ∧ o.cls = .type n ∧ o.data = .fields vs
  | .l a, ⟨o, h1, h2, h3⟩ => ⟨o, _, _, h1, h2, h3⟩
  | .t a, ⟨o, h1, h2, h3⟩ => ⟨o, _, _, h1, h2, h3⟩
  | .s x, ⟨t, o, h1, h2, h3⟩ => ⟨o, _, _, h1, h2, h3⟩
theorem itr_at {h h' : Heap} {it : Addr} {i : Nat} (k : ∀ o, h.get? it = some o → h'.get? it = some o) : ∀ {d : Ds}, itr h it i d → itr h' it i d
  | .l a, ⟨o, h1, h2, h3⟩ => ⟨o, k o h1, h2, h3⟩
  | .t a, ⟨o, h1, h2, h3⟩ => ⟨o, k o h1, h2, h3⟩
  | .s x, ⟨t, o, h1, h2, h3⟩ => ⟨t, o, k o h1, h2, h3⟩
theorem dit_inj (I : Inv X pins σ H s) : ∀ {d : Ds} {xs ys : List V}, DIt X.K H d xs → DIt X.K H d ys → xs = ys
  | .l a, _, _, h, h' => I.list_inj h h'
  | .t a, _, _, h, h' => I.tuple_inj h h'
  | .s x, _, _, h, h' => h.trans h'.symm
/-- the library's drawing of such an iterator, as it stands -/
theorem ds_draw (I : Inv X pins σ H s) (hc : X.calm = true) {it : Addr} {i : Nat} (hf : FpOk X pins H it) : ∀ {d : Ds} {xs : List V}, DIt X.K H d xs → itr s.heap it i d →
    ∃ (fp : List Addr) (P : Nat → Value → Prop) (St : Nat → Heap → Prop), Draws X.prog X.w X.A.in1 it fp xs.length P St ∧ it ∈ fp ∧ (∀ b ∈ fp, b = it ∨ (H b ≠ none ∨ ∃ o, X.K.lookup b = some o)) ∧ St i s.heap ∧
      (∀ j u, P j u → ∃ x, xs[j]? = some x ∧ RelV x u) ∧ ∀ j h', St j h' → itr h' it j d
  | .l a, xs, h, st => by
    obtain ⟨its, rv, p, _⟩ := I.list h
    have hne := src_ne I hf (sqL_there h)
    have e : its.toArray.size = xs.length := by rw [List.size_toArray]; exact rv.length.symm
    refine ⟨[it, a], fun i v => its.toArray[i]? = some v, fun i h => h.IsListIter it a i ∧ h.IsList a its.toArray, by rw [← e]; exact Draws.list (A := X.A.in1) (I.ok.hd hc) it a hne its.toArray, by simp, fun b hb => ?_, ⟨st, p.isList⟩, fun j u hj => ?_, fun j h' q => q.1⟩
    · have : b = it ∨ b = a := by simpa using hb
      rcases this with rfl | rfl
      · exact .inl rfl
      · exact .inr (sqL_there h)
    · have hj' : its[j]? = some u := by simpa using hj
      cases q : xs[j]? with
      | none => rw [rv.none_of q] at hj'; cases hj'
      | some x =>
        obtain ⟨u', h1, h2⟩ := rv.get q
        rw [hj'] at h1; cases h1
        exact ⟨x, rfl, h2⟩
  | .t a, xs, h, st => by
    obtain ⟨its, rv, p, _⟩ := I.tuple h
    have hne := src_ne I hf (sqT_there h)
    have e : its.toArray.size = xs.length := by rw [List.size_toArray]; exact rv.length.symm
    refine ⟨[it, a], fun i v => its.toArray[i]? = some v, fun i h => h.IsTupleIter it a i ∧ h.IsTuple a its.toArray, by rw [← e]; exact Draws.tuple (A := X.A.in1) (I.ok.hd hc) it a hne its.toArray, by simp, fun b hb => ?_, ⟨st, p⟩, fun j u hj => ?_, fun j h' q => q.1⟩
    · have : b = it ∨ b = a := by simpa using hb
      rcases this with rfl | rfl
      · exact .inl rfl
      · exact .inr (sqT_there h)
    · have hj' : its[j]? = some u := by simpa using hj
      cases q : xs[j]? with
      | none => rw [rv.none_of q] at hj'; cases hj'
      | some x =>
        obtain ⟨u', h1, h2⟩ := rv.get q
        rw [hj'] at h1; cases h1
        exact ⟨x, rfl, h2⟩
  | .s x, xs, h, ⟨t, st⟩ => by
    have h' : xs = x.cps.toList.map fun c => V.str ⟨#[c]⟩ := h
    subst h'
    have e : x.cps.size = (x.cps.toList.map fun c => V.str ⟨#[c]⟩).length := by simp
    refine ⟨[it], fun i v => ∃ c u, x.cps[i]? = some c ∧ v = .str ⟨#[c]⟩ u, fun i h => h.IsStrIter it (strIterType x) x t i, by rw [← e]; exact Draws.text (A := X.A.in1) (I.ok.hd hc) it x t, by simp, fun b hb => .inl (by simpa using hb), st, fun j u hj => ?_, fun j h' q => ⟨t, q⟩⟩
    obtain ⟨c, tk, h1, rfl⟩ := hj
    exact ⟨.str ⟨#[c]⟩, by simp [h1], ⟨tk, rfl⟩⟩
end
/-- both as they stand at each turn, the items in new pairs -/
def Jz (K : PySem.W.Frag) (d e : Ds) : It :=
  ⟨fun i H => ∃ xs ys x y, DIt K H d xs ∧ DIt K H e ys ∧ xs[i]? = some x ∧ ys[i]? = some y,
   fun i H v H' => ∃ T x y, v = .ref T ∧ H T = none ∧ H' = L2.upd H T (.tup [x, y]) ∧ (∀ xs, DIt K H d xs → xs[i]? = some x) ∧ ∀ ys, DIt K H e ys → ys[i]? = some y,
   fun i H => ∃ xs ys, DIt K H d xs ∧ DIt K H e ys ∧ i = min xs.length ys.length⟩
structure Apart5 (z TI TO i1 i2 : Addr) : Prop where
  a : TI ≠ z
  b : TO ≠ z
  c : TI ≠ TO
  d : TI ≠ i1
  e : TI ≠ i2
  f : z ≠ i1
  g : z ≠ i2
  h : TO ≠ i1
  i : TO ≠ i2
  j : i1 ≠ i2
theorem zsep {X : Cx} {pins : List (Addr × Obj)} {σ : L2.St} {H : Hp} {s : Shared} {z TI TO i1 i2 : Addr} {fp1 fp2 : List Addr} (D : Apart5 z TI TO i1 i2) (I : Inv X pins σ H s) (hf : ∀ b ∈ [z, TI, TO, i1, i2], FpOk X pins H b)
    (m1 : i1 ∈ fp1) (m2 : i2 ∈ fp2) (h1 : ∀ b ∈ fp1, b = i1 ∨ (H b ≠ none ∨ ∃ o, X.K.lookup b = some o)) (h2 : ∀ b ∈ fp2, b = i2 ∨ (H b ≠ none ∨ ∃ o, X.K.lookup b = some o)) : ZipSep2 z TI TO i1 i2 fp1 fp2 := by
  have n1 : ∀ c ∈ [z, TI, TO, i1, i2], c ≠ i1 → c ∉ fp1 := fun c hc hne hm => by
    rcases h1 c hm with q | q
    · exact hne q
    · exact src_ne I (hf c hc) q rfl
  have n2 : ∀ c ∈ [z, TI, TO, i1, i2], c ≠ i2 → c ∉ fp2 := fun c hc hne hm => by
    rcases h2 c hm with q | q
    · exact hne q
    · exact src_ne I (hf c hc) q rfl
  exact ⟨D.a, D.b, D.c, D.d, m1, n1 z (by simp) D.f, n1 TO (by simp) D.h, D.e, m2, n2 z (by simp) D.g, n2 TO (by simp) D.i, n2 i1 (by simp) D.j, n1 i2 (by simp) (Ne.symm D.j)⟩
theorem turn_zipM {P : Program} {w : World} {K : PySem.W.Frag} {elts : List Expr} {kk : Nat} {tpos : Pos} {d e : Ds} {z TI TO i1 i2 : Addr} (D : Apart5 z TI TO i1 i2) :
    Turn P w K (.Tuple elts kk tpos) (Jz K d e) [z, TI, TO, i1, i2] z (fun i h => IsZip h z TI TO .none ∧ IsTupOf2 h TI (.ref i1) (.ref i2) ∧ (∃ x y, IsTupOf2 h TO x y) ∧ itr h i1 i d ∧ itr h i2 i e) where
  mem := by simp
  obj := fun i h st c hc => by
    obtain ⟨hz, hTI, ⟨x, y, hTO⟩, h1, h2⟩ := st
    obtain ⟨o1, _, vs1, e1, _, d1⟩ := itr_obj h1
    obtain ⟨o2, _, vs2, e2, _, d2⟩ := itr_obj h2
    have hc' : c = z ∨ c = TI ∨ c = TO ∨ c = i1 ∨ c = i2 := by simpa using hc
    rcases hc' with q | q | q | q | q <;> subst q
    · exact ⟨_, hz, fun v q => by cases q⟩
    · exact ⟨_, hTI, fun v q => by cases q⟩
    · exact ⟨_, hTO, fun v q => by cases q⟩
    · exact ⟨o1, e1, fun v q => by rw [d1] at q; cases q⟩
    · exact ⟨o2, e2, fun v q => by rw [d2] at q; cases q⟩
  keep := fun i h h' st k => by
    obtain ⟨hz, hTI, ⟨x, y, hTO⟩, h1, h2⟩ := st
    exact ⟨k z (by simp) _ hz, k TI (by simp) _ hTI, ⟨x, y, k TO (by simp) _ hTO⟩, itr_at (fun o q => k i1 (by simp) o q) h1, itr_at (fun o q => k i2 (by simp) o q) h2⟩
  item := by
    intro X hP hw hK hc i pins s σ H E I hf st hg
    subst hP hw hK
    obtain ⟨hz, hTI, ⟨x0, y0, hTO⟩, h1, h2⟩ := st
    obtain ⟨xs, ys, x, y, dx, dy, hx, hy⟩ := hg
    obtain ⟨fp1, P1, St1, D1, m1, f1, s1, p1, b1⟩ := ds_draw I hc (hf i1 (by simp)) dx h1
    obtain ⟨fp2, P2, St2, D2, m2, f2, s2, p2, b2⟩ := ds_draw I hc (hf i2 (by simp)) dy h2
    have Z := GoesN.zip2 (elts := elts) (x1 := kk) (pos := tpos) (zsep D I hf m1 m2 f1 f2) D1 D2
    have lx := (List.getElem?_eq_some_iff.mp hx).1
    have ly := (List.getElem?_eq_some_iff.mp hy).1
    refine Z.goes i s _ E (by omega) ⟨hz, hTI, ⟨x0, y0, hTO⟩, s1, s2⟩ fun v h' tk hY st' hk htk => ?_
    obtain ⟨T, u1, u2, rfl, hT, q1, q2, hTu⟩ := hY
    obtain ⟨z', TI', TO', s1', s2'⟩ := st'
    obtain ⟨x', ex, r1⟩ := p1 i u1 q1
    obtain ⟨y', ey, r2⟩ := p2 i u2 q2
    rw [hx] at ex; cases ex
    rw [hy] at ey; cases ey
    have hn : H T = none := I.hok.fresh hT
    have new : ObjOk X.prog X.w (L2.upd H T (.tup [x, y])) h' T (.tup [x, y]) := by
      refine ⟨by show 2 ≤ sizeLine; decide, [u1, u2], .cons r1 (.cons r2 .nil), ?_⟩
      exact hTu
    have I1 : Inv X pins σ (L2.upd H T (.tup [x, y])) { s with heap := h', toks := tk } :=
      I.turnedNew (t' := tk) (ch := [z, TO, i1, i2]) (fun c o hb q => hk c o hb q) (fun b hb => hf b (by simp at hb ⊢; rcases hb with q | q | q | q <;> simp [q])) hT new
    refine ⟨.ref T, _, I1, rfl, ⟨T, x, y, rfl, hn, rfl, fun l hl => by rw [dit_inj I hl dx]; exact hx, fun l hl => by rw [dit_inj I hl dy]; exact hy⟩, ⟨z', TI', TO', b1 _ _ s1', b2 _ _ s2'⟩, fun c hcm => ?_⟩
    have hlt : c < s.heap.objs.size := by
      obtain ⟨o1, _, _, e1, _⟩ := itr_obj h1
      obtain ⟨o2, _, _, e2, _⟩ := itr_obj h2
      have hc' : c = z ∨ c = TI ∨ c = TO ∨ c = i1 ∨ c = i2 := by simpa using hcm
      rcases hc' with q | q | q | q | q <;> subst q
      · exact Heap.lt_size hz
      · exact Heap.lt_size hTI
      · exact Heap.lt_size hTO
      · exact Heap.lt_size e1
      · exact Heap.lt_size e2
    rw [upd_ne (Nat.ne_of_lt (Nat.lt_of_lt_of_le hlt hT))]
    exact (hf c hcm).1
  done := by
    intro X hP hw hK hc i pins s σ H E I hf st hg
    subst hP hw hK
    obtain ⟨hz, hTI, ⟨x0, y0, hTO⟩, h1, h2⟩ := st
    obtain ⟨xs, ys, dx, dy, rfl⟩ := hg
    obtain ⟨fp1, P1, St1, D1, m1, f1, s1, p1, b1⟩ := ds_draw I hc (hf i1 (by simp)) dx h1
    obtain ⟨fp2, P2, St2, D2, m2, f2, s2, p2, b2⟩ := ds_draw I hc (hf i2 (by simp)) dy h2
    have Z := GoesN.zip2 (elts := elts) (x1 := kk) (pos := tpos) (zsep D I hf m1 m2 f1 f2) D1 D2
    exact Z.stops s _ E ⟨hz, hTI, ⟨x0, y0, hTO⟩, s1, s2⟩ fun h' tk hk htk => I.turnedL (t' := tk) (ch := [z, TO, i1, i2]) (fun c o hb q => hk c o hb q) (fun b hb => hf b (by simp at hb ⊢; rcases hb with q | q | q | q <;> simp [q]))
  self := fun A i s Q E st h => wpAny_pyIter_zip st.1 h
section
variable {X : Cx} {tg : Expr} {pins : List (Addr × Obj)} {σ : L2.St} {H : Hp} {s : Shared}
theorem ds_begins (I : Inv X pins σ H s) : ∀ {d : Ds} {xs : List V} {u : Value}, DIt X.K H d xs → RelV d.v u → ∃ o Hq, Begins u o Hq ∧ Hq s.heap ∧ ∀ h' it, h'.get? it = some o → itr h' it 0 d
  | .l a, xs, u, h, r => by
    cases r
    obtain ⟨its, rv, p, _⟩ := I.list h
    exact ⟨_, _, begins_list a its.toArray, p.isList, fun h' it e => ⟨_, e, rfl, rfl⟩⟩
  | .t a, xs, u, h, r => by
    cases r
    obtain ⟨its, rv, p, _⟩ := I.tuple h
    exact ⟨_, _, begins_tuple a its.toArray, p, fun h' it e => ⟨_, e, rfl, rfl⟩⟩
  | .s x, xs, u, h, r => by
    obtain ⟨t, rfl⟩ := r
    exact ⟨_, _, begins_text x t, trivial, fun h' it e => ⟨t, _, e, rfl, rfl⟩⟩
def iZipM (K : PySem.W.Frag) (ta : TA) : TI := fun σ H R => ta σ H fun vs H1 => ∃ d e xs ys, vs = [Ds.v d, Ds.v e] ∧ DIt K H1 d xs ∧ DIt K H1 e ys ∧ R (Jz K d e) H1
theorem pi_zipM {e e2 : Expr} {ta : TA} {p pos tpos : Pos} {elts : List Expr} {kk : Nat} (hg : Gl X "zip") (hm : X.mg "zip" = none) (ha : PA X [e, e2] ta)
    (hs : starEach [e, e2] X.env = (false, eval e X.env) :: starEach [e2] X.env) (hpl : (backTo pos (starEach [e2] X.env)).any (·.1) = false) :
    PI X (.Tuple elts kk tpos) (.Call (.Name "zip" p) [e, e2] [] pos) (iZipM X.K ta) := by
  constructor
  intro pins s σ H R I h
  refine Call_ (ld_blt I hg hm PyProof.Rows.boot_zip (PyProof.Rows.callWith_type1 (thn (ha.run pos pins s σ H _ I h) fun us s1 hh => ?_) hs hpl))
  obtain ⟨vs, H1, I1, r1, d1, d2, xs, ys, ev, dx, dy, q⟩ := hh
  subst ev
  obtain ⟨u1, u2, rfl, ru1, ru2⟩ := vals2 r1
  obtain ⟨o1, Hq1, B1, g1, k1⟩ := ds_begins I1 dx ru1
  obtain ⟨o2, Hq2, B2, g2, k2⟩ := ds_begins I1 dy ru2
  refine zip_begins2 B1 B2 g1 g2 fun h' hz hTI hTO h1 h2 hsz hk => ?_
  have I2 : Inv X pins σ H1 { s1 with heap := h' } := I1.kept (t' := s1.toks) hk
  have ap : Apart5 (s1.heap.objs.size + 4) (s1.heap.objs.size + 2) (s1.heap.objs.size + 3) s1.heap.objs.size (s1.heap.objs.size + 1) := by
    generalize hN : s1.heap.objs.size = N
    constructor <;> (intro z; have z' : (_ : Nat) = _ := z; simp at z')
  refine wpAny_pyIter_zip (s := { s1 with heap := h' }) hz ⟨_, _, _, _, H1, rfl, I2, turn_zipM ap, ⟨hz, hTI, ⟨_, _, hTO⟩, k1 _ _ h1, k2 _ _ h2⟩, fun c hcm => ?_, q⟩
  have hle : s1.heap.objs.size ≤ c := by
    simp only [List.mem_cons, List.not_mem_nil, or_false] at hcm
    rcases hcm with z | z | z | z | z <;> (rw [z]; first | exact Nat.le_add_right _ _ | exact Nat.le_refl _)
  exact I1.fpOk hle (I1.hok.fresh hle)
/-- a list, a tuple or a text, as it comes -/
def iAny (K : PySem.W.Frag) (te : TE) : TI := fun σ H R => te σ H fun v H1 => (∃ a xs, v = .ref a ∧ SqL K H1 a xs ∧ R (Itl K a) H1) ∨ (∃ a xs, v = .ref a ∧ SqT K H1 a xs ∧ R (Itt K a) H1) ∨ ∃ x, v = .str x ∧ R (Its x) H1
theorem pi_any {e : Expr} {te : TE} (he : PE X e te) : PI X tg e (iAny X.K te) := by
  constructor
  intro pins s σ H R I h
  refine thn (he.run pins s σ H _ I h) fun u s1 hh => ?_
  obtain ⟨v, H1, I1, ru, q⟩ := hh
  rcases q with ⟨a, xs, rfl, hx, q⟩ | ⟨a, xs, rfl, hx, q⟩ | ⟨x, rfl, q⟩
  · cases ru
    obtain ⟨its, rv, p, _⟩ := I1.list hx
    refine wpAny_pyIter_list p.isList ⟨s1.heap.objs.size, _, _, _, H1, rfl, I1.kept (t' := s1.toks) fun b o e => Heap.get?_push_of_some _ e, turn_list a _, ⟨_, Heap.get?_push_size _ rfl, rfl, rfl⟩, fun b hb => ?_, q⟩
    obtain rfl : b = s1.heap.objs.size := by simpa using hb
    exact I1.fpOk (Nat.le_refl _) (I1.hok.fresh (Nat.le_refl _))
  · cases ru
    obtain ⟨its, rv, p, _⟩ := I1.tuple hx
    refine wpAny_pyIter_tuple (show s1.heap.IsTuple a its.toArray from p) ⟨s1.heap.objs.size, _, _, _, H1, rfl, I1.kept (t' := s1.toks) fun b o e => Heap.get?_push_of_some _ e, turn_tuple a _, ⟨_, Heap.get?_push_size _ rfl, rfl, rfl⟩, fun b hb => ?_, q⟩
    obtain rfl : b = s1.heap.objs.size := by simpa using hb
    exact I1.fpOk (Nat.le_refl _) (I1.hok.fresh (Nat.le_refl _))
  · obtain ⟨t, rfl⟩ := ru
    have Tw := turn_str (P := X.prog) (w := X.w) (K := X.K) (tg := tg) s1.heap.objs.size x t "str_iterator" (.inr rfl)
    have Ta := turn_str (P := X.prog) (w := X.w) (K := X.K) (tg := tg) s1.heap.objs.size x t "str_ascii_iterator" (.inl rfl)
    by_cases ha : (x.cps.all (· < 128)) = true
    · exact wpAny_pyIter_ascii ha (pi_one (tk := s1.toks) I1 _ Ta ⟨_, Heap.get?_push_size _ rfl, rfl, rfl⟩ q)
    · exact wpAny_pyIter_wide (by simpa using ha) (pi_one (tk := s1.toks) I1 _ Tw ⟨_, Heap.get?_push_size _ rfl, rfl, rfl⟩ q)
end
end Mi
set_option Elab.async false
set_option linter.all false
set_option maxRecDepth 100000
set_option maxHeartbeats 1000000
/-! Defs under an empty guard list; what a run of the interpreter promises. -/
namespace Mi
open PySem PySem.Spec PyProof.Rows L2
/-- room for k calls, nothing being shown -/
structure RoomG (k : Nat) (A : Around) : Prop where
  r : Room k A
  g : A.guards = some []
theorem RoomG.mono {j k : Nat} {A : Around} (r : RoomG k A) (h : j ≤ k) : RoomG j A := ⟨r.r.mono h, r.g⟩
theorem RoomG.deeper {k : Nat} {A : Around} (r : RoomG (k + 1) A) (env : Env) : RoomG k (A.deeper env) := ⟨r.r.deeper env, r.g⟩
structure FnG (P : Program) (w : World) (K : PySem.W.Frag) (mg : Str → Option Value) (base : Heap) (k : Nat) (f : Addr) (fd : FuncData) (ps : List Str) (sp : Sp) : Prop where
  len : ∀ vs H Q E, sp vs H Q E → vs.length = ps.length
  run : ∀ {A : Around} {outer : List Env} {s : Shared} {H : Hp} {args : Args} {us : List Value} {vs : List V} {Q : VK} {E : XK}, RoomG k A → Env0 P w K mg base A outer s H →
    BindsTo s fd args (ps.zip us) → Vals vs us → sp vs H Q E → codeAny (model P w) A (.call (.ref f) args) (CR (L2.CX P w) outer P w H s Q E) s
section
variable {X : Cx} {k : Nat} {f : Addr} {fd : FuncData} {ps : List Str} {sp : Sp} {W : WX} {x : Str} {p pos : Pos} {e : Expr} {es : List Expr} {ta : TA}
theorem FnG.call {pins : List (Addr × Obj)} {σ : L2.St} {H : Hp} {s : Shared} {Q : VK} {us ds : List Value} {vs dvs : List V} (F : FnG X.prog X.w X.K X.mg X.base k f fd ps sp) (hr : RoomG k X.A) (hb : Binds X.K fd ps ds) (hd : Vals dvs ds) (tk : Takes X W)
    (I : Inv X pins σ H s) (r : Vals vs us) (h : sp (vs ++ dvs) H Q (WE W σ)) : wpAny (model X.prog X.w) X.A (call (.ref f) us) (EP X pins σ Q) X.xe s := by
  have r2 := r.append hd
  have hl : (us ++ ds).length = ps.length := by rw [← r2.length]; exact F.len _ _ _ _ h
  apply wpAny_call
  refine codeAny_mono (F.run hr I.env0 (hb s us I.kIn hl) r2 h) fun res s' hq => ?_
  match res, hq with
  | .error e, hq => exact passAt tk σ pins H s e s' I hq
  | .ok (.ret u), hq => exact I.after hq
  | .ok .next, hq => exact hq.elim
  | .ok .brk, hq => exact hq.elim
  | .ok .cont, hq => exact hq.elim
def tCallG (sp : Sp) (dvs : List V) (W : WX) (t : TA) : TE := fun σ H Q => t σ H fun vs H1 => sp (vs ++ dvs) H1 Q (WE W σ)
theorem pe_callG {ds : List Value} {dvs : List V} (F : FnG X.prog X.w X.K X.mg X.base k f fd ps sp) (hr : RoomG k X.A) (hg : Gl X x) (hm : X.mg x = some (.ref f)) (hk : PySem.W.keepIn X.K (.ref f) = true) (hb : Binds X.K fd ps ds) (hd : Vals dvs ds) (tk : Takes X W)
    (ha : PA X (e :: es) ta) (hdb : (x == ("__debug__" : Str)) = false) (he : starEach (e :: es) X.env = (false, eval e X.env) :: starEach es X.env) (hpl : (backTo pos (starEach es X.env)).any (·.1) = false) :
    PE X (.Call (.Name x p) (e :: es) [] pos) (tCallG sp dvs W ta) := by
  constructor
  intro pins s σ H Q I h
  have ar := ha.run pos pins s σ H _ I h
  apply wpAny_Call_Name_kw
  apply ld_glob I hg hm (hd := hdb)
  refine PySem.W.callWith_K (h₀ := X.base) I.ok.mod.kin hk (thn ar fun us s1 hh => ?_) he hpl
  obtain ⟨vs, H1, I1, r, q⟩ := hh
  exact ⟨I1.kIn, F.call hr hb hd tk I1 r q⟩
end
/-- a def by its body -/
theorem fnG_of {P : Program} {w : World} {K : PySem.W.Frag} {mg : Str → Option Value} {base : Heap} {k : Nat} {x qual : Str} {st : Stmt} {f : Addr} {fd : FuncData} {N ps : List Str} {sp : Sp} (F : Fun K x qual st f fd) (S : FnScope N ps (defScope st))
    (len : ∀ vs H Q E, sp vs H Q E → vs.length = ps.length)
    (body : ∀ (cdv : Value) (A : Around) (outer : List Env) (s : Shared) (H : Hp) (vs : List V) (Q : VK) (E : XK), RoomG k (A.deeper (envOfC qual (defScope st) s.heap.objs.size f cdv)) → sp vs H Q E →
      ∃ t, PSs (cxOf (L2.CX P w) P w K mg base N qual (defScope st) f cdv A outer s H E) (defBody st) t ∧ t { nx := fun _ H' => Q .non H', rt := Q } (start N vs) H) : FnG P w K mg base (k + 1) f fd ps sp := by
  obtain ⟨oc, od, kV, doc, pm, an, cdv, ct, osl, rfl, lk, hcd⟩ := F.ex
  constructor
  · exact len
  intro A outer s H args us vs Q E hr e0 hb r hsp
  have hl := len _ _ _ _ hsp
  have up : ∀ b o, base.get? b = some o → s.heap.get? b = some o := fun b o e => (e0.bs b o e).1
  have KX : K.In s.heap := e0.mod.kin.keeps up
  have lim : s.heap.NoLimit := e0.mod.nolimit.keeps up
  have hkind : ∀ y ∈ ps.zip us, (defScope st).names.lookup y.1 = some .local ∨ ((defScope st).names.lookup y.1 = some .cell ∧ ((cellsFrom (s.heap.objs.size + 1) (defScope st).names []).lookup y.1).isSome = true) := by
    intro y hy
    refine (S.par y.1 (List.of_mem_zip hy).1).imp id fun q => ⟨q, ?_⟩
    exact PySem.W.cellsFrom_some _ _ _ (.inl q)
  have crec := PySem.W.codeRec_of KX hcd
  refine codeAny_call_function hr.r.depth (KX _ _ lk) rfl S.co S.gen rfl crec (hb _ _ _ _ ?_)
  refine wpAny_newFunctionEnv_cells S.kind hkind fun env he s1 ic => ?_
  subst he
  refine ⟨lim.keeps ic.toInCall.keep, codeAny_func ?_⟩
  obtain ⟨t, ht, hq⟩ := body cdv A outer s H vs Q E (hr.deeper _) hsp
  have I : Inv (cxOf (L2.CX P w) P w K mg base N qual (defScope st) f cdv A outer s H E) [] (start N vs) H s1 := inv_start S hr.r.hd e0 hl r ic
  have go := ht.run [] s1 (start N vs) H _ I hq
  refine wpAny_mono go ?_ fun e s' hs => hs
  intro fl s' hs
  match fl, hs with
  | .ret u, ⟨v, σ', H', J, rv, q⟩ => exact ⟨v, H', J.os, J.bare, J.base, J.hok, rv, q⟩
  | .next, ⟨σ', H', J, q⟩ => exact ⟨.non, H', J.os, J.bare, J.base, J.hok, rfl, q⟩
  | .brk, ⟨_, _, _, q⟩ => exact q.elim
  | .cont, ⟨_, _, _, q⟩ => exact q.elim
/-! ### what a run promises -/
abbrev WS := Value → Option Addr → Hp → Prop
def PostM (G : Gx) (W : WS) (μ : List Addr) (H : Hp) {α β : Type} (rel : Hp → List Addr → α → β → Prop) (Q : β → Hp → Prop) : Rs α → Prop
  | .ok a h' => ∀ μ' H' b, Ext G H μ H' μ' → RH G H' μ' h' → rel H' μ' a b → Q b H'
  | .ex c fs h' => ∀ μ' H' d fv, Ext G H μ H' μ' → RH G H' μ' h' → H' d = some (.xd fv) → RFs G H' μ' fs fv → d ∉ μ' → W (G.cls c) (some d) H'
def Sim (G : Gx) (W : WS) (μ : List Addr) (H : Hp) {α β : Type} (rel : Hp → List Addr → α → β → Prop) (x : Mo α) (Q : β → Hp → Prop) : Prop := ∃ r, x = some r ∧ PostM G W μ H rel Q r
section
variable {G : Gx} {W : WS} {μ μ' : List Addr} {H H' : Hp} {α β α' β' : Type} {rel : Hp → List Addr → α → β → Prop} {rel' : Hp → List Addr → α' → β' → Prop} {x : Mo α} {Q : β → Hp → Prop} {Q' : β' → Hp → Prop} {h : MH}
theorem Sim.ext (e : Ext G H μ H' μ') (s : Sim G W μ H rel x Q) : Sim G W μ' H' rel x Q := by
  obtain ⟨r, e1, p⟩ := s
  refine ⟨r, e1, ?_⟩
  cases r with
  | ok a h' => exact fun μ2 H2 b e2 => p μ2 H2 b (e.trans e2)
  | ex c fs h' => exact fun μ2 H2 d fv e2 => p μ2 H2 d fv (e.trans e2)
theorem Sim.bd {f : α → MH → Mo α'} (s : Sim G W μ H rel' (bd x f) Q') : Sim G W μ H rel x (fun b H1 => ∃ μ1 a h1, Ext G H μ H1 μ1 ∧ RH G H1 μ1 h1 ∧ rel H1 μ1 a b ∧ Sim G W μ1 H1 rel' (f a h1) Q') := by
  obtain ⟨r, e1, p⟩ := s
  cases x with
  | none => cases e1
  | some x =>
    refine ⟨x, rfl, ?_⟩
    cases x with
    | ok a h1 => exact fun μ1 H1 b e R r1 => ⟨μ1, a, h1, e, R, r1, Sim.ext e ⟨r, e1, p⟩⟩
    | ex c fs h1 =>
      cases e1
      exact p
theorem Sim.rt {a : α} {b : β} (s : Sim G W μ H rel (rt a h) Q) (R : RH G H μ h) (r : rel H μ a b) : Q b H := by
  obtain ⟨r', e1, p⟩ := s
  cases e1
  exact p μ H b Ext.refl R r
theorem Sim.up {y : Option (α × MH)} (s : Sim G W μ H rel (up y) Q) : ∃ a h', y = some (a, h') ∧ ∀ μ' H' b, Ext G H μ H' μ' → RH G H' μ' h' → rel H' μ' a b → Q b H' := by
  obtain ⟨r', e1, p⟩ := s
  cases y with
  | none => cases e1
  | some z =>
    obtain ⟨a, h'⟩ := z
    cases e1
    exact ⟨a, h', rfl, p⟩
theorem Sim.none (s : Sim G W μ H rel (none : Mo α) Q) : False := by
  obtain ⟨r', e1, p⟩ := s
  cases e1
theorem Sim.imp {W' : WS} {Q2 : β → Hp → Prop} (s : Sim G W μ H rel x Q) (hw : ∀ c d H, W c d H → W' c d H) (hq : ∀ b H, Q b H → Q2 b H) : Sim G W' μ H rel x Q2 := by
  obtain ⟨r, e1, p⟩ := s
  refine ⟨r, e1, ?_⟩
  cases r with
  | ok a h' => exact fun μ2 H2 b e2 R r => hq _ _ (p μ2 H2 b e2 R r)
  | ex c fs h' => exact fun μ2 H2 d fv e2 R r1 r2 r3 => hw _ _ _ (p μ2 H2 d fv e2 R r1 r2 r3)
end
/-- the frame's slots -/
structure RS (G : Gx) (C : Cfg) (H : Hp) (μ : List Addr) (ρ : Lo) (σ : L2.St) : Prop where
  len : ρ.length = σ.length
  at_ : ∀ (i : Nat) (w : W), ρ[i]? = some (some w) → ∃ v, σ[i]? = some (some v) ∧ RW G H μ w v
  exn : ∀ i n, C.exn = some (i, n) → ∃ xa xd, G.xa = some (xa, xd) ∧ σ[i]? = some (some (.ref xa)) ∧ μ[n]? = some xd
theorem RS.mono {G : Gx} {C : Cfg} {H H' : Hp} {μ μ' : List Addr} {ρ : Lo} {σ : L2.St} (r : RS G C H μ ρ σ) (e : Ext G H μ H' μ') : RS G C H' μ' ρ σ :=
  ⟨r.len, fun i w h => let ⟨v, h1, h2⟩ := r.at_ i w h; ⟨v, h1, RW.mono e _ _ h2⟩, fun i n h => let ⟨xa, xd, h1, h2, h3⟩ := r.exn i n h; ⟨xa, xd, h1, h2, e.get h3⟩⟩
/-- a slot is stored -/
theorem RS.set {G : Gx} {C : Cfg} {H : Hp} {μ : List Addr} {ρ : Lo} {σ : L2.St} {i : Nat} {w : W} {v : V} (r : RS G C H μ ρ σ) (hf : free C i = true) (h : RW G H μ w v) : RS G C H μ (ρ.set i (some w)) (σ.set i (some v)) := by
  refine ⟨by simp [r.len], fun j x hj => ?_, fun j n hj => ?_⟩
  · by_cases e : i = j
    · subst e
      have hl : i < ρ.length := by
        have := (List.getElem?_eq_some_iff.mp hj).1
        simpa using this
      rw [List.getElem?_set_self hl] at hj
      cases hj
      exact ⟨v, List.getElem?_set_self (by rw [← r.len]; exact hl), h⟩
    · rw [List.getElem?_set_ne e] at hj ⊢
      exact r.at_ j x hj
  · obtain ⟨xa, xd, h1, h2, h3⟩ := r.exn j n hj
    refine ⟨xa, xd, h1, ?_, h3⟩
    have hne : i ≠ j := by
      unfold free at hf
      rw [hj] at hf
      simpa using hf
    rw [List.getElem?_set_ne hne]; exact h2
theorem RS.wipe {G : Gx} {C : Cfg} {H : Hp} {μ : List Addr} {ρ : Lo} {σ : L2.St} (r : RS G C H μ ρ σ) (vs : List Nat) (hv : C.exn = none) : RS G C H μ (wipeW ρ vs) (L2.wipe σ vs) := by
  induction vs with
  | nil => exact r
  | cons v vs ih =>
    refine ⟨?_, fun j x hj => ?_, fun j n hj => by rw [hv] at hj; cases hj⟩
    · show ((wipeW ρ vs).set v none).length = ((L2.wipe σ vs).set v none).length
      simpa using ih.len
    · have hj' : ((wipeW ρ vs).set v none)[j]? = some (some x) := hj
      show ∃ u, ((L2.wipe σ vs).set v none)[j]? = some (some u) ∧ RW G H μ x u
      by_cases e : v = j
      · subst e
        have hl : v < (wipeW ρ vs).length := by
          have := (List.getElem?_eq_some_iff.mp hj').1
          simpa using this
        rw [List.getElem?_set_self hl] at hj'
        cases hj'
      · rw [List.getElem?_set_ne e] at hj' ⊢
        exact ih.at_ j x hj'
/-- what is walked -/
def SrcOk (G : Gx) (H : Hp) (μ : List Addr) (s : Src) (J : It) : Prop := ∀ μ' h' H' i, Ext G H μ H' μ' → RH G H' μ' h' →
  (s.item h' i = some none → J.stop i H') ∧ ∀ w, s.item h' i = some (some w) → J.go i H' ∧ ∀ x H'', J.yld i H' x H'' → Ext G H' μ' H'' μ' ∧ RH G H'' μ' h' ∧ RW G H'' μ' w x
theorem SrcOk.ext {G : Gx} {H H' : Hp} {μ μ' : List Addr} {s : Src} {J : It} (o : SrcOk G H μ s J) (e : Ext G H μ H' μ') : SrcOk G H' μ' s J := fun μ2 h2 H2 i e2 => o μ2 h2 H2 i (e.trans e2)
section
variable {G : Gx} {H : Hp} {μ : List Addr} {h : MH}
/-- our list, tuple or text as the model's -/
def BsOk (G : Gx) (H : Hp) (μ : List Addr) (b : Bs) (d : Ds) : Prop := ∀ μ' h' H' ws, Ext G H μ H' μ' → RH G H' μ' h' → b.items h' = some ws → ∃ vs, DIt G.K H' d vs ∧ RWs G H' μ' ws vs
theorem rws_chars : ∀ l : List Nat, RWs G H μ (l.map fun c => W.str ⟨#[c]⟩) (l.map fun c => V.str ⟨#[c]⟩)
  | [] => .nil
  | c :: l => .cons (by simp only [RW]) (rws_chars l)
theorem bs_ok (R : RH G H μ h) {x : W} {v : V} {b : Bs} (hx : RW G H μ x v) (e : srcOf x h = some b) : ∃ d, v = Ds.v d ∧ BsOk G H μ b d ∧ (∃ ws, b.items h = some ws) ∧ (lsrcOf x h = some b → ∃ a, d = .l a) := by
  cases x with
  | tup xs =>
    simp only [srcOf, Option.some.injEq] at e; subst e
    obtain ⟨a, vs, rfl, t1, r1⟩ := rw_tup hx
    refine ⟨.t a, rfl, fun μ' h' H' ws e' R' hw => ?_, ⟨_, rfl⟩, fun z => by simp [lsrcOf] at z⟩
    simp only [Bs.items, Option.some.injEq] at hw; subst hw
    exact ⟨vs, e'.tup _ _ t1, RWs.mono e' _ _ r1⟩
  | str z =>
    simp only [srcOf, Option.some.injEq] at e; subst e
    cases rw_str hx
    refine ⟨.s z, rfl, fun μ' h' H' ws e' R' hw => ?_, ⟨_, rfl⟩, fun z => by simp [lsrcOf] at z⟩
    simp only [Bs.items, Option.some.injEq] at hw; subst hw
    exact ⟨_, rfl, rws_chars _⟩
  | ref n =>
    obtain ⟨a, rfl, t1⟩ := rw_ref hx
    simp only [srcOf] at e
    split at e
    · rename_i xs hn
      cases e
      refine ⟨.l a, rfl, fun μ' h' H' ws e' R' hw => ?_, ⟨xs, by simp [Bs.items, hn]⟩, fun _ => ⟨a, rfl⟩⟩
      simp only [Bs.items] at hw
      split at hw
      · rename_i ys hn'
        cases hw
        obtain ⟨vs, g1, r1⟩ := R'.lst hn' (e'.get t1)
        exact ⟨vs, SqL.of g1, r1⟩
      · cases hw
    · cases e
  | _ => simp [srcOf] at e
theorem src_one_l {b : Bs} {a : Addr} (o : BsOk G H μ b (.l a)) : SrcOk G H μ (.one b) (Itl G.K a) := fun μ' h' H' i e' R' => by
  simp only [Src.item, Option.map_eq_some_iff]
  refine ⟨fun ⟨ws, h1, h2⟩ => ?_, fun w ⟨ws, h1, h2⟩ => ?_⟩
  · obtain ⟨vs, d1, r1⟩ := o μ' h' H' ws e' R' h1
    exact ⟨vs, d1, by rw [← r1.length]; exact List.getElem?_eq_none_iff.mp h2⟩
  · obtain ⟨vs, d1, r1⟩ := o μ' h' H' ws e' R' h1
    obtain ⟨v, g1, g2⟩ := r1.get h2
    refine ⟨⟨vs, v, d1, g1⟩, fun x H'' y => ?_⟩
    obtain ⟨rfl, y⟩ := y
    have := y vs d1
    rw [g1] at this; cases this
    exact ⟨Ext.refl, R', g2⟩
theorem src_one_t {b : Bs} {a : Addr} (o : BsOk G H μ b (.t a)) : SrcOk G H μ (.one b) (Itt G.K a) := fun μ' h' H' i e' R' => by
  simp only [Src.item, Option.map_eq_some_iff]
  refine ⟨fun ⟨ws, h1, h2⟩ => ?_, fun w ⟨ws, h1, h2⟩ => ?_⟩
  · obtain ⟨vs, d1, r1⟩ := o μ' h' H' ws e' R' h1
    exact ⟨vs, d1, by rw [← r1.length]; exact List.getElem?_eq_none_iff.mp h2⟩
  · obtain ⟨vs, d1, r1⟩ := o μ' h' H' ws e' R' h1
    obtain ⟨v, g1, g2⟩ := r1.get h2
    refine ⟨⟨vs, v, d1, g1⟩, fun x H'' y => ?_⟩
    obtain ⟨rfl, y⟩ := y
    have := y vs d1
    rw [g1] at this; cases this
    exact ⟨Ext.refl, R', g2⟩
theorem src_one_s {b : Bs} {z : Str} (o : BsOk G H μ b (.s z)) : SrcOk G H μ (.one b) (Its z) := fun μ' h' H' i e' R' => by
  simp only [Src.item, Option.map_eq_some_iff]
  refine ⟨fun ⟨ws, h1, h2⟩ => ?_, fun w ⟨ws, h1, h2⟩ => ?_⟩
  · obtain ⟨vs, d1, r1⟩ := o μ' h' H' ws e' R' h1
    have d1' : vs = z.cps.toList.map fun c => V.str ⟨#[c]⟩ := d1
    have hl := r1.length
    subst d1'
    have := List.getElem?_eq_none_iff.mp h2
    show z.cps.size ≤ i
    simp at hl
    omega
  · obtain ⟨vs, d1, r1⟩ := o μ' h' H' ws e' R' h1
    have d1' : vs = z.cps.toList.map fun c => V.str ⟨#[c]⟩ := d1
    subst d1'
    obtain ⟨v, g1, g2⟩ := r1.get h2
    obtain ⟨hl, _⟩ := List.getElem?_eq_some_iff.mp g1
    refine ⟨by show i < z.cps.size; simpa using hl, fun x H'' y => ?_⟩
    obtain ⟨rfl, c, hc, rfl⟩ := y
    have : (z.cps.toList.map fun c => V.str ⟨#[c]⟩)[i]? = some (.str ⟨#[c]⟩) := by simp [hc]
    rw [g1] at this; cases this
    exact ⟨Ext.refl, R', g2⟩
theorem src_rng {lo : Int} {n : Nat} : SrcOk G H μ (.rng lo n) (Itr lo n) := fun μ' h' H' i e' R' => by
  simp only [Src.item, Option.some.injEq]
  refine ⟨fun z => ?_, fun w z => ?_⟩
  · split at z
    · cases z
    · exact Nat.le_of_not_lt (by assumption)
  · split at z
    · rename_i hi
      cases z
      refine ⟨hi, fun x H'' y => ?_⟩
      obtain ⟨rfl, rfl⟩ := y
      exact ⟨Ext.refl, R', by simp only [RW]⟩
    · cases z
theorem pair_ok {H' H'' : Hp} {μ' : List Addr} {h' : MH} {T : Addr} {a b : W} {x y : V} (R' : RH G H' μ' h') (hT : H' T = none) (e : H'' = L2.upd H' T (.tup [x, y])) (ra : RW G H' μ' a x) (rb : RW G H' μ' b y) :
    Ext G H' μ' H'' μ' ∧ RH G H'' μ' h' ∧ RW G H'' μ' (.tup [a, b]) (.ref T) := by
  subst e
  have ex : Ext G H' μ' (L2.upd H' T (.tup [x, y])) μ' := Ext.new hT
  refine ⟨ex, R'.side hT, ?_⟩
  simp only [RW]
  exact ⟨T, _, rfl, SqT.of upd_same, .cons (RW.mono ex _ _ ra) (.one (RW.mono ex _ _ rb))⟩
theorem src_enm {b : Bs} {a : Addr} (o : BsOk G H μ b (.l a)) : SrcOk G H μ (.enm b) (Ite G.K a) := fun μ' h' H' i e' R' => by
  simp only [Src.item, Option.map_eq_some_iff]
  refine ⟨fun ⟨ws, h1, h2⟩ => ?_, fun w ⟨ws, h1, h2⟩ => ?_⟩
  · obtain ⟨vs, d1, r1⟩ := o μ' h' H' ws e' R' h1
    have h2' : ws[i]? = none := by simpa using h2
    exact ⟨vs, d1, by rw [← r1.length]; exact List.getElem?_eq_none_iff.mp h2'⟩
  · obtain ⟨vs, d1, r1⟩ := o μ' h' H' ws e' R' h1
    obtain ⟨z, h2, rfl⟩ := h2
    obtain ⟨v, g1, g2⟩ := r1.get h2
    refine ⟨⟨vs, v, d1, g1⟩, fun x H'' y => ?_⟩
    obtain ⟨T, u, rfl, hT, e, y⟩ := y
    have := y vs d1
    rw [g1] at this; cases this
    exact pair_ok R' hT e (by simp only [RW]) g2
theorem src_zip {b c : Bs} {d e : Ds} (o : BsOk G H μ b d) (o2 : BsOk G H μ c e) : SrcOk G H μ (.zip b c) (Jz G.K d e) := fun μ' h' H' i e' R' => by
  have key : ∀ r, (Src.zip b c).item h' i = some r → ∃ xs ys, b.items h' = some xs ∧ c.items h' = some ys ∧ ((r = none ∧ i = min xs.length ys.length) ∨ ∃ x y, xs[i]? = some x ∧ ys[i]? = some y ∧ r = some (.tup [x, y])) := fun r hr => by
    simp only [Src.item] at hr
    split at hr
    · rename_i xs ys h1 h2
      refine ⟨xs, ys, h1, h2, ?_⟩
      split at hr
      · rename_i x y g1 g2
        cases hr
        exact .inr ⟨x, y, g1, g2, rfl⟩
      · split at hr
        · rename_i hi
          cases hr
          exact .inl ⟨rfl, hi⟩
        · cases hr
    · cases hr
  refine ⟨fun z => ?_, fun w z => ?_⟩
  · obtain ⟨xs, ys, h1, h2, q⟩ := key _ z
    rcases q with ⟨_, q⟩ | ⟨_, _, _, _, q⟩
    · obtain ⟨vs, d1, r1⟩ := o μ' h' H' xs e' R' h1
      obtain ⟨us, d2, r2⟩ := o2 μ' h' H' ys e' R' h2
      exact ⟨vs, us, d1, d2, by rw [← r1.length, ← r2.length]; exact q⟩
    · cases q
  · obtain ⟨xs, ys, h1, h2, q⟩ := key _ z
    rcases q with ⟨q, _⟩ | ⟨x, y, g1, g2, q⟩
    · cases q
    · cases q
      obtain ⟨vs, d1, r1⟩ := o μ' h' H' xs e' R' h1
      obtain ⟨us, d2, r2⟩ := o2 μ' h' H' ys e' R' h2
      obtain ⟨v, k1, k2⟩ := r1.get g1
      obtain ⟨u, k3, k4⟩ := r2.get g2
      refine ⟨⟨vs, us, v, u, d1, d2, k1, k3⟩, fun x' H'' yy => ?_⟩
      obtain ⟨T, v', u', rfl, hT, e, y1, y2⟩ := yy
      have := y1 vs d1
      rw [k1] at this; cases this
      have := y2 us d2
      rw [k3] at this; cases this
      exact pair_ok R' hT e k2 k4
end
end Mi
set_option Elab.async false
set_option linter.all false
set_option maxRecDepth 100000
set_option maxHeartbeats 2000000
/-! Expressions: the model's run follows the interpreter's. -/
namespace Mi
open PySem PySem.Spec PyProof.Rows L2
/-! ### the check -/
structure Reg where
  gn : Nat → Str
  fn : Nat → Str
def isVis (sc : Scope) (x : Str) : Bool := match sc.names.lookup x with
  | some .local => true | some .cell => true | some .free => true | _ => false
def isGl (sc : Scope) (x : Str) : Bool := match sc.names.lookup x with
  | some .globalImplicit => true | _ => false
def isLoc (sc : Scope) (x : Str) : Bool := match sc.names.lookup x with
  | some .local => true | some .cell => true | _ => false
def dbg (x : Str) : Bool := (x == ("__debug__" : Str)) || (x == ("__classdict__" : Str))
def notStar : PySem.Expr → Bool
  | .Starred _ _ => false
  | _ => true
def notSlice : PySem.Expr → Bool
  | .Slice _ _ _ _ => false
  | _ => true
def notCall0 : PySem.Expr → Bool
  | .Call (.Name _ _) [] [] _ => false
  | _ => true
def notSet : PySem.Expr → Bool
  | .Set _ _ _ => false
  | _ => true
def opB_ : BOp → Operator
  | .add => .Add | .sub => .Sub | .mul => .Mult | .fdv => .FloorDiv | .mod => .Mod | .pow => .Pow
def bltS : Blt → Str
  | .len => "len" | .max => "max" | .min => "min" | .repr => "repr" | .all => "all" | .any => "any" | .sum => "sum" | .int => "int" | .list => "list" | .tuple => "tuple" | .dict => "dict"
def tyS : Ty → Str
  | .int => "int" | .str => "str" | .bool => "bool" | .tuple => "tuple" | .list => "list" | .dict => "dict"
def mthS : Mth → Str
  | .append => "append" | .extend => "extend" | .insert => "insert" | .clear => "clear" | .split => "split" | .join => "join"
def bltN : List Str := ["len", "max", "min", "repr", "all", "any", "sum", "int", "list", "tuple", "dict", "str", "bool", "isinstance", "range", "enumerate", "zip"]
def ckL (f : PySem.Expr → ME → Bool) : List PySem.Expr → MEs → Bool
  | [], .nil => true
  | e :: es, .cons m ms => notStar e && f e m && ckL f es ms
  | _, _ => false
def ckP (f : PySem.Expr → ME → Bool) : List (Option PySem.Expr) → List PySem.Expr → MPs → Bool
  | [], [], .nil => true
  | some k :: ks, v :: vs, .cons m n r => f k m && f v n && ckP f ks vs r
  | _, _, _ => false
def ckO (f : PySem.Expr → ME → Bool) : Option PySem.Expr → MO → Bool
  | none, .no => true
  | some e, .so m => f e m
  | _, _ => false
/-- a target: the names are own ones -/
def ckN (N : List Str) (sc : Scope) (own : Str → Bool) (x : Str) (i : Nat) : Bool := decide (N[i]? = some x) && isLoc sc x && own x
def ckNs (N : List Str) (sc : Scope) (own : Str → Bool) : List PySem.Expr → List Nat → Bool
  | [], [] => true
  | .Name x _ :: es, i :: is => ckN N sc own x i && ckNs N sc own es is
  | _, _ => false
def ckG (N : List Str) (sc : Scope) (own : Str → Bool) : PySem.Expr → MG → Bool
  | .Name x _, .nm i => ckN N sc own x i
  | .Tuple es _ _, .tp is => ckNs N sc own es is
  | _, _ => false
def ckI (f : PySem.Expr → ME → Bool) (sc : Scope) (tup : Bool) : PySem.Expr → MI → Bool
  | .Call (.Name x _) [a] [] _, .rg1 m => decide (x = "range") && isGl sc x && notStar a && f a m
  | .Call (.Name x _) [a, b] [] _, .rg2 m n => decide (x = "range") && isGl sc x && notStar a && notStar b && f a m && f b n
  | .Call (.Name x _) [a] [] _, .enm m => tup && decide (x = "enumerate") && isGl sc x && notStar a && f a m
  | .Call (.Name x _) [a, b] [] _, .zip m n => tup && decide (x = "zip") && isGl sc x && notStar a && notStar b && f a m && f b n
  | e, .pl m => notSet e && f e m
  | _, _ => false
def isTup : PySem.Expr → Bool
  | .Tuple _ _ _ => true
  | _ => false
/-- the comprehension's own names with their places -/
def ownOf (N : List Str) : PySem.Expr → MG → List (Str × Nat)
  | .Name x _, .nm i => [(x, i)]
  | .Tuple es _ _, .tp is => (es.zip is).filterMap fun p => match p.1 with
    | .Name x _ => some (x, p.2)
    | _ => none
  | _, _ => []
def ownB (scope rs : Scope) (x : Str) : Bool := (match scope.names.lookup x with | some .cell => true | _ => false) || (match rs.names.lookup x with | some .local => true | _ => false)
def ck (R : Reg) (N : List Str) : Nat → Scope → (Str → Bool) → PySem.Expr → ME → Bool
  | 0, _, _, _, _ => false
  | n + 1, sc, own, e, m => match e, m with
    | .Name x _, .var i => decide (N[i]? = some x) && isVis sc x && !dbg x
    | .Name x _, .glb g => decide (R.gn g = x) && isGl sc x && !dbg x
    | .Constant (.int i) _ _, .int j => decide (i = j)
    | .Constant (.str i) _ _, .str j => decide (i = j)
    | .Constant (.bool i) _ _, .bl j => decide (i = j)
    | .Constant .none _ _, .non => true
    | .Tuple es _ _, .tup ms => ckL (ck R N n sc own) es ms
    | .List es _, .lst ms => ckL (ck R N n sc own) es ms
    | .BinOp a op b _, .bin o x y => decide (op = opB_ o) && ck R N n sc own a x && ck R N n sc own b y
    | .UnaryOp .USub a _, .neg x => ck R N n sc own a x
    | .UnaryOp .Not a _, .not x => ck R N n sc own a x
    | .Compare a [op] [b] _, .cmp o x y => decide (op = cop o) && notSet b && ck R N n sc own a x && ck R N n sc own b y
    | .Compare a [op, op'] [b, c] _, .chn o o' x y z => decide (op = cop o) && decide (op' = cop o') && notSet b && notSet c && ck R N n sc own a x && ck R N n sc own b y && ck R N n sc own c z
    | .BoolOp .And (a :: b :: r) p, .and x y => ck R N n sc own a x && ck R N n sc own (.BoolOp .And (b :: r) p) y
    | .BoolOp .Or (a :: b :: r) p, .or x y => ck R N n sc own a x && ck R N n sc own (.BoolOp .Or (b :: r) p) y
    | .BoolOp .And [a] _, m => ck R N n sc own a m
    | .BoolOp .Or [a] _, m => ck R N n sc own a m
    | .IfExp c a b _, .ite k x y => ck R N n sc own c k && ck R N n sc own a x && ck R N n sc own b y
    | .Subscript a (.Slice lo hi none _) _, .slc x l u => ck R N n sc own a x && ckO (ck R N n sc own) lo l && ckO (ck R N n sc own) hi u
    | .Subscript a b _, .idx x y => notSlice b && ck R N n sc own a x && ck R N n sc own b y
    | .Call (.Name x _) es [] _, .call f ms => decide (R.gn f = x) && isGl sc x && !dbg x && ckL (ck R N n sc own) es ms
    | .Call (.Name x _) (e :: es) [] _, .blt b ms => decide (x = bltS b) && isGl sc x && ckL (ck R N n sc own) (e :: es) ms
    | .Call (.Name x _) [a, .Name y _] [] _, .isi m t => decide (x = "isinstance") && isGl sc x && decide (y = tyS t) && isGl sc y && notStar a && ck R N n sc own a m
    | .Call (.Attribute o name apos) es [] cpos, .mth mt mo ms => decide (name = mthS mt) && notCall0 o && (apos.endLine == cpos.line) && decide (es.length < 20) && ck R N n sc own o mo && ckL (ck R N n sc own) es ms
    | .Attribute (.Name x _) f _, .exf i g => decide (R.fn g = f) && decide (N[i]? = some x) && isVis sc x && !dbg x
    | .Dict ks vs _, .dct ps => decide (ks.length ≤ 15) && decide (ks.length = vs.length) && ckP (ck R N n sc own) ks vs ps
    | .Call (.Name x _) [.Call (.Attribute o name apos) [] [] cpos] [] _, .itl m => decide (x = "list") && isGl sc x && decide (name = "items") && notCall0 o && (apos.endLine == cpos.line) && ck R N n sc own o m
    | .ListComp elt [⟨tg, iter, ifs, 0⟩] scope _, .comp em gm im cm vs =>
      decide (vs = (ownOf N tg gm).map (·.2)) && blkC N sc scope (ownOf N tg gm) && ckG N (relS scope sc) (ownB scope (relS scope sc)) tg gm && ckI (ck R N n sc own) sc (isTup tg) iter im &&
      ck R N n (relS scope sc) (ownB scope (relS scope sc)) elt em && (match ifs, cm with
        | [], none => true
        | [c], some k => ck R N n (relS scope sc) (ownB scope (relS scope sc)) c k
        | _, _ => false)
    | _, _ => false
/-! ### the surroundings -/
def SpI (G : Gx) (c : List W → MH → Mo W) (np : Nat) : Sp := fun vs H Q E => vs.length = np ∧ ∃ μ ws h, RWs G H μ ws vs ∧ RH G H μ h ∧ Sim G (fun c d H' => E c d H') μ H (RW G) (c ws h) Q
def CallOk (G : Gx) (X : Cx) (C : Cfg) (f : Nat) : Prop := ∃ (k : Nat) (fa : Addr) (fd : FuncData) (ps : List Str) (ds : List Value) (dvs : List V) (wds : List W) (c : List W → MH → Mo W), X.mg (G.gn f) = some (.ref fa) ∧ PySem.W.keepIn X.K (.ref fa) = true ∧ FnG X.prog X.w X.K X.mg X.base k fa fd ps (SpI G c ps.length) ∧ RoomG k X.A ∧ Binds X.K fd ps ds ∧ Vals dvs ds ∧
  (∀ H μ, RWs G H μ wds dvs) ∧ (∀ ws h, C.call f ws h = c (ws ++ wds) h) ∧ ∀ ws h r, c ws h = some r → ws.length = ps.length
structure Ok (G : Gx) (N : List Str) (sc : Scope) (own : Str → Bool) (X : Cx) (C : Cfg) (W : WX) : Prop where
  sur : Sur G X
  hN : X.N = N
  nd : N.Nodup
  hsc : X.env.scope = sc
  kd : sc.kind = .function
  calm : C.calm = true → X.calm = true
  tk : Takes X W
  own : ∀ x, own x = true → X.fn x = true ∨ X.env.scope.names.lookup x = some .local
  cdt : CfgD G C
  glb : ∀ x w, C.glb x = some w → ∃ u v, G.mg (G.gn x) = some u ∧ RelV v u ∧ ∀ H μ, RW G H μ w v
  blt : ∀ n ∈ bltN, G.mg n = none
  call : ∀ f, C.has f = true → CallOk G X C f
  exn : ∀ i n, C.exn = some (i, n) → C.calm = false ∧ ∃ xa xd oe cl pn', X.A.handled ≠ none ∧ G.xa = some (xa, xd) ∧ ∃ X0 : Cx, X = X0.suite xa ((xa, oe) :: pn') ∧ Zc (.ref cl) (some xd) oe ∧ (∃ vs, oe.data = .fields vs) ∧ XfC X.K cl ∧ ∀ f, PySem.W.findIn X.K (.ref cl) (G.fn f) = some none
def TeM (G : Gx) (C : Cfg) (W : WX) (m : ME) : TE := fun σ H Q => ∃ μ ρ h, RS G C H μ ρ σ ∧ RH G H μ h ∧ Sim G (fun c d H' => W c d σ H') μ H (RW G) (ev C m ρ h) Q
def TtM (G : Gx) (C : Cfg) (W : WX) (m : ME) : TT := fun σ H Q => ∃ μ ρ h, RS G C H μ ρ σ ∧ RH G H μ h ∧ Sim G (fun c d H' => W c d σ H') μ H (fun _ _ a b => a = b) (tst C m ρ h) Q
def TaM (G : Gx) (C : Cfg) (W : WX) (m : MEs) : TA := fun σ H Q => ∃ μ ρ h, RS G C H μ ρ σ ∧ RH G H μ h ∧ Sim G (fun c d H' => W c d σ H') μ H (RWs G) (evs C m ρ h) Q
def ToM (G : Gx) (C : Cfg) (W : WX) (m : MO) : TO := fun σ H Q => ∃ μ ρ h, RS G C H μ ρ σ ∧ RH G H μ h ∧ Sim G (fun c d H' => W c d σ H') μ H (fun _ _ a b => a = b) (evo C m ρ h) Q
def TiM (G : Gx) (C : Cfg) (W : WX) (m : MI) : TI := fun σ H Q => ∃ μ ρ h, RS G C H μ ρ σ ∧ RH G H μ h ∧ Sim G (fun c d H' => W c d σ H') μ H (fun H μ s J => SrcOk G H μ s J) (evi C m ρ h) Q
/-! ### weakening -/
section
variable {X : Cx} {e : PySem.Expr}
theorem peI {t t' : TE} (h : PE X e t) (i : ∀ σ H Q, t' σ H Q → t σ H Q) : PE X e t' := ⟨fun pins s σ H Q I hq => h.run pins s σ H Q I (i _ _ _ hq)⟩
theorem ptI {t t' : TT} (h : PT X e t) (i : ∀ σ H Q, t' σ H Q → t σ H Q) : PT X e t' := ⟨fun pins s σ H Q I hq => h.run pins s σ H Q I (i _ _ _ hq)⟩
theorem pwI {t t' : TT} (h : PW X e t) (i : ∀ σ H Q, t' σ H Q → t σ H Q) : PW X e t' := ⟨fun wh pins s σ H Q I hq => h.run wh pins s σ H Q I (i _ _ _ hq)⟩
theorem paI {es : List PySem.Expr} {t t' : TA} (h : PA X es t) (i : ∀ σ H Q, t' σ H Q → t σ H Q) : PA X es t' := ⟨fun pos pins s σ H Q I hq => h.run pos pins s σ H Q I (i _ _ _ hq)⟩
theorem poI {o : Option PySem.Expr} {t t' : TO} (h : PO X o t) (i : ∀ σ H Q, t' σ H Q → t σ H Q) : PO X o t' := ⟨fun pins s σ H Q I hq => h.run pins s σ H Q I (i _ _ _ hq)⟩
theorem piI {tg : PySem.Expr} {t t' : TI} (h : PI X tg e t) (i : ∀ σ H Q, t' σ H Q → t σ H Q) : PI X tg e t' := ⟨fun pins s σ H Q I hq => h.run pins s σ H Q I (i _ _ _ hq)⟩
theorem star_ne {es : List PySem.Expr} {env : Env} (h : notStar e = true) : starEach (e :: es) env = (false, eval e env) :: starEach es env := by cases e <;> first | rfl | (simp [notStar] at h)
theorem star_any {pos : Pos} {env : Env} {f : PySem.Expr → ME → Bool} : ∀ {es : List PySem.Expr} {ms : MEs}, ckL f es ms = true → (backTo pos (starEach es env)).any (·.1) = false
  | [], _, _ => rfl
  | e :: es, .nil, h => by simp [ckL] at h
  | e :: es, .cons m ms, h => by
    simp only [ckL, Bool.and_eq_true] at h
    rw [star_ne h.1.1]
    show (false || (backTo pos (starEach es env)).any (·.1)) = false
    rw [star_any h.2]; rfl
theorem star_all {pos : Pos} {env : Env} {f : PySem.Expr → ME → Bool} : ∀ {es : List PySem.Expr} {ms : MEs}, ckL f es ms = true → (backTo pos (starEach es env)).all (fun x => !x.1) = true
  | [], _, _ => rfl
  | e :: es, .nil, h => by simp [ckL] at h
  | e :: es, .cons m ms, h => by
    simp only [ckL, Bool.and_eq_true] at h
    rw [star_ne h.1.1]
    show (!false && (backTo pos (starEach es env)).all (fun x => !x.1)) = true
    rw [star_all h.2]; rfl
theorem attr_base {o : PySem.Expr} {a : Str} {env : Env} {w : Sem Value} (h : notCall0 o = true) : attributeBase o a env w = w := by
  unfold attributeBase
  split
  · simp [notCall0] at h
  · rfl
theorem behind_ne {op : CmpOp} (h : notSet e = true) : behindInMarks op e = false := by
  cases e <;> first | rfl | (simp [notSet] at h)
theorem folded_ne {env : Env} (h : notSet e = true) : ∀ x, foldedSetIterable e env x = pure x := by
  intro x
  cases e <;> first | rfl | (simp [notSet] at h)
theorem plain_ne (h : notSlice e = true) : PlainIx e := by
  intro o i
  cases e <;> first | rfl | (simp [notSlice] at h)
theorem vis_of {sc : Scope} {x : Str} (h : isVis sc x = true) : Vis sc x := by
  unfold isVis at h
  unfold Vis
  split at h <;> simp_all
theorem loc_of {sc : Scope} {x : Str} (h : isLoc sc x = true) : L2.Loc sc x := by
  unfold isLoc at h
  unfold L2.Loc
  split at h <;> simp_all
theorem gl_of {sc : Scope} {x : Str} (h : isGl sc x = true) : sc.names.lookup x = some .globalImplicit := by
  unfold isGl at h
  split at h <;> simp_all
theorem dbg_of {x : Str} (h : (!dbg x) = true) : (x == ("__debug__" : Str)) = false ∧ (x == ("__classdict__" : Str)) = false := by
  unfold dbg at h
  simpa using h
end
end Mi
set_option Elab.async false
set_option linter.all false
set_option maxRecDepth 100000
set_option maxHeartbeats 2000000
namespace Mi
open PySem PySem.Spec PyProof.Rows L2
section
variable {G : Gx} {N : List Str} {sc : Scope} {own : Str → Bool} {X : Cx} {C : Cfg} {U : WX} {a b c e : PySem.Expr} {ma mb mc m : ME} {es : List PySem.Expr} {ms : MEs} {pos : Pos}
theorem mb_call {n : Str} (o : Ok G N sc own X C U) (h : n ∈ bltN) : X.mg n = none := by rw [o.sur.mg]; exact o.blt n h
theorem gl_ok {x : Str} (o : Ok G N sc own X C U) (h : isGl sc x = true) : Gl X x := by
  show X.env.scope.names.lookup x = _
  rw [o.hsc]; exact gl_of h
theorem vis_ok {x : Str} (o : Ok G N sc own X C U) (h : isVis sc x = true) : Vis X.env.scope x := by
  rw [o.hsc]; exact vis_of h
theorem e_const {v : V} {w : W} {e : PySem.Expr} (h : PE X e (tC v)) (hm : ∀ ρ hh, ev C m ρ hh = rt w hh) (hw : ∀ H μ, RW G H μ w v) : PE X e (TeM G C U m) :=
  peI h fun σ H Q ⟨μ, ρ, hh, rs, R, s⟩ => by
    rw [hm] at s
    exact s.rt R (hw H μ)
theorem e_var {i : Nat} {x : Str} {p : Pos} (o : Ok G N sc own X C U) (h1 : N[i]? = some x) (h2 : isVis sc x = true) (h3 : (!dbg x) = true) : PE X (.Name x p) (TeM G C U (.var i)) :=
  peI (pe_var (i := i) (by rw [o.hN]; exact h1) (vis_ok o h2) (dbg_of h3).1 (dbg_of h3).2) fun σ H Q ⟨μ, ρ, hh, rs, R, s⟩ => by
    simp only [ev] at s
    split at s
    · rename_i w hw
      obtain ⟨v, g1, g2⟩ := rs.at_ i w hw
      exact ⟨v, g1, s.rt R g2⟩
    · exact s.none.elim
theorem e_glb {g : Nat} {x : Str} {p : Pos} (o : Ok G N sc own X C U) (h1 : G.gn g = x) (h2 : isGl sc x = true) (h3 : (!dbg x) = true) : PE X (.Name x p) (TeM G C U (.glb g)) := by
  cases hg : C.glb g with
  | none =>
    constructor
    intro pins s σ H Q I hq
    obtain ⟨μ, ρ, hh, rs, R, sm⟩ := hq
    simp only [ev, hg] at sm
    exact sm.none.elim
  | some w =>
    obtain ⟨u, v, k1, k2, k3⟩ := o.glb g w hg
    refine e_const (v := v) (w := w) (pe_glob (gl_ok o h2) (u := u) ?_ k2 (dbg_of h3).1) (fun ρ hh => by simp only [ev, hg]) k3
    rw [o.sur.mg, ← h1]; exact k1
theorem a_nil : PA X [] (TaM G C U .nil) := paI pa_nil fun σ H Q ⟨μ, ρ, hh, rs, R, s⟩ => by
  simp only [evs] at s
  exact s.rt R .nil
theorem a_cons (ha : PE X e (TeM G C U m)) (hb : PA X es (TaM G C U ms)) (hs : notStar e = true) : PA X (e :: es) (TaM G C U (.cons m ms)) :=
  paI (pa_cons ha hb (star_ne hs)) fun σ H Q ⟨μ, ρ, hh, rs, R, s⟩ => by
    simp only [evs] at s
    refine ⟨μ, ρ, hh, rs, R, s.bd.imp (fun _ _ _ z => z) fun x H1 hx => ?_⟩
    obtain ⟨μ1, w1, h1, e1, R1, r1, s1⟩ := hx
    refine ⟨μ1, ρ, h1, rs.mono e1, R1, s1.bd.imp (fun _ _ _ z => z) fun xs H2 hx => ?_⟩
    obtain ⟨μ2, w2, h2, e2, R2, r2, s2⟩ := hx
    exact s2.rt R2 (.cons (RW.mono e2 _ _ r1) r2)
theorem e_tup {x1 : Nat} (ha : PA X es (TaM G C U ms)) : PE X (.Tuple es x1 pos) (TeM G C U (.tup ms)) :=
  peI (pe_tup ha) fun σ H Q ⟨μ, ρ, hh, rs, R, s⟩ => by
    simp only [ev] at s
    refine ⟨μ, ρ, hh, rs, R, s.bd.imp (fun _ _ _ z => z) fun xs H1 hx => ?_⟩
    obtain ⟨μ1, ws, h1, e1, R1, r1, s1⟩ := hx
    split at s1
    · rename_i hz
      refine ⟨by rw [← r1.length]; exact hz, ?_⟩
      obtain ⟨r', q1, q2⟩ := s1
      cases q1
      exact Fin1.tup (fun μ' H' v e R r => q2 μ' H' v e R r) R1 r1
    · exact s1.none.elim
theorem e_lst (ha : PA X es (TaM G C U ms)) : PE X (.List es pos) (TeM G C U (.lst ms)) :=
  peI (pe_lst ha) fun σ H Q ⟨μ, ρ, hh, rs, R, s⟩ => by
    simp only [ev] at s
    refine ⟨μ, ρ, hh, rs, R, s.bd.imp (fun _ _ _ z => z) fun xs H1 hx => ?_⟩
    obtain ⟨μ1, ws, h1, e1, R1, r1, s1⟩ := hx
    split at s1
    · rename_i hz
      refine ⟨by rw [← r1.length]; exact hz, ?_⟩
      obtain ⟨r', q1, q2⟩ := s1
      cases q1
      exact Fin1.lst (fun μ' H' v e R r => q2 μ' H' v e R r) R1 r1
    · exact s1.none.elim
/-- two operands, then a rule by values -/
theorem two_ops {f : W → W → MH → Option (W × MH)} {m : ME} (hm : ∀ ρ h, ev C m ρ h = bd (ev C ma ρ h) fun x h1 => bd (ev C mb ρ h1) fun y h2 => up (f x y h2)) {σ : L2.St} {H : Hp} {Q : VK}
    (h : TeM G C U m σ H Q) : tOp (rM2 G f) (TeM G C U ma) (TeM G C U mb) σ H Q := by
  obtain ⟨μ, ρ, hh, rs, R, s⟩ := h
  rw [hm] at s
  refine ⟨μ, ρ, hh, rs, R, s.bd.imp (fun _ _ _ z => z) fun x H1 hx => ?_⟩
  obtain ⟨μ1, w1, h1, e1, R1, r1, s1⟩ := hx
  refine ⟨μ1, ρ, h1, rs.mono e1, R1, s1.bd.imp (fun _ _ _ z => z) fun y H2 hx => ?_⟩
  obtain ⟨μ2, w2, h2, e2, R2, r2, s2⟩ := hx
  obtain ⟨w, h', q1, q2⟩ := s2.up
  exact ⟨μ2, w1, w2, h2, w, h', RW.mono e2 _ _ r1, r2, R2, q1, q2⟩
theorem e_bin {op : BOp} (o : Ok G N sc own X C U) (ha : PE X a (TeM G C U ma)) (hb : PE X b (TeM G C U mb)) : PE X (.BinOp a (opB_ op) b pos) (TeM G C U (.bin op ma mb)) := by
  have k : OpR X (binaryOp (opB_ op)) (rM2 G (binW op)) := by
    cases op
    · exact opM_add o.sur
    · exact opM_sub o.sur
    · exact opM_mul o.sur
    · exact opM_fdv o.sur
    · exact opM_mod o.sur
    · exact opM_pow o.sur
  exact peI (pe_op k ha hb) fun σ H Q h => two_ops (fun ρ hh => by simp only [ev]) h
theorem e_neg (ha : PE X a (TeM G C U ma)) : PE X (.UnaryOp .USub a pos) (TeM G C U (.neg ma)) :=
  peI (pe_un un_neg ha) fun σ H Q ⟨μ, ρ, hh, rs, R, s⟩ => by
    simp only [ev] at s
    refine ⟨μ, ρ, hh, rs, R, s.bd.imp (fun _ _ _ z => z) fun x H1 hx => ?_⟩
    obtain ⟨μ1, w1, h1, e1, R1, r1, s1⟩ := hx
    split at s1
    · cases rw_int r1
      exact ⟨_, rfl, s1.rt R1 (by simp only [RW])⟩
    · exact s1.none.elim
theorem opM_cmp (o : Ok G N sc own X C U) (op : COp) : OpR X (compareOp (cop op)) (rM2 G (fB (cmpW C op))) := by
  have un := o.sur.un
  cases op
  · exact opM_eq o.sur
  · exact opM_ne o.sur
  · exact opM_lt o.sur
  · exact opM_le o.sur
  · exact opM_gt o.sur
  · exact opM_ge o.sur
  · exact opM_is o.sur
  · exact opM_isn o.sur
  · have q := inM o.sur o.cdt false .In op_in_seq op_in_sign (fun pins s σ H x y v u Q I rx ry h => by
        obtain ⟨d, r, rfl, g, q⟩ := h
        cases ry
        exact d_in (by omega) I g rx fun s' I' => ⟨.bl _, H, I', rfl, q⟩) (fun d es n K => op_in_kd K)
    intro pins s σ H x y v u Q I rx ry h
    refine q pins s σ H x y v u Q I rx ry ?_
    obtain ⟨μ, a, b, h, w, h', r1, r2, R, e, f⟩ := h
    refine ⟨μ, a, b, h, w, h', r1, r2, R, ?_, f⟩
    simp only [fB, cmpW, Option.map_map] at e ⊢
    exact e
  · have q := inM o.sur o.cdt true .NotIn op_notIn_seq op_notIn_sign (fun pins s σ H x y v u Q I rx ry h => by
        obtain ⟨d, r, rfl, g, q⟩ := h
        cases ry
        exact d_notIn (by omega) I g rx fun s' I' => ⟨.bl _, H, I', rfl, q⟩) (fun d es n K => op_notIn_kd K)
    intro pins s σ H x y v u Q I rx ry h
    refine q pins s σ H x y v u Q I rx ry ?_
    obtain ⟨μ, a, b, h, w, h', r1, r2, R, e, f⟩ := h
    refine ⟨μ, a, b, h, w, h', r1, r2, R, ?_, f⟩
    simp only [fB, cmpW, Option.map_map] at e ⊢
    exact e
theorem e_cmp {op : COp} (o : Ok G N sc own X C U) (hs : notSet b = true) (ha : PE X a (TeM G C U ma)) (hb : PE X b (TeM G C U mb)) : PE X (.Compare a [cop op] [b] pos) (TeM G C U (.cmp op ma mb)) :=
  peI (pe_cmpR (opM_cmp o op) ha hb (behind_ne hs)) fun σ H Q h => two_ops (fun ρ hh => by simp only [ev]; rfl) h
theorem t_cmp {op : COp} (o : Ok G N sc own X C U) (hs : notSet b = true) (ha : PE X a (TeM G C U ma)) (hb : PE X b (TeM G C U mb)) : PT X (.Compare a [cop op] [b] pos) (TtM G C U (.cmp op ma mb)) :=
  ptI (pt_cmpR (opM_cmp o op) ha hb (behind_ne hs)) fun σ H Q ⟨μ, ρ, hh, rs, R, s⟩ => by
    simp only [tst] at s
    refine ⟨μ, ρ, hh, rs, R, s.bd.imp (fun _ _ _ z => z) fun x H1 hx => ?_⟩
    obtain ⟨μ1, w1, h1, e1, R1, r1, s1⟩ := hx
    refine ⟨μ1, ρ, h1, rs.mono e1, R1, s1.bd.imp (fun _ _ _ z => z) fun y H2 hx => ?_⟩
    obtain ⟨μ2, w2, h2, e2, R2, r2, s2⟩ := hx
    obtain ⟨k, h', q1, q2⟩ := s2.up
    simp only [Option.map_eq_some_iff] at q1
    obtain ⟨k', q1, q3⟩ := q1
    cases q3
    refine ⟨μ2, w1, w2, h2, .bl k, h2, RW.mono e2 _ _ r1, r2, R2, by simp [fB, q1], fun μ' H' v ex R' r' => ⟨k, rw_bl r', q2 μ' H' k ex R' rfl⟩⟩
theorem chain_of {op op' : COp} {σ : L2.St} {H : Hp} {Q : VK} (h : TeM G C U (.chn op op' ma mb mc) σ H Q) : tChain (rM2 G (fB (cmpW C op))) (rM2 G (fB (cmpW C op'))) (TeM G C U ma) (TeM G C U mb) (TeM G C U mc) σ H Q := by
  obtain ⟨μ, ρ, hh, rs, R, s⟩ := h
  simp only [ev] at s
  refine ⟨μ, ρ, hh, rs, R, s.bd.imp (fun _ _ _ z => z) fun x H1 hx => ?_⟩
  obtain ⟨μ1, w1, h1, e1, R1, r1, s1⟩ := hx
  refine ⟨μ1, ρ, h1, rs.mono e1, R1, s1.bd.imp (fun _ _ _ z => z) fun y H2 hx => ?_⟩
  obtain ⟨μ2, w2, h2, e2, R2, r2, s2⟩ := hx
  split at s2
  · rename_i hk
    refine ⟨μ2, w1, w2, h2, .bl true, h2, RW.mono e2 _ _ r1, r2, R2, by simp [fB, hk], fun μ' H' v ex R' r' => ⟨true, rw_bl r', iteT ?_⟩⟩
    refine ⟨μ', ρ, h2, ((rs.mono e1).mono e2).mono ex, R', (s2.ext ex).bd.imp (fun _ _ _ z => z) fun z H3 hx => ?_⟩
    obtain ⟨μ3, w3, h3, e3, R3, r3, s3⟩ := hx
    obtain ⟨w, h', q1, q2⟩ := s3.up
    exact ⟨μ3, w2, w3, h3, w, h', RW.mono (ex.trans e3) _ _ r2, r3, R3, q1, q2⟩
  · rename_i hk
    refine ⟨μ2, w1, w2, h2, .bl false, h2, RW.mono e2 _ _ r1, r2, R2, by simp [fB, hk], fun μ' H' v ex R' r' => ⟨false, rw_bl r', iteF ?_⟩⟩
    exact (s2.ext ex).rt R' (by simp only [RW])
  · exact s2.none.elim
theorem last_ne {op op' : CmpOp} (h1 : notSet b = true) (h2 : notSet c = true) : lastMarks [op, op'] [b, c] = false := behind_ne h2
theorem e_chn {op op' : COp} (o : Ok G N sc own X C U) (hs : notSet b = true) (hs2 : notSet c = true) (ha : PE X a (TeM G C U ma)) (hb : PE X b (TeM G C U mb)) (hc : PE X c (TeM G C U mc)) : PE X (.Compare a [cop op, cop op'] [b, c] pos) (TeM G C U (.chn op op' ma mb mc)) :=
  peI (pe_chain (opM_cmp o op) (opM_cmp o op') ha hb hc (last_ne hs hs2)) fun σ H Q h => chain_of h
theorem t_chn {op op' : COp} (o : Ok G N sc own X C U) (hs : notSet b = true) (hs2 : notSet c = true) (ha : PE X a (TeM G C U ma)) (hb : PE X b (TeM G C U mb)) (hc : PE X c (TeM G C U mc)) : PT X (.Compare a [cop op, cop op'] [b, c] pos) (TtM G C U (.chn op op' ma mb mc)) :=
  ptI (pt_chain (opM_cmp o op) (opM_cmp o op') ha hb hc (last_ne hs hs2)) fun σ H Q ⟨μ, ρ, hh, rs, R, s⟩ => chain_of (by
    refine ⟨μ, ρ, hh, rs, R, ?_⟩
    have key : ev C (.chn op op' ma mb mc) ρ hh = bd (tst C (.chn op op' ma mb mc) ρ hh) fun k h => rt (.bl k) h := by
      simp only [ev, tst]
      cases ev C ma ρ hh with
      | none => rfl
      | some z =>
        cases z with
        | ex _ _ _ => rfl
        | ok x h1 =>
          simp only [bd_ok]
          cases ev C mb ρ h1 with
          | none => rfl
          | some z =>
            cases z with
            | ex _ _ _ => rfl
            | ok y h2 =>
              simp only [bd_ok]
              cases cmpW C op x y h2 with
              | none => rfl
              | some k =>
                cases k with
                | false => rfl
                | true =>
                  simp only
                  cases ev C mc ρ h2 with
                  | none => rfl
                  | some z =>
                    cases z with
                    | ex _ _ _ => rfl
                    | ok w h3 =>
                      simp only [bd_ok]
                      cases cmpW C op' y w h3 <;> rfl
    rw [key]
    obtain ⟨r, q1, q2⟩ := s
    rw [q1]
    cases r with
    | ok k h1 =>
      refine ⟨_, rfl, fun μ' H' v ex R' r' => ⟨k, rw_bl r', q2 μ' H' k ex R' rfl⟩⟩
    | ex _ _ _ => exact ⟨_, rfl, q2⟩)
end
end Mi
set_option Elab.async false
set_option linter.all false
set_option maxRecDepth 100000
set_option maxHeartbeats 2000000
namespace Mi
open PySem PySem.Spec PyProof.Rows L2
section
variable {G : Gx} {N : List Str} {sc : Scope} {own : Str → Bool} {X : Cx} {C : Cfg} {U : WX} {a b c e : PySem.Expr} {ma mb mc m : ME} {es rest : List PySem.Expr} {ms : MEs} {pos : Pos}
theorem e_and (ha : PE X a (TeM G C U ma)) (hb : PE X (.BoolOp .And (b :: rest) pos) (TeM G C U mb)) : PE X (.BoolOp .And (a :: b :: rest) pos) (TeM G C U (.and ma mb)) :=
  peI (pe_and ha hb) fun σ H Q ⟨μ, ρ, hh, rs, R, s⟩ => by
    simp only [ev] at s
    refine ⟨μ, ρ, hh, rs, R, s.bd.imp (fun _ _ _ z => z) fun x H1 hx => ?_⟩
    obtain ⟨μ1, w1, h1, e1, R1, r1, s1⟩ := hx
    split at s1
    · cases rw_bl r1
      exact ⟨true, rfl, iteT ⟨μ1, ρ, h1, rs.mono e1, R1, s1⟩⟩
    · cases rw_bl r1
      exact ⟨false, rfl, iteF (s1.rt R1 (by simp only [RW]))⟩
    · exact s1.none.elim
theorem e_or (ha : PE X a (TeM G C U ma)) (hb : PE X (.BoolOp .Or (b :: rest) pos) (TeM G C U mb)) : PE X (.BoolOp .Or (a :: b :: rest) pos) (TeM G C U (.or ma mb)) :=
  peI (pe_or ha hb) fun σ H Q ⟨μ, ρ, hh, rs, R, s⟩ => by
    simp only [ev] at s
    refine ⟨μ, ρ, hh, rs, R, s.bd.imp (fun _ _ _ z => z) fun x H1 hx => ?_⟩
    obtain ⟨μ1, w1, h1, e1, R1, r1, s1⟩ := hx
    split at s1
    · cases rw_bl r1
      exact ⟨false, rfl, iteF ⟨μ1, ρ, h1, rs.mono e1, R1, s1⟩⟩
    · cases rw_bl r1
      exact ⟨true, rfl, iteT (s1.rt R1 (by simp only [RW]))⟩
    · exact s1.none.elim
theorem w_and (ha : PT X a (TtM G C U ma)) (hb : PW X (.BoolOp .And (b :: rest) pos) (TtM G C U mb)) : PW X (.BoolOp .And (a :: b :: rest) pos) (TtM G C U (.and ma mb)) :=
  pwI (pw_and ha hb) fun σ H Q ⟨μ, ρ, hh, rs, R, s⟩ => by
    simp only [tst] at s
    refine ⟨μ, ρ, hh, rs, R, s.bd.imp (fun _ _ _ z => z) fun x H1 hx => ?_⟩
    obtain ⟨μ1, k, h1, e1, R1, rfl, s1⟩ := hx
    cases k with
    | true => exact iteT ⟨μ1, ρ, h1, rs.mono e1, R1, by simpa using s1⟩
    | false =>
      refine iteF ?_
      have s1' : Sim G (fun c d H' => U c d σ H') μ1 H1 (fun _ _ (a b : Bool) => a = b) (rt false h1) Q := by simpa using s1
      exact s1'.rt R1 rfl
theorem w_or (ha : PT X a (TtM G C U ma)) (hb : PW X (.BoolOp .Or (b :: rest) pos) (TtM G C U mb)) : PW X (.BoolOp .Or (a :: b :: rest) pos) (TtM G C U (.or ma mb)) :=
  pwI (pw_or ha hb) fun σ H Q ⟨μ, ρ, hh, rs, R, s⟩ => by
    simp only [tst] at s
    refine ⟨μ, ρ, hh, rs, R, s.bd.imp (fun _ _ _ z => z) fun x H1 hx => ?_⟩
    obtain ⟨μ1, k, h1, e1, R1, rfl, s1⟩ := hx
    cases k with
    | false => exact iteF ⟨μ1, ρ, h1, rs.mono e1, R1, by simpa using s1⟩
    | true =>
      refine iteT ?_
      have s1' : Sim G (fun c d H' => U c d σ H') μ1 H1 (fun _ _ (a b : Bool) => a = b) (rt true h1) Q := by simpa using s1
      exact s1'.rt R1 rfl
theorem e_not (ha : PE X a (TeM G C U ma)) : PE X (.UnaryOp .Not a pos) (TeM G C U (.not ma)) :=
  peI (pe_not ha) fun σ H Q ⟨μ, ρ, hh, rs, R, s⟩ => by
    simp only [ev] at s
    refine ⟨μ, ρ, hh, rs, R, s.bd.imp (fun _ _ _ z => z) fun x H1 hx => ?_⟩
    obtain ⟨μ1, w1, h1, e1, R1, r1, s1⟩ := hx
    split at s1
    · cases rw_bl r1
      exact ⟨_, rfl, s1.rt R1 (by simp only [RW])⟩
    · exact s1.none.elim
theorem t_not (ha : PT X a (TtM G C U ma)) : PT X (.UnaryOp .Not a pos) (TtM G C U (.not ma)) :=
  ptI (pt_not ha) fun σ H Q ⟨μ, ρ, hh, rs, R, s⟩ => by
    simp only [tst] at s
    refine ⟨μ, ρ, hh, rs, R, s.bd.imp (fun _ _ _ z => z) fun x H1 hx => ?_⟩
    obtain ⟨μ1, k, h1, e1, R1, rfl, s1⟩ := hx
    exact s1.rt R1 rfl
theorem e_ite (hc : PT X c (TtM G C U mc)) (ha : PE X a (TeM G C U ma)) (hb : PE X b (TeM G C U mb)) : PE X (.IfExp c a b pos) (TeM G C U (.ite mc ma mb)) :=
  peI (pe_ifExp hc ha hb) fun σ H Q ⟨μ, ρ, hh, rs, R, s⟩ => by
    simp only [ev] at s
    refine ⟨μ, ρ, hh, rs, R, s.bd.imp (fun _ _ _ z => z) fun x H1 hx => ?_⟩
    obtain ⟨μ1, k, h1, e1, R1, rfl, s1⟩ := hx
    cases k with
    | true => exact iteT ⟨μ1, ρ, h1, rs.mono e1, R1, by simpa using s1⟩
    | false => exact iteF ⟨μ1, ρ, h1, rs.mono e1, R1, by simpa using s1⟩
theorem e_idx (o : Ok G N sc own X C U) (hs : notSlice b = true) (ha : PE X a (TeM G C U ma)) (hb : PE X b (TeM G C U mb)) : PE X (.Subscript a b pos) (TeM G C U (.idx ma mb)) :=
  peI (pe_ix (ixM o.sur o.cdt) ha hb (plain_ne hs)) fun σ H Q h => two_ops (fun ρ hh => by simp only [ev]; rfl) h
theorem o_no : PO X none (ToM G C U .no) := poI po_none fun σ H Q ⟨μ, ρ, hh, rs, R, s⟩ => by
  simp only [evo] at s
  exact s.rt R rfl
theorem o_so (ha : PE X a (TeM G C U ma)) : PO X (some a) (ToM G C U (.so ma)) := poI (po_some ha) fun σ H Q ⟨μ, ρ, hh, rs, R, s⟩ => by
  simp only [evo] at s
  refine ⟨μ, ρ, hh, rs, R, s.bd.imp (fun _ _ _ z => z) fun x H1 hx => ?_⟩
  obtain ⟨μ1, w1, h1, e1, R1, r1, s1⟩ := hx
  split at s1
  · cases rw_int r1
    exact ⟨_, rfl, s1.rt R1 rfl⟩
  · exact s1.none.elim
theorem e_slc {lo hi : Option PySem.Expr} {ml mh : MO} {p2 : Pos} (o : Ok G N sc own X C U) (ha : PE X a (TeM G C U ma)) (hl : PO X lo (ToM G C U ml)) (hi' : PO X hi (ToM G C U mh)) : PE X (.Subscript a (.Slice lo hi none p2) pos) (TeM G C U (.slc ma ml mh)) :=
  peI (pe_slice (slM o.sur) ha hl hi') fun σ H Q ⟨μ, ρ, hh, rs, R, s⟩ => by
    simp only [ev] at s
    refine ⟨μ, ρ, hh, rs, R, s.bd.imp (fun _ _ _ z => z) fun x H1 hx => ?_⟩
    obtain ⟨μ1, w1, h1, e1, R1, r1, s1⟩ := hx
    refine ⟨μ1, ρ, h1, rs.mono e1, R1, s1.bd.imp (fun _ _ _ z => z) fun l H2 hx => ?_⟩
    obtain ⟨μ2, l', h2, e2, R2, rfl, s2⟩ := hx
    refine ⟨μ2, ρ, h2, (rs.mono e1).mono e2, R2, s2.bd.imp (fun _ _ _ z => z) fun u H3 hx => ?_⟩
    obtain ⟨μ3, u', h3, e3, R3, rfl, s3⟩ := hx
    obtain ⟨w, h', q1, q2⟩ := s3.up
    exact ⟨μ3, w1, h3, w, h', RW.mono (e2.trans e3) _ _ r1, R3, q1, q2⟩
/-- arguments, then a rule by values -/
theorem arg_ops {f : List W → MH → Option (W × MH)} {m : ME} (hm : ∀ ρ h, ev C m ρ h = bd (evs C ms ρ h) fun ws h1 => up (f ws h1)) {σ : L2.St} {H : Hp} {Q : VK}
    (h : TeM G C U m σ H Q) : tCB (rMs G f) (TaM G C U ms) σ H Q := by
  obtain ⟨μ, ρ, hh, rs, R, s⟩ := h
  rw [hm] at s
  refine ⟨μ, ρ, hh, rs, R, s.bd.imp (fun _ _ _ z => z) fun x H1 hx => ?_⟩
  obtain ⟨μ1, w1, h1, e1, R1, r1, s1⟩ := hx
  obtain ⟨w, h', q1, q2⟩ := s1.up
  exact ⟨μ1, w1, h1, w, h', r1, R1, q1, q2⟩
theorem e_blt {x : Str} {bl : Blt} {p : Pos} {f : PySem.Expr → ME → Bool} (o : Ok G N sc own X C U) (hx : x = bltS bl) (hg : isGl sc x = true) (hl : ckL f (e :: es) ms = true) (ha : PA X (e :: es) (TaM G C U ms)) : PE X (.Call (.Name x p) (e :: es) [] pos) (TeM G C U (.blt bl ms)) := by
  subst hx
  have g := gl_ok o hg
  have hst : notStar e = true := by
    cases ms with
    | nil => simp [ckL] at hl
    | cons => simp only [ckL, Bool.and_eq_true] at hl; exact hl.1.1
  have h1 : starEach (e :: es) X.env = (false, eval e X.env) :: starEach es X.env := star_ne hst
  have h2 : (backTo pos (starEach es X.env)).any (·.1) = false := by
    cases ms with
    | nil => simp [ckL] at hl
    | cons => simp only [ckL, Bool.and_eq_true] at hl; exact star_any hl.2
  cases bl
  · exact peI (pe_callB (bl_len (C := C) o.sur) g (mb_call o (by decide +kernel)) (by decide +kernel) ha (he := h1) (hpl := h2)) fun σ H Q h => arg_ops (fun ρ hh => by simp only [ev]) h
  · exact peI (pe_callB (bl_max (C := C) o.sur o.calm) g (mb_call o (by decide +kernel)) (by decide +kernel) ha (he := h1) (hpl := h2)) fun σ H Q h => arg_ops (fun ρ hh => by simp only [ev]) h
  · exact peI (pe_callB (bl_min (C := C) o.sur o.calm) g (mb_call o (by decide +kernel)) (by decide +kernel) ha (he := h1) (hpl := h2)) fun σ H Q h => arg_ops (fun ρ hh => by simp only [ev]) h
  · exact peI (pe_callB (bl_repr (C := C) o.sur) g (mb_call o (by decide +kernel)) (by decide +kernel) ha (he := h1) (hpl := h2)) fun σ H Q h => arg_ops (fun ρ hh => by simp only [ev]) h
  · exact peI (pe_callB (bl_all (C := C) o.sur o.calm) g (mb_call o (by decide +kernel)) (by decide +kernel) ha (he := h1) (hpl := h2)) fun σ H Q h => arg_ops (fun ρ hh => by simp only [ev]) h
  · exact peI (pe_callB (bl_any (C := C) o.sur o.calm) g (mb_call o (by decide +kernel)) (by decide +kernel) ha (he := h1) (hpl := h2)) fun σ H Q h => arg_ops (fun ρ hh => by simp only [ev]) h
  · exact peI (pe_callB (bl_sum (C := C) o.sur o.calm) g (mb_call o (by decide +kernel)) (by decide +kernel) ha (he := h1) (hpl := h2)) fun σ H Q h => arg_ops (fun ρ hh => by simp only [ev]) h
  · exact peI (pe_callTy (bl_int (C := C) o.sur) g (mb_call o (by decide +kernel)) (by decide +kernel) ha (he := h1) (hpl := h2)) fun σ H Q h => arg_ops (fun ρ hh => by simp only [ev]) h
  · exact peI (pe_callTy (bl_list (C := C) o.sur) g (mb_call o (by decide +kernel)) (by decide +kernel) ha (he := h1) (hpl := h2)) fun σ H Q h => arg_ops (fun ρ hh => by simp only [ev]) h
  · exact peI (pe_callTy (bl_tuple (C := C) o.sur) g (mb_call o (by decide +kernel)) (by decide +kernel) ha (he := h1) (hpl := h2)) fun σ H Q h => arg_ops (fun ρ hh => by simp only [ev]) h
  · exact peI (pe_callTy (bl_dict (C := C) o.sur o.calm) g (mb_call o (by decide +kernel)) (by decide +kernel) ha (he := h1) (hpl := h2)) fun σ H Q h => arg_ops (fun ρ hh => by simp only [ev]) h
theorem e_isi {x y : Str} {t : Ty} {p py : Pos} (o : Ok G N sc own X C U) (hx : x = "isinstance") (hg : isGl sc x = true) (hy : y = tyS t) (hgy : isGl sc y = true) (hst : notStar a = true) (ha : PE X a (TeM G C U ma)) :
    PE X (.Call (.Name x p) [a, .Name y py] [] pos) (TeM G C U (.isi ma t)) := by
  subst hx; subst hy
  have g := gl_ok o hg
  have gy := gl_ok o hgy
  have hty : PE X (.Name (tyS t) py) (tC (.ty (tyN t))) := by
    cases t <;> exact pe_bltn gy (mb_call o (by decide +kernel)) (by decide +kernel) rfl
  have hpa : PA X [a, .Name (tyS t) py] (tCons (TeM G C U ma) (tCons (tC (.ty (tyN t))) tNil)) := pa_cons ha (pa_cons hty pa_nil) (star_ne hst)
  refine peI (pe_callB (isiM o.sur t) g (mb_call o (by decide +kernel)) (by decide +kernel) hpa (he := star_ne hst)) fun σ H Q ⟨μ, ρ, hh, rs, R, s⟩ => ?_
  simp only [ev] at s
  refine ⟨μ, ρ, hh, rs, R, s.bd.imp (fun _ _ _ z => z) fun x H1 hx => ?_⟩
  obtain ⟨μ1, w1, h1, e1, R1, r1, s1⟩ := hx
  obtain ⟨k, h', q1, q2⟩ := s1.up
  simp only [Option.map_eq_some_iff] at q1
  obtain ⟨k', q1, q3⟩ := q1
  cases q3
  exact ⟨x, μ1, w1, h1, k', rfl, r1, R1, q1, q2 μ1 H1 _ Ext.refl R1 (by simp only [RW])⟩
theorem mth_ty {mt : Mth} {T : String} (S : Sur G X) (hT : T = (match mt with | .split => "str" | .join => "str" | _ => "list")) {H : Hp} {μ : List Addr} {h : MH} {w : Mi.W} {x : V} (R : RH G H μ h) (r : RW G H μ w x) (k : mthK mt w h = true) : tyV X.K T x H := by
  subst hT
  have lst : ∀ n, w = .ref n → (lstOf (.ref n) h).isSome = true → tyV X.K "list" x H := fun n hw hs => by
    subst hw
    obtain ⟨ys, hy⟩ := Option.isSome_iff_exists.mp hs
    obtain ⟨a, vs, rfl, g1, _⟩ := R.lstOf r hy
    exact .inl ⟨rfl, vs, S.k ▸ g1⟩
  cases mt <;> cases w <;> simp only [mthK, Bool.false_eq_true] at k
  case append.ref n => exact lst n rfl k
  case extend.ref n => exact lst n rfl k
  case insert.ref n => exact lst n rfl k
  case clear.ref n => exact lst n rfl k
  case split.str z => cases rw_str r; rfl
  case join.str z => cases rw_str r; rfl
theorem mth_ops {mt : Mth} {T : String} (S : Sur G X) (hT : T = (match mt with | .split => "str" | .join => "str" | _ => "list")) {σ : L2.St} {H : Hp} {Q : VK} (h : TeM G C U (.mth mt ma ms) σ H Q) :
    tBM X.K T (rMm G (mthW mt)) (TeM G C U ma) (TaM G C U ms) σ H Q := by
  obtain ⟨μ, ρ, hh, rs, R, s⟩ := h
  simp only [ev] at s
  refine ⟨μ, ρ, hh, rs, R, s.bd.imp (fun _ _ _ z => z) fun x H1 hx => ?_⟩
  obtain ⟨μ1, w1, h1, e1, R1, r1, s1⟩ := hx
  split at s1
  · rename_i hk
    refine ⟨mth_ty S hT R1 r1 hk, μ1, ρ, h1, rs.mono e1, R1, s1.bd.imp (fun _ _ _ z => z) fun xs H2 hx => ?_⟩
    obtain ⟨μ2, ws, h2, e2, R2, r2, s2⟩ := hx
    obtain ⟨w, h', q1, q2⟩ := s2.up
    exact ⟨μ2, w1, ws, h2, w, h', RW.mono e2 _ _ r1, r2, R2, q1, q2⟩
  · exact s1.none.elim
theorem mth_ops0 {mt : Mth} {T : String} (S : Sur G X) (hT : T = (match mt with | .split => "str" | .join => "str" | _ => "list")) {σ : L2.St} {H : Hp} {Q : VK} (h : TeM G C U (.mth mt ma .nil) σ H Q) :
    tBM0 X.K T (rMm G (mthW mt)) (TeM G C U ma) σ H Q := by
  obtain ⟨μ, ρ, hh, rs, R, s⟩ := h
  simp only [ev] at s
  refine ⟨μ, ρ, hh, rs, R, s.bd.imp (fun _ _ _ z => z) fun x H1 hx => ?_⟩
  obtain ⟨μ1, w1, h1, e1, R1, r1, s1⟩ := hx
  split at s1
  · rename_i hk
    simp only [evs, bd_rt] at s1
    obtain ⟨w, h', q1, q2⟩ := s1.up
    exact ⟨mth_ty S hT R1 r1 hk, μ1, w1, [], h1, w, h', r1, .nil, R1, q1, q2⟩
  · exact s1.none.elim
theorem e_mth {name : Str} {mt : Mth} {apos : Pos} {f : PySem.Expr → ME → Bool} (o : Ok G N sc own X C U) (hx : name = mthS mt) (h0 : notCall0 a = true) (hline : (apos.endLine == pos.line) = true) (hn : es.length < 20) (hl : ckL f es ms = true)
    (ho : PE X a (TeM G C U ma)) (ha : PA X es (TaM G C U ms)) : PE X (.Call (.Attribute a name apos) es [] pos) (TeM G C U (.mth mt ma ms)) := by
  subst hx
  cases es with
  | nil =>
    cases ms with
    | cons => simp [ckL] at hl
    | nil =>
      cases mt
      · exact peI (pe_bm0 PySem.F.plainAttrs_list PySem.F.slot_list_append PySem.F.type_list_append (mt_appendM o.sur) ho (attr_base h0) hline) fun σ H Q h => mth_ops0 o.sur rfl h
      · exact peI (pe_bm0 PySem.F.plainAttrs_list PySem.F.slot_list_extend PySem.F.type_list_extend (mt_extendM o.sur) ho (attr_base h0) hline) fun σ H Q h => mth_ops0 o.sur rfl h
      · exact peI (pe_bm0 PySem.F.plainAttrs_list PySem.F.slot_list_insert PySem.F.type_list_insert (mt_insertM o.sur) ho (attr_base h0) hline) fun σ H Q h => mth_ops0 o.sur rfl h
      · exact peI (pe_bm0 PySem.F.plainAttrs_list PySem.F.slot_list_clear PySem.F.type_list_clear (mt_clearM o.sur) ho (attr_base h0) hline) fun σ H Q h => mth_ops0 o.sur rfl h
      · exact peI (pe_bm0 PySem.F.plainAttrs_str PySem.F.slot_str_split PySem.F.type_str_split (mt_splitM o.sur) ho (attr_base h0) hline) fun σ H Q h => mth_ops0 o.sur rfl h
      · exact peI (pe_bm0 PySem.F.plainAttrs_str PySem.F.slot_str_join PySem.F.type_str_join (mt_joinM o.sur) ho (attr_base h0) hline) fun σ H Q h => mth_ops0 o.sur rfl h
  | cons e es =>
    have hst : notStar e = true := by
      cases ms with
      | nil => simp [ckL] at hl
      | cons => simp only [ckL, Bool.and_eq_true] at hl; exact hl.1.1
    have h1 : starEach (e :: es) X.env = (false, eval e X.env) :: starEach es X.env := star_ne hst
    have h2 : (backTo pos (starEach es X.env)).any (·.1) = false := by
      cases ms with
      | nil => simp [ckL] at hl
      | cons => simp only [ckL, Bool.and_eq_true] at hl; exact star_any hl.2
    have few : ((backTo pos (starEach (e :: es) X.env)).all (fun x => !x.1) && (backToKw pos (keywordEach [] X.env)).all (fun x => x.1.isSome) && decide ((e :: es).length + ([] : List Keyword).length + (if ([] : List Keyword).isEmpty then 0 else 1) < 30)) = true := by
      have q := star_all (pos := pos) (env := X.env) hl
      rw [q]
      have : (decide ((e :: es).length + ([] : List Keyword).length + (if ([] : List Keyword).isEmpty then 0 else 1) < 30)) = true := by
        apply decide_eq_true
        show (e :: es).length + 0 + 0 < 30
        omega
      rw [this]; rfl
    cases mt
    · exact peI (pe_bm PySem.F.plainAttrs_list PySem.F.slot_list_append PySem.F.type_list_append (mt_appendM o.sur) ho ha (attr_base h0) few hline h1 h2) fun σ H Q h => mth_ops o.sur rfl h
    · exact peI (pe_bm PySem.F.plainAttrs_list PySem.F.slot_list_extend PySem.F.type_list_extend (mt_extendM o.sur) ho ha (attr_base h0) few hline h1 h2) fun σ H Q h => mth_ops o.sur rfl h
    · exact peI (pe_bm PySem.F.plainAttrs_list PySem.F.slot_list_insert PySem.F.type_list_insert (mt_insertM o.sur) ho ha (attr_base h0) few hline h1 h2) fun σ H Q h => mth_ops o.sur rfl h
    · exact peI (pe_bm PySem.F.plainAttrs_list PySem.F.slot_list_clear PySem.F.type_list_clear (mt_clearM o.sur) ho ha (attr_base h0) few hline h1 h2) fun σ H Q h => mth_ops o.sur rfl h
    · exact peI (pe_bm PySem.F.plainAttrs_str PySem.F.slot_str_split PySem.F.type_str_split (mt_splitM o.sur) ho ha (attr_base h0) few hline h1 h2) fun σ H Q h => mth_ops o.sur rfl h
    · exact peI (pe_bm PySem.F.plainAttrs_str PySem.F.slot_str_join PySem.F.type_str_join (mt_joinM o.sur) ho ha (attr_base h0) few hline h1 h2) fun σ H Q h => mth_ops o.sur rfl h
/-! ### a def called -/
theorem call_ops {f : Nat} {np : Nat} {c : List W → MH → Mo W} {wds : List W} {dvs : List V} (hlen : ∀ ws h r, c ws h = some r → ws.length = np) (hc : ∀ ws h, C.call f ws h = c (ws ++ wds) h) (hd : ∀ H μ, RWs G H μ wds dvs) {σ : L2.St} {H : Hp} {Q : VK} (h : TeM G C U (.call f ms) σ H Q) : tCallG (SpI G c np) dvs U (TaM G C U ms) σ H Q := by
  obtain ⟨μ, ρ, hh, rs, R, s⟩ := h
  simp only [ev] at s
  split at s
  rotate_left
  · exact s.none.elim
  refine ⟨μ, ρ, hh, rs, R, s.bd.imp (fun _ _ _ z => z) fun vs H1 hx => ?_⟩
  obtain ⟨μ1, ws, h1, e1, R1, r1, s1⟩ := hx
  rw [hc] at s1
  have hl : (ws ++ wds).length = np := by
    obtain ⟨r, q, _⟩ := s1
    exact hlen _ _ _ q
  have r2 := r1.append (hd H1 μ1)
  exact ⟨by rw [← r2.length]; exact hl, μ1, _, h1, r2, R1, s1⟩
end
end Mi
set_option Elab.async false
set_option linter.all false
set_option maxRecDepth 100000
set_option maxHeartbeats 2000000
namespace Mi
open PySem PySem.Spec PyProof.Rows L2
section
variable {G : Gx} {N : List Str} {sc : Scope} {own : Str → Bool} {X : Cx} {C : Cfg} {U : WX} {a b c e : PySem.Expr} {ma mb mc m : ME} {es rest : List PySem.Expr} {ms : MEs} {pos : Pos}
theorem pe_callG0 {k : Nat} {f : Addr} {fd : FuncData} {ps : List Str} {sp : Sp} {x : Str} {p : Pos} {ds : List Value} {dvs : List V} (F : FnG X.prog X.w X.K X.mg X.base k f fd ps sp) (hr : RoomG k X.A) (hg : Gl X x) (hm : X.mg x = some (.ref f)) (hk : PySem.W.keepIn X.K (.ref f) = true)
    (hb : Binds X.K fd ps ds) (hd : Vals dvs ds) (tk : Takes X U) (hdb : (x == ("__debug__" : Str)) = false) : PE X (.Call (.Name x p) [] [] pos) (tCallG sp dvs U tNil) := by
  constructor
  intro pins s σ H Q I h
  apply wpAny_Call_Name_kw
  apply ld_glob I hg hm (hd := hdb)
  exact PySem.W.callWith_K0 I.kIn hk (F.call (us := []) hr hb hd tk I .nil h)
theorem e_call {f : Nat} {x : Str} {p : Pos} {g : PySem.Expr → ME → Bool} (o : Ok G N sc own X C U) (hx : G.gn f = x) (hg : isGl sc x = true) (hdb : (!dbg x) = true) (hl : ckL g es ms = true) (ha : PA X es (TaM G C U ms)) : PE X (.Call (.Name x p) es [] pos) (TeM G C U (.call f ms)) := by
  cases hh : C.has f with
  | false =>
    constructor
    intro pins s σ H Q I hq
    obtain ⟨μ, ρ, h0, rs, R, sm⟩ := hq
    simp only [ev, hh] at sm
    exact sm.none.elim
  | true =>
    obtain ⟨k, fa, fd, ps, ds, dvs, wds, c, h1, h2, F, hr, hb, hdv, hwd, hcc, hlen⟩ := o.call f hh
    rw [hx] at h1
    cases es with
    | nil =>
      cases ms with
      | cons => simp [ckL] at hl
      | nil =>
        refine peI (pe_callG0 F hr (gl_ok o hg) h1 h2 hb hdv o.tk (dbg_of hdb).1) fun σ H Q h => ?_
        obtain ⟨μ, ρ, h0, rs, R, s⟩ := h
        simp only [ev, hh, if_true, evs, bd_rt, hcc, List.nil_append] at s
        show SpI G c ps.length ([] ++ dvs) H Q _
        have hl : wds.length = ps.length := by
          obtain ⟨r, q, _⟩ := s
          exact hlen _ _ _ q
        rw [List.nil_append]
        exact ⟨by rw [← (hwd H μ).length]; exact hl, μ, wds, h0, hwd H μ, R, s⟩
    | cons e es =>
      have hst : notStar e = true := by
        cases ms with
        | nil => simp [ckL] at hl
        | cons => simp only [ckL, Bool.and_eq_true] at hl; exact hl.1.1
      have s1 : starEach (e :: es) X.env = (false, eval e X.env) :: starEach es X.env := star_ne hst
      have s2 : (backTo pos (starEach es X.env)).any (·.1) = false := by
        cases ms with
        | nil => simp [ckL] at hl
        | cons => simp only [ckL, Bool.and_eq_true] at hl; exact star_any hl.2
      exact peI (pe_callG F hr (gl_ok o hg) h1 h2 hb hdv o.tk ha (dbg_of hdb).1 s1 s2) fun σ H Q h => call_ops hlen hcc hwd h
/-- a test by the value's truth -/
theorem t_tru (o : Ok G N sc own X C U) (ha : PE X a (TeM G C U m)) (hm : ∀ ρ h, tst C m ρ h = bd (ev C m ρ h) fun z h3 => up ((truW z h3).map fun k => (k, h3)))
    (he : ∀ whole, isTrue a X.env whole = (do let v ← whole; standAt a.pos; holding [v] (truthy v))) : PT X a (TtM G C U m) := by
  constructor
  intro pins s σ H Q I h
  obtain ⟨μ, ρ, hh, rs, R, sm⟩ := h
  rw [hm] at sm
  refine isTrue_plain (thn (ha.run pins s σ H _ I ⟨μ, ρ, hh, rs, R, sm.bd⟩) fun v s1 hx => ?_) (he _)
  obtain ⟨x, H1, I1, r1, μ1, w1, h1, e1, R1, rw1, s1⟩ := hx
  obtain ⟨k, h', q1, q2⟩ := s1.up
  simp only [Option.map_eq_some_iff] at q1
  obtain ⟨k', q1, q3⟩ := q1
  cases q3
  exact truM o.sur pins _ σ H1 x v Q I1 r1 ⟨μ1, w1, h1, _, rw1, R1, q1, q2 μ1 H1 _ Ext.refl R1 rfl⟩
theorem rfs_get {H : Hp} {μ : List Addr} {f : Nat} {w : Mi.W} (inj : ∀ i j, G.fn i = G.fn j → i = j) : ∀ {fs : List (Nat × Mi.W)} {fv : List (Str × V)}, RFs G H μ fs fv → kvGet fs f = some w → ∃ v, fv.lookup (G.fn f) = some v ∧ RW G H μ w v
  | [], _, _, e => by simp [kvGet] at e
  | (k, x) :: fs, fv, r, e => by
    simp only [RFs] at r
    obtain ⟨v, t, rfl, r1, r2⟩ := r
    unfold kvGet at e
    by_cases hk : k = f
    · rw [if_pos hk] at e
      cases e
      subst hk
      exact ⟨v, by simp [List.lookup], r1⟩
    · rw [if_neg hk] at e
      obtain ⟨v', g1, g2⟩ := rfs_get inj r2 e
      refine ⟨v', ?_, g2⟩
      have : (G.fn f == G.fn k) = false := by
        simp
        intro z
        exact hk (inj _ _ z.symm)
      simp only [List.lookup, this]
      exact g1
theorem e_exf {i g : Nat} {x f : Str} {p : Pos} (o : Ok G N sc own X C U) (inj : ∀ i j, G.fn i = G.fn j → i = j) (hN : N[i]? = some x) (hf : G.fn g = f) (hv : isVis sc x = true) (hd : (!dbg x) = true) : PE X (.Attribute (.Name x p) f pos) (TeM G C U (.exf i g)) := by
  cases he : C.exn with
  | none =>
    constructor
    intro pins s σ H Q I hq
    obtain ⟨μ, ρ, h0, rs, R, sm⟩ := hq
    simp only [ev, he] at sm
    exact sm.none.elim
  | some jn =>
    obtain ⟨j, n⟩ := jn
    obtain ⟨_, xa, xd, oe, cl, pn', _, hxa, X0, hX0, hz, hfl, T, hno⟩ := o.exn j n he
    subst hX0
    subst hf
    have nm := pe_var (X := X0.suite xa ((xa, oe) :: pn')) (i := i) (pos := p) (by rw [o.hN]; exact hN) (vis_ok o hv) (dbg_of hd).1 (dbg_of hd).2
    refine peI (pe_xf T (hno g) hz hfl nm rfl) fun σ H Q h => ?_
    obtain ⟨μ, ρ, h0, rs, R, s⟩ := h
    obtain ⟨ya, yd, g1, g2, g3⟩ := rs.exn j n he
    rw [hxa] at g1; cases g1
    simp only [ev, he] at s
    split at s
    rotate_left
    · exact s.none.elim
    rename_i hij
    subst hij
    split at s
    · rename_i fs hn
      split at s
      · rename_i w hw
        obtain ⟨ho, k1, k2⟩ := R.get hn g3
        obtain ⟨fv, rfl, k3⟩ := k2
        obtain ⟨v, l1, l2⟩ := rfs_get inj k3 hw
        exact ⟨_, g2, rfl, rfl, xd, fv, v, rfl, k1, l1, s.rt R l2⟩
      · exact s.none.elim
    · exact s.none.elim
/-! ### dicts -/
theorem keys_rel {H : Hp} {μ : List Addr} {k : Mi.W} {v : V} {key : Key} (h : keyOf k = some key) (r : RW G H μ k v) : v = kV key := by
  cases k <;> simp [keyOf] at h
  · subst h; cases rw_int r; rfl
  · subst h; cases rw_str r; rfl
def RPs (G : Gx) (H : Hp) (μ : List Addr) : List (Mi.W × Mi.W) → List (V × V) → Prop
  | [], vs => vs = []
  | (k, x) :: r, vs => ∃ a b t, vs = (a, b) :: t ∧ RW G H μ k a ∧ RW G H μ x b ∧ RPs G H μ r t
theorem rps_keys {H : Hp} {μ : List Addr} : ∀ {ps : List (Mi.W × Mi.W)} {vs : List (V × V)} {kvs : List (Key × Mi.W)}, RPs G H μ ps vs → keysOf ps = some kvs → ∃ kv' : List (Key × V), vs = kv'.map (fun kv => (kV kv.1, kv.2)) ∧ RKs G H μ kvs kv' ∧ kv'.length = kvs.length
  | [], vs, kvs, r, e => by
    simp only [RPs] at r; subst r
    simp only [keysOf, Option.some.injEq] at e; subst e
    exact ⟨[], rfl, by simp only [RKs], rfl⟩
  | (k, x) :: ps, vs, kvs, r, e => by
    simp only [RPs] at r
    obtain ⟨a, b, t, rfl, r1, r2, r3⟩ := r
    simp only [keysOf] at e
    split at e
    · rename_i key kr hk hr
      cases e
      obtain ⟨kv', rfl, q1, q2⟩ := rps_keys r3 hr
      rw [keys_rel hk r1]
      exact ⟨(key, b) :: kv', rfl, by simp only [RKs]; exact ⟨b, kv', rfl, r2, q1⟩, by simp [q2]⟩
    · cases e
def pairTs (G : Gx) (C : Cfg) (U : WX) : MPs → List (TE × TE)
  | .nil => []
  | .cons k v r => (TeM G C U k, TeM G C U v) :: pairTs G C U r
theorem pairs_sim {ps : MPs} : ∀ {σ : L2.St} {H : Hp} {Q : List (V × V) → Hp → Prop} {μ : List Addr} {ρ : Lo} {h : MH}, RS G C H μ ρ σ → RH G H μ h → Sim G (fun c d H' => U c d σ H') μ H (RPs G) (evp C ps ρ h) Q → tPairs (pairTs G C U ps) σ H Q := by
  cases ps with
  | nil => intro σ H Q μ ρ h rs R s; simp only [evp] at s; exact s.rt R (by simp only [RPs])
  | cons k v r =>
    intro σ H Q μ ρ h rs R s
    simp only [evp] at s
    refine ⟨μ, ρ, h, rs, R, s.bd.imp (fun _ _ _ z => z) fun x H1 hx => ?_⟩
    obtain ⟨μ1, w1, h1, e1, R1, r1, s1⟩ := hx
    refine ⟨μ1, ρ, h1, rs.mono e1, R1, s1.bd.imp (fun _ _ _ z => z) fun y H2 hx => ?_⟩
    obtain ⟨μ2, w2, h2, e2, R2, r2, s2⟩ := hx
    refine pairs_sim ((rs.mono e1).mono e2) R2 (s2.bd.imp (fun _ _ _ z => z) fun xs H3 hx => ?_)
    obtain ⟨μ3, w3, h3, e3, R3, r3, s3⟩ := hx
    exact s3.rt R3 (by simp only [RPs]; exact ⟨x, y, xs, rfl, RW.mono (e2.trans e3) _ _ r1, RW.mono e3 _ _ r2, r3⟩)
theorem e_dct {ks : List (Option PySem.Expr)} {vs : List PySem.Expr} {ps : MPs} {f : PySem.Expr → ME → Bool} (h15 : ks.length ≤ 15) (hlen : ks.length = vs.length) (hck : ckP f ks vs ps = true) (hpp : PPs X pos ks vs (pairTs G C U ps)) : PE X (.Dict ks vs pos) (TeM G C U (.dct ps)) := by
  cases ps with
  | nil =>
    have hk : ks = [] ∧ vs = [] := by
      cases ks with
      | nil => cases vs with
        | nil => exact ⟨rfl, rfl⟩
        | cons => simp at hlen
      | cons k ks => cases k <;> cases vs <;> simp [ckP] at hck
    obtain ⟨rfl, rfl⟩ := hk
    refine peI pe_dnewK fun σ H Q h => ?_
    obtain ⟨μ, ρ, h0, rs, R, s⟩ := h
    simp only [ev] at s
    intro p hp
    have R' := R.new (o := .dct []) (ho := .dK []) hp ⟨[], rfl, by simp only [RKs]⟩
    exact (s.ext (Ext.newO hp)).rt R' (by simp only [RW]; exact ⟨p, rfl, by rw [← R.len]; simp⟩)
  | cons k v r =>
    have hall : ∀ {ks : List (Option PySem.Expr)} {vs : List PySem.Expr} {ps : MPs}, ckP f ks vs ps = true → ks.all (·.isSome) = true := by
      intro ks
      induction ks with
      | nil => intros; rfl
      | cons k ks ih =>
        intro vs ps hc
        cases k with
        | none => cases vs <;> cases ps <;> simp [ckP] at hc
        | some k =>
          cases vs with
          | nil => cases ps <;> simp [ckP] at hc
          | cons v vs =>
            cases ps with
            | nil => simp [ckP] at hc
            | cons =>
              simp only [ckP, Bool.and_eq_true] at hc
              simp [ih hc.2]
    have hne : ks ≠ [] := by
      rintro rfl
      cases vs <;> simp [ckP] at hck
    refine peI (pe_disp hpp (hall hck) hlen hne h15) fun σ H Q h => ?_
    obtain ⟨μ, ρ, h0, rs, R, s⟩ := h
    simp only [ev] at s
    intro p hp
    have R' := R.new (o := .dct []) (ho := .dK []) hp ⟨[], rfl, by simp only [RKs]⟩
    have ex : Ext G H μ (L2.upd H p (.dK [])) (μ ++ [p]) := Ext.newO hp
    refine pairs_sim (rs.mono ex) R' ((s.ext ex).bd.imp (fun _ _ _ z => z) fun xs H1 hx => ?_)
    obtain ⟨μ1, w1, h1, e1, R1, r1, s1⟩ := hx
    split at s1
    · rename_i kvs hk hks
      split at s1
      · rename_i hz
        obtain ⟨kv', rfl, q1, q2⟩ := rps_keys r1 hks
        have hp1 : μ1[h0.length]? = some p := e1.get (by rw [← R.len]; simp)
        obtain ⟨vs', g1, g2⟩ := R1.dct hk hp1
        simp only [RKs] at g2
        subst g2
        refine ⟨g1, kv', rfl, by omega, ?_⟩
        obtain ⟨R2, ex2⟩ := R1.set (o' := .dct (mergeW [] kvs)) (ho' := .dK (mergeK [] kv')) hk hp1 ⟨_, rfl, merge_ok q1 (by simp only [RKs])⟩
        exact (s1.ext ex2).rt R2 (by simp only [RW]; exact ⟨p, rfl, hp1⟩)
      · exact s1.none.elim
    · exact s1.none.elim
theorem kW_rel {H : Hp} {μ : List Addr} (k : Key) : RW G H μ (kW k) (kV k) := by cases k <;> simp only [kW, kV, RW]
theorem e_itl {x name : Str} {p apos cpos : Pos} (o : Ok G N sc own X C U) (hx : x = "list") (hg : isGl sc x = true) (hn : name = "items") (h0 : notCall0 a = true) (hline : (apos.endLine == cpos.line) = true) (ha : PE X a (TeM G C U ma)) :
    PE X (.Call (.Name x p) [.Call (.Attribute a name apos) [] [] cpos] [] pos) (TeM G C U (.itl ma)) := by
  subst hx; subst hn
  cases hc : C.calm with
  | false =>
    constructor
    intro pins s σ H Q I hq
    obtain ⟨μ, ρ, h0, rs, R, sm⟩ := hq
    simp only [ev, hc] at sm
    exact sm.none.elim
  | true =>
    refine peI (LiI.pe_listItems (o.calm hc) ha (gl_ok o hg) (mb_call o (by decide +kernel)) (by decide +kernel) (attr_base h0) hline) fun σ H Q h => ?_
    obtain ⟨μ, ρ, hh, rs, R, s⟩ := h
    simp only [ev, hc, if_true] at s
    refine ⟨μ, ρ, hh, rs, R, s.bd.imp (fun _ _ _ z => z) fun x H1 hx => ?_⟩
    obtain ⟨μ1, w1, h1, e1, R1, r1, s1⟩ := hx
    split at s1
    · rename_i n
      split at s1
      · rename_i kvs hk
        obtain ⟨d, rfl, t1⟩ := rw_ref r1
        obtain ⟨vs, g1, g2⟩ := R1.dct hk t1
        refine ⟨d, vs, rfl, g1, fun H' p ts keep hp ht hpt hl htp => ?_⟩
        have tupk : ∀ a xs, SqT G.K H1 a xs → SqT G.K H' a xs := fun a xs q => by
          rcases q with (q | ⟨ob, q⟩) | q
          · exact .inl (.inl (keep _ _ q))
          · exact .inl (.inr ⟨ob, keep _ _ q⟩)
          · exact .inr q
        have ex0 : Ext G H1 μ1 H' μ1 := ⟨⟨[], by simp⟩, tupk⟩
        have ex : Ext G H1 μ1 H' (μ1 ++ [p]) := ex0.trans (Ext.more _)
        have R0 : RH G H' μ1 h1 := ⟨R1.len, R1.nd, fun m ob hm => let ⟨a, ho, k1, k2, k3⟩ := R1.at_ m ob hm; ⟨a, ho, k1, keep _ _ k2, k3.mono ex0⟩, R1.sy.imp fun ob e => keep _ _ e⟩
        have items : ∀ {kvs : List (Key × Mi.W)} {vs : List (Key × V)} {ts : List Addr}, RKs G H1 μ1 kvs vs → Paired (fun (t : Addr) (q : Key × V) => H' t = some (.tup [kV q.1, q.2])) ts vs → RWs G H' μ1 (kvs.map fun kv => .tup [kW kv.1, kv.2]) (ts.map V.ref) := by
          intro kvs
          induction kvs with
          | nil => intro vs ts r q; simp only [RKs] at r; subst r; cases q; exact .nil
          | cons kx kvs ih =>
            intro vs ts r q
            obtain ⟨k, x⟩ := kx
            simp only [RKs] at r
            obtain ⟨v, t, rfl, r1, r2⟩ := r
            cases q with
            | cons q1 q2 =>
              refine .cons ?_ (ih r2 q2)
              simp only [RW]
              exact ⟨_, _, rfl, SqT.of q1, .cons (kW_rel k) (.one (RW.mono ex0 _ _ r1))⟩
        have R' : RH G H' (μ1 ++ [p]) (h1 ++ [.lst (kvs.map fun kv => .tup [kW kv.1, kv.2])]) := by
          have hpn : p ∉ μ1 := R1.fresh hp
          refine ⟨by simp [R1.len], List.nodup_append.mpr ⟨R1.nd, by simp, fun a ha b hb => by have : b = p := by simpa using hb
                                                                                               subst this; rintro rfl; exact hpn ha⟩, fun m ob hm => ?_, R0.sy⟩
          by_cases hlt : m < h1.length
          · rw [List.getElem?_append_left hlt] at hm
            obtain ⟨a, ho, k1, k2, k3⟩ := R0.at_ m ob hm
            exact ⟨a, ho, (Ext.more (G := G) (H := H') [p]).get k1, k2, k3.mono (Ext.more _)⟩
          · have hge : h1.length ≤ m := Nat.le_of_not_lt hlt
            rw [List.getElem?_append_right hge] at hm
            obtain ⟨hb, e⟩ := List.getElem?_eq_some_iff.mp hm
            have hm' : m = h1.length := by simp at hb; omega
            subst hm'
            simp at e
            subst e
            exact ⟨p, _, by rw [← R1.len]; simp, hl, ts.map V.ref, rfl, RWs.mono (Ext.more _) _ _ (items g2 htp)⟩
        exact (s1.ext ex).rt R' (by simp only [RW]; exact ⟨p, rfl, by rw [← R1.len]; simp⟩)
      · exact s1.none.elim
    · exact s1.none.elim
end
end Mi
set_option Elab.async false
set_option linter.all false
set_option maxRecDepth 100000
set_option maxHeartbeats 2000000
/-! Targets, what is walked, comprehensions; all expressions. -/
namespace Mi
open PySem PySem.Spec PyProof.Rows L2
/-! ### targets -/
def gNs : List Nat → TGs
  | [] => gNil
  | i :: is => gCons (gName i) (gNs is)
def stS (is : List Nat) (xs : List V) (σ : L2.St) : L2.St := (is.zip xs).foldl (fun r p => r.set p.1 (some p.2)) σ
theorem gns_do : ∀ {is : List Nat} {xs : List V} {σ : L2.St} {H : Hp} {Q : L2.St → Hp → Prop}, xs.length = is.length → Q (stS is xs σ) H → gNs is xs σ H Q
  | [], [], _, _, _, _, q => ⟨rfl, q⟩
  | [], _ :: _, _, _, _, h, _ => by simp at h
  | _ :: _, [], _, _, _, h, _ => by simp at h
  | i :: is, x :: xs, σ, H, Q, h, q => ⟨x, xs, rfl, gns_do (by simpa using h) q⟩
def TgM (K : PySem.W.Frag) : MG → TG
  | .nm i => gName i
  | .tp is => gTup K is.length (gNs is)
section
variable {G : Gx} {N : List Str} {sc : Scope} {own : Str → Bool} {X : Cx} {C : Cfg} {U : WX} {a b c e : PySem.Expr} {ma mb mc m : ME} {es rest : List PySem.Expr} {ms : MEs} {pos : Pos}
theorem ckN_pg {x : Str} {i : Nat} {p : Pos} (o : Ok G N sc own X C U) (h : ckN N sc own x i = true) : PG X (.Name x p) (gName i) := by
  simp only [ckN, Bool.and_eq_true, decide_eq_true_eq] at h
  exact pg_name (by rw [o.hN]; exact o.nd) (by rw [o.hN]; exact h.1.1) (by rw [o.hsc]; exact loc_of h.1.2) (o.own _ h.2)
theorem ckNs_pg (o : Ok G N sc own X C U) : ∀ {es : List PySem.Expr} {is : List Nat}, ckNs N sc own es is = true → PGs X es (gNs is) ∧ (assignEach es X.env).length = is.length ∧ (assignEach es X.env).findIdx? (·.1) = none
  | [], [], _ => ⟨pgs_nil, rfl, rfl⟩
  | [], _ :: _, h => by simp [ckNs] at h
  | e :: es, is, h => by
    cases e <;> cases is <;> simp only [ckNs, Bool.and_eq_true, Bool.false_eq_true] at h
    rename_i x p i is
    obtain ⟨h1, h2, h3⟩ := ckNs_pg o h.2
    refine ⟨pgs_cons (ckN_pg o h.1) h1, ?_, ?_⟩
    · show (assignEach es X.env).length + 1 = _
      rw [h2]; rfl
    · show List.findIdx? (·.1) ((false, assign (.Name x p) X.env) :: assignEach es X.env) = none
      rw [List.findIdx?_cons]
      simp [h3]
theorem ckG_pg {tg : PySem.Expr} {g : MG} (o : Ok G N sc own X C U) (hc : X.calm = true) (h : ckG N sc own tg g = true) : PG X tg (TgM G.K g) := by
  cases g with
  | nm i =>
    cases tg <;> simp only [ckG, Bool.false_eq_true] at h
    exact ckN_pg o h
  | tp is =>
    cases tg <;> simp only [ckG, Bool.false_eq_true] at h
    obtain ⟨h1, h2, h3⟩ := ckNs_pg o h
    have := pg_tup (X := X) (pos := (by assumption)) (k := (by assumption)) hc h1 h2 h3
    rw [o.sur.k] at this
    exact this
theorem rs_stS {H : Hp} {μ : List Addr} : ∀ {is : List Nat} {ws : List Mi.W} {xs : List V} {ρ : Lo} {σ : L2.St}, RS G C H μ ρ σ → RWs G H μ ws xs → (∀ i ∈ is, free C i = true) → RS G C H μ ((is.zip ws).foldl (fun r p => r.set p.1 (some p.2)) ρ) (stS is xs σ)
  | [], _, _, _, _, rs, _, _ => by simpa [stS] using rs
  | i :: is, [], xs, _, _, rs, r, _ => by
    simp only [RWs] at r; subst r
    simpa [stS] using rs
  | i :: is, w :: ws, xs, ρ, σ, rs, r, hf => by
    simp only [RWs] at r
    obtain ⟨v, t, rfl, r1, r2⟩ := r
    exact rs_stS (is := is) (ws := ws) (xs := t) (ρ := ρ.set i (some w)) (σ := σ.set i (some v)) (rs.set (hf i (by simp)) r1) r2 fun j hj => hf j (by simp [hj])
theorem wipe_set {σ : L2.St} {i : Nat} {x : Option V} : ∀ {vs : List Nat}, i ∈ vs → L2.wipe (σ.set i x) vs = L2.wipe σ vs := by
  intro vs
  have key : ∀ {vs : List Nat} (k : Nat) (σ' : L2.St), i ∈ vs → (L2.wipe (σ'.set i x) vs)[k]? = (L2.wipe σ' vs)[k]? := by
    intro vs
    induction vs with
    | nil => intro k σ' h; cases h
    | cons v vs ih =>
      intro k σ' h
      show ((L2.wipe (σ'.set i x) vs).set v none)[k]? = ((L2.wipe σ' vs).set v none)[k]?
      by_cases hk : v = k
      · subst hk
        rw [List.getElem?_set_self', List.getElem?_set_self']
        have hl : (L2.wipe (σ'.set i x) vs).length = (L2.wipe σ' vs).length := by rw [wipe_length, wipe_length, List.length_set]
        have e : ((L2.wipe (σ'.set i x) vs)[v]?).isSome = ((L2.wipe σ' vs)[v]?).isSome := by
          by_cases hv : v < (L2.wipe σ' vs).length
          · rw [List.getElem?_eq_getElem hv, List.getElem?_eq_getElem (by rw [hl]; exact hv)]; rfl
          · rw [List.getElem?_eq_none (Nat.le_of_not_lt hv), List.getElem?_eq_none (by rw [hl]; exact Nat.le_of_not_lt hv)]
        cases h1 : (L2.wipe (σ'.set i x) vs)[v]? <;> cases h2 : (L2.wipe σ' vs)[v]? <;> simp_all
      · rw [List.getElem?_set_ne hk, List.getElem?_set_ne hk]
        by_cases hi : i ∈ vs
        · exact ih k σ' hi
        · have hiv : i = v := by
            rcases List.mem_cons.mp h with z | z
            · exact z
            · exact absurd z hi
          subst hiv
          by_cases hkv : k ∈ vs
          · have aux : ∀ (τ : L2.St) (ws : List Nat), k ∈ ws → k < τ.length → (L2.wipe τ ws)[k]? = some none := by
              intro τ ws
              induction ws with
              | nil => intro z; cases z
              | cons w ws ih2 =>
                intro z hl
                show ((L2.wipe τ ws).set w none)[k]? = _
                by_cases hw : w = k
                · subst hw
                  rw [List.getElem?_set_self (by rw [wipe_length]; exact hl)]
                · rw [List.getElem?_set_ne hw]
                  rcases List.mem_cons.mp z with z | z
                  · exact absurd z.symm hw
                  · exact ih2 z hl
            by_cases hl : k < σ'.length
            · rw [aux _ _ hkv hl, aux _ _ hkv (by rw [List.length_set]; exact hl)]
            · rw [List.getElem?_eq_none (by rw [wipe_length, List.length_set]; exact Nat.le_of_not_lt hl), List.getElem?_eq_none (by rw [wipe_length]; exact Nat.le_of_not_lt hl)]
          · rw [wipe_out hkv, wipe_out hkv, List.getElem?_set_ne hk]
  intro h
  exact List.ext_getElem? fun k => key k σ h
theorem wipe_stS {vs : List Nat} : ∀ {is : List Nat} {xs : List V} {σ : L2.St}, (∀ i ∈ is, i ∈ vs) → L2.wipe (stS is xs σ) vs = L2.wipe σ vs
  | [], _, _, _ => by simp [stS]
  | _ :: _, [], _, _ => by simp [stS]
  | i :: is, x :: xs, σ, h => by
    show L2.wipe (stS is xs (σ.set i (some x))) vs = _
    rw [wipe_stS fun j hj => h j (by simp [hj]), wipe_set (h i (by simp))]
def mgN : MG → List Nat
  | .nm i => [i]
  | .tp is => is
/-- the targets are stored -/
theorem tg_do {g : MG} {w : Mi.W} {v : V} {μ : List Addr} {h : MH} {ρ ρ' : Lo} {σ : L2.St} {H : Hp} {Q : L2.St → Hp → Prop} (rs : RS G C H μ ρ σ) (r : RW G H μ w v) (e : tgW g w ρ h = some ρ') (hf : ∀ i ∈ mgN g, free C i = true)
    (q : ∀ σ', RS G C H μ ρ' σ' → (∀ vs, (∀ i ∈ mgN g, i ∈ vs) → L2.wipe σ' vs = L2.wipe σ vs) → Q σ' H) : TgM G.K g v σ H Q := by
  cases g with
  | nm i =>
    simp only [tgW, Option.some.injEq] at e
    subst e
    exact q _ (rs.set (hf i (by simp [mgN])) r) fun vs hv => wipe_set (hv i (by simp [mgN]))
  | tp is =>
    simp only [tgW] at e
    split at e
    · rename_i xs
      split at e
      · rename_i hl
        cases e
        obtain ⟨a, us, rfl, t1, r1⟩ := rw_tup r
        refine ⟨a, us, rfl, t1, by rw [← r1.length]; exact hl, gns_do (by rw [← r1.length]; exact hl) (q _ (rs_stS rs r1 hf) fun vs hv => wipe_stS hv)⟩
      · cases e
    · cases e
/-! ### what is walked -/
theorem one_arg (he : PE X e (TeM G C U m)) (hs : notStar e = true) : PA X [e] (tCons (TeM G C U m) tNil) := pa_cons he pa_nil (star_ne hs)
theorem i_pl {tg : PySem.Expr} (o : Ok G N sc own X C U) (he : PE X e (TeM G C U m)) : PI X tg e (TiM G C U (.pl m)) :=
  piI (pi_any he) fun σ H R ⟨μ, ρ, hh, rs, R0, s⟩ => by
    simp only [evi] at s
    refine ⟨μ, ρ, hh, rs, R0, s.bd.imp (fun _ _ _ z => z) fun v H1 hx => ?_⟩
    obtain ⟨μ1, w1, h1, e1, R1, r1, s1⟩ := hx
    obtain ⟨sc1, h2, q1, q2⟩ := s1.up
    simp only [Option.map_eq_some_iff] at q1
    obtain ⟨bs, q1, q3⟩ := q1
    cases q3
    obtain ⟨d, rfl, ok, ⟨ws, hw⟩, _⟩ := bs_ok R1 r1 q1
    obtain ⟨vs, dv, _⟩ := ok μ1 h1 H1 ws Ext.refl R1 hw
    rw [← o.sur.k] at dv
    cases d with
    | l a => exact .inl ⟨a, vs, rfl, dv, by rw [o.sur.k]; exact q2 μ1 H1 _ Ext.refl R1 (src_one_l ok)⟩
    | t a => exact .inr (.inl ⟨a, vs, rfl, dv, by rw [o.sur.k]; exact q2 μ1 H1 _ Ext.refl R1 (src_one_t ok)⟩)
    | s z => exact .inr (.inr ⟨z, rfl, q2 μ1 H1 _ Ext.refl R1 (src_one_s ok)⟩)
theorem i_rg1 {tg : PySem.Expr} {p : Pos} (o : Ok G N sc own X C U) (hg : isGl sc "range" = true) (hs : notStar e = true) (he : PE X e (TeM G C U m)) : PI X tg (.Call (.Name "range" p) [e] [] pos) (TiM G C U (.rg1 m)) :=
  piI (pi_range1 (gl_ok o hg) (mb_call o (by decide +kernel)) (one_arg he hs) (star_ne hs)) fun σ H R ⟨μ, ρ, hh, rs, R0, s⟩ => by
    simp only [evi] at s
    refine ⟨μ, ρ, hh, rs, R0, s.bd.imp (fun _ _ _ z => z) fun v H1 hx => ?_⟩
    obtain ⟨μ1, w1, h1, e1, R1, r1, s1⟩ := hx
    split at s1
    · rename_i j
      obtain ⟨sc1, h2, q1, q2⟩ := s1.up
      simp only [Option.map_eq_some_iff] at q1
      obtain ⟨sr, q1, q3⟩ := q1
      cases q3
      unfold rngW at q1
      split at q1
      · rename_i hz
        cases q1
        cases rw_int r1
        refine ⟨j, rfl, hz.2.2.1, hz.2.2.2, ?_⟩
        have := q2 μ1 H1 (Itr 0 (j - 0).toNat) Ext.refl R1 src_rng
        simpa using this
      · cases q1
    · exact s1.none.elim
theorem i_rg2 {tg : PySem.Expr} {p : Pos} (o : Ok G N sc own X C U) (hg : isGl sc "range" = true) (hs : notStar a = true) (hs2 : notStar b = true) (ha : PE X a (TeM G C U ma)) (hb : PE X b (TeM G C U mb)) : PI X tg (.Call (.Name "range" p) [a, b] [] pos) (TiM G C U (.rg2 ma mb)) :=
  piI (pi_range2 (gl_ok o hg) (mb_call o (by decide +kernel)) (pa_cons ha (one_arg hb hs2) (star_ne hs)) (by rw [star_ne hs, star_ne hs2]; rfl) (star_ne hs2)) fun σ H R ⟨μ, ρ, hh, rs, R0, s⟩ => by
    simp only [evi] at s
    refine ⟨μ, ρ, hh, rs, R0, s.bd.imp (fun _ _ _ z => z) fun v H1 hx => ?_⟩
    obtain ⟨μ1, w1, h1, e1, R1, r1, s1⟩ := hx
    refine ⟨μ1, ρ, h1, rs.mono e1, R1, s1.bd.imp (fun _ _ _ z => z) fun v2 H2 hx => ?_⟩
    obtain ⟨μ2, w2, h2, e2, R2, r2, s2⟩ := hx
    split at s2
    · rename_i i j
      obtain ⟨sc1, h3, q1, q2⟩ := s2.up
      simp only [Option.map_eq_some_iff] at q1
      obtain ⟨sr, q1, q3⟩ := q1
      cases q3
      unfold rngW at q1
      split at q1
      · rename_i hz
        cases q1
        cases rw_int r1; cases rw_int r2
        exact ⟨i, j, rfl, hz, q2 μ2 H2 _ Ext.refl R2 src_rng⟩
      · cases q1
    · exact s2.none.elim
theorem i_enm {elts : List PySem.Expr} {kk : Nat} {tpos p : Pos} (o : Ok G N sc own X C U) (hg : isGl sc "enumerate" = true) (hs : notStar e = true) (he : PE X e (TeM G C U m)) : PI X (.Tuple elts kk tpos) (.Call (.Name "enumerate" p) [e] [] pos) (TiM G C U (.enm m)) :=
  piI (pi_enum (gl_ok o hg) (mb_call o (by decide +kernel)) (one_arg he hs) (star_ne hs)) fun σ H R ⟨μ, ρ, hh, rs, R0, s⟩ => by
    simp only [evi] at s
    refine ⟨μ, ρ, hh, rs, R0, s.bd.imp (fun _ _ _ z => z) fun v H1 hx => ?_⟩
    obtain ⟨μ1, w1, h1, e1, R1, r1, s1⟩ := hx
    obtain ⟨sc1, h2, q1, q2⟩ := s1.up
    simp only [Option.map_eq_some_iff] at q1
    obtain ⟨bs, q1, q3⟩ := q1
    cases q3
    have q1' : srcOf w1 h1 = some bs := by
      cases w1 <;> simp [lsrcOf] at q1
      simpa [srcOf] using q1
    obtain ⟨d, rfl, ok, ⟨ws, hw⟩, hl⟩ := bs_ok R1 r1 q1'
    obtain ⟨a, rfl⟩ := hl q1
    obtain ⟨vs, dv, _⟩ := ok μ1 h1 H1 ws Ext.refl R1 hw
    rw [← o.sur.k] at dv
    exact ⟨a, vs, rfl, dv, by rw [o.sur.k]; exact q2 μ1 H1 _ Ext.refl R1 (src_enm ok)⟩
theorem i_zip {elts : List PySem.Expr} {kk : Nat} {tpos p : Pos} (o : Ok G N sc own X C U) (hg : isGl sc "zip" = true) (hs : notStar a = true) (hs2 : notStar b = true) (ha : PE X a (TeM G C U ma)) (hb : PE X b (TeM G C U mb)) : PI X (.Tuple elts kk tpos) (.Call (.Name "zip" p) [a, b] [] pos) (TiM G C U (.zip ma mb)) :=
  piI (pi_zipM (gl_ok o hg) (mb_call o (by decide +kernel)) (pa_cons ha (one_arg hb hs2) (star_ne hs)) (star_ne hs) (by rw [star_ne hs2]; rfl)) fun σ H R ⟨μ, ρ, hh, rs, R0, s⟩ => by
    simp only [evi] at s
    refine ⟨μ, ρ, hh, rs, R0, s.bd.imp (fun _ _ _ z => z) fun v H1 hx => ?_⟩
    obtain ⟨μ1, w1, h1, e1, R1, r1, s1⟩ := hx
    refine ⟨μ1, ρ, h1, rs.mono e1, R1, s1.bd.imp (fun _ _ _ z => z) fun v2 H2 hx => ?_⟩
    obtain ⟨μ2, w2, h2, e2, R2, r2, s2⟩ := hx
    obtain ⟨sc1, h3, q1, q2⟩ := s2.up
    simp only [Option.bind_eq_some_iff, Option.map_eq_some_iff] at q1
    obtain ⟨bs, q1, bs2, q3, q4⟩ := q1
    cases q4
    obtain ⟨d, rfl, ok, ⟨ws, hw⟩, _⟩ := bs_ok R2 (RW.mono e2 _ _ r1) q1
    obtain ⟨d2, rfl, ok2, ⟨ws2, hw2⟩, _⟩ := bs_ok R2 r2 q3
    obtain ⟨vs, dv, _⟩ := ok μ2 h2 H2 ws Ext.refl R2 hw
    obtain ⟨vs2, dv2, _⟩ := ok2 μ2 h2 H2 ws2 Ext.refl R2 hw2
    rw [← o.sur.k] at dv dv2
    exact ⟨d, d2, vs, vs2, rfl, dv, dv2, by rw [o.sur.k]; exact q2 μ2 H2 _ Ext.refl R2 (src_zip ok ok2)⟩
theorem i_any {f : PySem.Expr → ME → Bool} {tg : PySem.Expr} {mi : MI} (o : Ok G N sc own X C U) (hf : ∀ e m, f e m = true → PE X e (TeM G C U m)) (h : ckI f sc (isTup tg) e mi = true) : PI X tg e (TiM G C U mi) := by
  unfold ckI at h
  split at h
  · simp only [Bool.and_eq_true, decide_eq_true_eq] at h
    obtain ⟨⟨⟨rfl, h1⟩, h2⟩, h3⟩ := h
    exact i_rg1 o h1 h2 (hf _ _ h3)
  · simp only [Bool.and_eq_true, decide_eq_true_eq] at h
    obtain ⟨⟨⟨⟨⟨rfl, h1⟩, h2⟩, h3⟩, h4⟩, h5⟩ := h
    exact i_rg2 o h1 h2 h3 (hf _ _ h4) (hf _ _ h5)
  · simp only [Bool.and_eq_true, decide_eq_true_eq] at h
    obtain ⟨⟨⟨⟨h0, rfl⟩, h1⟩, h2⟩, h3⟩ := h
    cases tg <;> simp only [isTup, Bool.false_eq_true] at h0
    exact i_enm o h1 h2 (hf _ _ h3)
  · simp only [Bool.and_eq_true, decide_eq_true_eq] at h
    obtain ⟨⟨⟨⟨⟨⟨h0, rfl⟩, h1⟩, h2⟩, h3⟩, h4⟩, h5⟩ := h
    cases tg <;> simp only [isTup, Bool.false_eq_true] at h0
    exact i_zip o h1 h2 h3 (hf _ _ h4) (hf _ _ h5)
  · simp only [Bool.and_eq_true] at h
    exact i_pl o (hf _ _ h.2)
  · cases h
end
end Mi
set_option Elab.async false
set_option linter.all false
set_option maxRecDepth 100000
set_option maxHeartbeats 2000000
/-! Comprehensions; all expressions. -/
namespace Mi
open PySem PySem.Spec PyProof.Rows L2
theorem bd_assoc {α β γ : Type} (x : Mo α) (f : α → MH → Mo β) (g : β → MH → Mo γ) : bd (bd x f) g = bd x fun a h => bd (f a h) g := by
  cases x with
  | none => rfl
  | some r => cases r <;> rfl
abbrev U0 : WX := fun _ _ _ _ => False
section
variable {G : Gx} {Wx : WS} {μ : List Addr} {H : Hp} {α β α' β' : Type} {rel : Hp → List Addr → α → β → Prop} {rel' : Hp → List Addr → α' → β' → Prop}
theorem Sim.noexBd {x : Mo α} {f : α → MH → Mo α'} {Q' : β' → Hp → Prop} {W' : WS} (s : Sim G Wx μ H rel' (Mi.bd (noex x) f) Q') : Sim G W' μ H rel x (fun b H1 => ∃ μ1 a h1, Ext G H μ H1 μ1 ∧ RH G H1 μ1 h1 ∧ rel H1 μ1 a b ∧ Sim G Wx μ1 H1 rel' (f a h1) Q') := by
  obtain ⟨r, e1, p⟩ := s
  cases x with
  | none => cases e1
  | some y =>
    cases y with
    | ok a h1 => exact ⟨_, rfl, fun μ1 H1 b e R r1 => ⟨μ1, a, h1, e, R, r1, Sim.ext e ⟨r, e1, p⟩⟩⟩
    | ex c fs h1 => cases e1
end
theorem wipe_sub {vs : List Nat} {σ : L2.St} : ∀ {ws : List Nat}, (∀ i ∈ ws, i ∈ vs) → L2.wipe (L2.wipe σ ws) vs = L2.wipe σ vs
  | [], _ => rfl
  | w :: ws, h => by
    show L2.wipe ((L2.wipe σ ws).set w none) vs = _
    rw [wipe_set (h w (by simp)), wipe_sub fun i hi => h i (by simp [hi])]
section
variable {G : Gx} {N : List Str} {sc : Scope} {own : Str → Bool} {X : Cx} {C : Cfg} {U : WX} {a b c e : PySem.Expr} {ma mb mc m : ME} {es rest : List PySem.Expr} {ms : MEs} {pos : Pos}
theorem Ok.exn_none (o : Ok G N sc own X C U) (hc : C.calm = true) : C.exn = none := by
  cases h : C.exn with
  | none => rfl
  | some p =>
    obtain ⟨q, _⟩ := o.exn p.1 p.2 h
    rw [hc] at q; cases q
theorem Ok.blk (o : Ok G N sc own X C U) (hc : C.calm = true) {scope : Scope} {ownl : List (Str × Nat)} (ok : BlkOk X.N X.env.scope scope ownl) (s : Shared) (H : Hp) (A : Addr) (cl : List (Str × Addr)) (fp : List Addr) :
    Ok G N (relS scope sc) (ownB scope (relS scope sc)) (X.blk s H scope (compEnvC scope cl A X.env) fp) C U0 where
  sur := ⟨o.sur.k, o.sur.w, o.sur.mg, o.sur.un, o.sur.gd⟩
  hN := o.hN
  nd := o.nd
  hsc := by rw [← o.hsc]; rfl
  kd := ok.kind
  calm := o.calm
  tk := fun u s' ⟨a, B, sI, pins, σ, H, cls, d, _, _, _, _, _, _, _, _, z⟩ => z.elim
  own := fun x hx => by
    unfold ownB at hx
    simp only [Bool.or_eq_true] at hx
    rcases hx with hx | hx
    · left
      show (scope.names.lookup x == some .cell) = true
      split at hx
      · rename_i q; rw [q]; rfl
      · cases hx
    · right
      show (relS scope X.env.scope).names.lookup x = some .local
      rw [o.hsc]
      split at hx
      · assumption
      · cases hx
  cdt := o.cdt
  glb := o.glb
  blt := o.blt
  call := o.call
  exn := fun i n h => by rw [o.exn_none hc] at h; cases h
theorem ckNs_own : ∀ {es : List PySem.Expr} {is : List Nat}, ckNs N sc own es is = true → ((es.zip is).filterMap fun p => match p.1 with
    | .Name x _ => some (x, p.2)
    | _ => none).map (·.2) = is
  | [], [], _ => rfl
  | [], _ :: _, h => by simp [ckNs] at h
  | e :: es, is, h => by
    cases e <;> cases is <;> simp only [ckNs, Bool.and_eq_true, Bool.false_eq_true] at h
    simp [List.filterMap_cons, ckNs_own h.2]
theorem ckG_own {tg : PySem.Expr} {g : MG} (h : ckG N sc own tg g = true) : (ownOf N tg g).map (·.2) = mgN g := by
  cases g with
  | nm i =>
    cases tg <;> simp only [ckG, Bool.false_eq_true] at h
    rfl
  | tp is =>
    cases tg <;> simp only [ckG, Bool.false_eq_true] at h
    exact ckNs_own h
def cmpF (C : Cfg) (elt : ME) (tg : MG) (cnd : Option ME) (ρw : Lo) (w : Mi.W) (h2 : MH) : Mo (Option Mi.W) := match tgW tg w ρw h2 with
  | none => none
  | some ρ2 => match cnd with
    | none => bd (noex (ev C elt ρ2 h2)) fun y h3 => rt (some y) h3
    | some c => bd (noex (tst C c ρ2 h2)) fun k h3 => if k = true then bd (noex (ev C elt ρ2 h3)) fun y h4 => rt (some y) h4 else rt none h3
theorem ev_comp (C : Cfg) (elt : ME) (tg : MG) (it : MI) (cnd : Option ME) (vs : List Nat) (ρ : Lo) (h : MH) : ev C (.comp elt tg it cnd vs) ρ h = if C.calm then bd (evi C it ρ h) fun s h1 => bd (cmpLp (cmpF C elt tg cnd (wipeW ρ vs)) h1.length s (s.len h1 + 1) 0 (h1 ++ [.lst []])) fun _ h2 => rt (.ref h1.length) h2 else none := by
  have hF : cmpF C elt tg cnd (wipeW ρ vs) = fun w h2 => match tgW tg w (wipeW ρ vs) h2 with
      | none => none
      | some ρ2 => match cnd with
        | none => bd (noex (ev C elt ρ2 h2)) fun y h3 => rt (some y) h3
        | some c => bd (noex (tst C c ρ2 h2)) fun k h3 => if k = true then bd (noex (ev C elt ρ2 h3)) fun y h4 => rt (some y) h4 else rt none h3 := by
    funext w h2
    unfold cmpF
    cases tgW tg w (wipeW ρ vs) h2 with
    | none => rfl
    | some ρ2 => cases cnd <;> rfl
  rw [hF]
  cases cnd with
  | none =>
    simp only [ev]
    all_goals (split <;> first | (congr 1; done) | rfl)
  | some c =>
    simp only [ev]
    all_goals (split <;> first | (congr 1; done) | rfl)
def tCnd (G : Gx) (C : Cfg) : Option ME → TT
  | none => tYes
  | some c => TtM G C U0 c
theorem comp_tlc {em : ME} {gm : MG} {im : MI} {cm : Option ME} {vs : List Nat} (o : Ok G N sc own X C U) (hcalm : C.calm = true) (hsub : ∀ i ∈ mgN gm, i ∈ vs) {σ : L2.St} {H : Hp} {Q : VK} (h : TeM G C U (.comp em gm im cm vs) σ H Q) :
    tLc (TiM G C U im) (TgM G.K gm) (tCnd G C cm) (TeM G C U0 em) vs σ H Q := by
  have hfree : ∀ i, free C i = true := fun i => by unfold free; rw [o.exn_none hcalm]
  obtain ⟨μ, ρ, hh, rs, R, s⟩ := h
  rw [ev_comp, if_pos hcalm] at s
  generalize hF : cmpF C em gm cm (wipeW ρ vs) = F at s
  refine ⟨μ, ρ, hh, rs, R, s.bd.imp (fun _ _ _ z => z) fun J H1 hx => ?_⟩
  obtain ⟨μ1, sr, h1, e1, R1, so, s1⟩ := hx
  intro D hD
  have ex : Ext G H1 μ1 (L2.upd H1 D (.lst [])) (μ1 ++ [D]) := Ext.newO hD
  have R2 : RH G (L2.upd H1 D (.lst [])) (μ1 ++ [D]) (h1 ++ [.lst []]) := R1.new (o := .lst []) (ho := .lst []) hD ⟨[], rfl, .nil⟩
  have so2 := so.ext ex
  have rs2 := (rs.mono e1).mono ex
  have hDn : (μ1 ++ [D])[h1.length]? = some D := by rw [← R1.len]; simp
  have s2 := Sim.imp (W' := fun c d H' => U c d σ H') (Q2 := fun (_ : Unit) H' => Q (.ref D) H') ((s1.ext ex).bd (rel := fun _ _ (_ : Unit) (_ : Unit) => True)) (fun _ _ _ z => z) fun _ H' hx => by
    obtain ⟨μ', _, h', e', R', _, s'⟩ := hx
    exact s'.rt R' (by simp only [RW]; exact ⟨D, rfl, e'.get hDn⟩)
  generalize hH2 : L2.upd H1 D (.lst []) = H2 at *
  generalize hμ2 : μ1 ++ [D] = μ2 at *
  refine ⟨fun i m H' => ∃ μ' h', Ext G H2 μ2 H' μ' ∧ RH G H' μ' h' ∧ Sim G (fun c d H' => U c d σ H') μ' H' (fun _ _ (_ : Unit) (_ : Unit) => True) (cmpLp F h1.length sr m i h') (fun (_ : Unit) H' => Q (.ref D) H'), ⟨_, μ2, _, Ext.refl, R2, s2⟩, ?_⟩
  rintro i m H3 ⟨μ3, h3, e3, R3, s3⟩
  cases m with
  | zero => simp only [cmpLp] at s3; exact s3.none.elim
  | succ fu =>
    simp only [cmpLp] at s3
    split at s3
    · exact s3.none.elim
    · rename_i hit
      exact .inl ⟨(so2 μ3 h3 H3 i e3 R3).1 hit, s3.rt (b := ()) R3 trivial⟩
    · rename_i w hit
      obtain ⟨go, yl⟩ := (so2 μ3 h3 H3 i e3 R3).2 w hit
      refine .inr ⟨go, fun H' => ∃ μ' h', Ext G H2 μ2 H' μ' ∧ RH G H' μ' h' ∧ Sim G (fun c d H' => U c d σ H') μ' H' (fun _ _ (_ : Unit) (_ : Unit) => True) (cmpLp F h1.length sr fu (i + 1) h') (fun (_ : Unit) H' => Q (.ref D) H'), fun H' hN' => ⟨fu, Nat.lt_succ_self _, hN'⟩, fun x H4 y => ?_⟩
      obtain ⟨e4, R4, r4⟩ := yl x H4 y
      have s4 := s3.ext e4
      have rs4 := ((rs2.mono e3).mono e4).wipe vs (o.exn_none hcalm)
      have hFw : F w h3 = cmpF C em gm cm (wipeW ρ vs) w h3 := by rw [hF]
      rw [hFw] at s4
      simp only [cmpF] at s4
      split at s4
      · exact s4.none.elim
      · rename_i ρ2 hT
        refine tg_do rs4 r4 hT (fun i _ => hfree i) fun σ' rs5 hw => ⟨?_, ?_⟩
        · rw [hw vs hsub]
          exact wipe_sub fun i hi => hi
        -- the element
        have fin : ∀ {μ5 : List Addr} {H5 : Hp} {h5 : MH} {K : Mi.W → MH → Mo Unit}, Ext G H2 μ2 H5 μ5 → RH G H5 μ5 h5 → RS G C H5 μ5 ρ2 σ' → Sim G (fun c d H' => U c d σ H') μ5 H5 (fun _ _ (_ : Unit) (_ : Unit) => True) (bd (noex (ev C em ρ2 h5)) K) (fun (_ : Unit) H' => Q (.ref D) H') →
            (∀ y h, K y h = match h[h1.length]? with
              | some (.lst acc) => if acc.length < sizeLine then cmpLp F h1.length sr fu (i + 1) (h.set h1.length (.lst (acc ++ [y]))) else none
              | _ => none) → TeM G C U0 em σ' H5 fun y H6 => ∃ acc, H6 D = some (.lst acc) ∧ acc.length < sizeLine ∧ ∃ μ' h', Ext G H2 μ2 (L2.upd H6 D (.lst (acc ++ [y]))) μ' ∧ RH G (L2.upd H6 D (.lst (acc ++ [y]))) μ' h' ∧ Sim G (fun c d H' => U c d σ H') μ' (L2.upd H6 D (.lst (acc ++ [y]))) (fun _ _ (_ : Unit) (_ : Unit) => True) (cmpLp F h1.length sr fu (i + 1) h') (fun (_ : Unit) H' => Q (.ref D) H') := by
          intro μ5 H5 h5 K e5 R5 rs6 s5 hK
          refine ⟨μ5, ρ2, h5, rs6, R5, s5.noexBd.imp (fun _ _ _ z => z) fun y H6 hx => ?_⟩
          obtain ⟨μ6, w6, h6, e6, R6, r6, s6⟩ := hx
          rw [hK] at s6
          have hD6 : μ6[h1.length]? = some D := e6.get (e5.get hDn)
          split at s6
          · rename_i acc hacc
            split at s6
            · rename_i hz
              obtain ⟨vs6, g1, g2⟩ := R6.lst hacc hD6
              obtain ⟨R7, e7⟩ := R6.set (o' := .lst (acc ++ [w6])) (ho' := .lst (vs6 ++ [y])) hacc hD6 ⟨_, rfl, g2.append (.one r6)⟩
              exact ⟨vs6, g1, by rw [← g2.length]; exact hz, μ6, _, (e5.trans e6).trans e7, R7, s6.ext e7⟩
            · exact s6.none.elim
          · exact s6.none.elim
        cases cm with
        | none =>
          simp only [tCnd, tYes, if_true]
          rw [bd_assoc] at s4
          exact fin (e3.trans e4) R4 rs5 s4 fun y h => rfl
        | some c =>
          rw [bd_assoc] at s4
          refine ⟨μ3, ρ2, h3, rs5, R4, s4.noexBd.imp (fun _ _ _ z => z) fun k H5 hx => ?_⟩
          obtain ⟨μ5, k', h5, e5, R5, rfl, s5⟩ := hx
          cases k' with
          | true =>
            rw [if_pos rfl]
            rw [if_pos rfl, bd_assoc] at s5
            exact fin ((e3.trans e4).trans e5) R5 (rs5.mono e5) s5 fun y h => rfl
          | false =>
            rw [if_neg (by decide)]
            rw [if_neg (by decide)] at s5
            exact ⟨μ5, h5, (e3.trans e4).trans e5, R5, s5⟩
theorem e_comp {elt tg iter : PySem.Expr} {ifs : List PySem.Expr} {scope : Scope} {em : ME} {gm : MG} {im : MI} {cm : Option ME} {vs : List Nat} (o : Ok G N sc own X C U) (hvs : vs = (ownOf N tg gm).map (·.2)) (hb : blkC N sc scope (ownOf N tg gm) = true)
    (hg : ckG N (relS scope sc) (ownB scope (relS scope sc)) tg gm = true) (hi : PI X tg iter (TiM G C U im)) (hs : notSet iter = true)
    (he : ∀ X', Ok G N (relS scope sc) (ownB scope (relS scope sc)) X' C U0 → PE X' elt (TeM G C U0 em)) (ht : ∀ X', Ok G N (relS scope sc) (ownB scope (relS scope sc)) X' C U0 → PTs X' ifs (tCnd G C cm)) :
    PE X (.ListComp elt [⟨tg, iter, ifs, 0⟩] scope pos) (TeM G C U (.comp em gm im cm vs)) := by
  cases hcalm : C.calm with
  | false =>
    constructor
    intro pins s σ H Q I hq
    obtain ⟨μ, ρ, h0, rs, R, sm⟩ := hq
    rw [ev_comp, hcalm] at sm
    exact (Sim.none sm).elim
  | true =>
    have hX := o.calm hcalm
    have okB : BlkOk X.N X.env.scope scope (ownOf N tg gm) := by rw [o.hN, o.hsc]; exact blkOk_by hb
    have hNd : X.N.Nodup := by rw [o.hN]; exact o.nd
    refine peI (pe_lc (g := TgM G.K gm) (tt := tCnd G C cm) (te := TeM G C U0 em) hX hNd hi okB (fun s H A cl fp => ckG_pg (o.blk hcalm okB s H A cl fp) hX hg) (fun s H A cl fp => ht _ (o.blk hcalm okB s H A cl fp)) (fun s H A cl fp => he _ (o.blk hcalm okB s H A cl fp)) (folded_ne hs)) fun σ H Q h => ?_
    rw [← hvs]
    exact comp_tlc o hcalm (fun i hm => by rw [hvs, ckG_own hg]; exact hm) h
/-- a comprehension stored on one line with its name -/
theorem comp_set {elt tg iter : PySem.Expr} {ifs : List PySem.Expr} {scope : Scope} {em : ME} {gm : MG} {im : MI} {cm : Option ME} {vs : List Nat} {i : Nat} {y : Str} {py spos : Pos} (o : Ok G N sc own X C U) (hvs : vs = (ownOf N tg gm).map (·.2)) (hb : blkC N sc scope (ownOf N tg gm) = true)
    (hg : ckG N (relS scope sc) (ownB scope (relS scope sc)) tg gm = true) (hi : PI X tg iter (TiM G C U im)) (hs : notSet iter = true)
    (he : ∀ X', Ok G N (relS scope sc) (ownB scope (relS scope sc)) X' C U0 → PE X' elt (TeM G C U0 em)) (ht : ∀ X', Ok G N (relS scope sc) (ownB scope (relS scope sc)) X' C U0 → PTs X' ifs (tCnd G C cm))
    (hcalm : C.calm = true) (hy : N[i]? = some y) (hyl : sc.names.lookup y = some .local) (hl : (py.line == pos.line) = true) (ha : (scope.names.any fun (n, k) => n == y && (k == .local || k == .cell)) = false) :
    PS X (.Assign [.Name y py] (.ListComp elt [⟨tg, iter, ifs, 0⟩] scope pos) spos) (tAsg (TeM G C U (.comp em gm im cm vs)) (gName i)) := by
  have hX := o.calm hcalm
  have okB : BlkOk X.N X.env.scope scope (ownOf N tg gm) := by rw [o.hN, o.hsc]; exact blkOk_by hb
  have hNd : X.N.Nodup := by rw [o.hN]; exact o.nd
  have hyl' : X.env.scope.names.lookup y = some .local := by rw [o.hsc]; exact hyl
  have q := ps_setLc (g := TgM G.K gm) (tt := tCnd G C cm) (te := TeM G C U0 em) hX hNd (by rw [o.hN]; exact hy) hyl' (sw_true (l := spos.line) (by rw [o.hsc]; exact o.kd) hyl' hl ha) hi okB (fun s H A cl fp => ckG_pg (o.blk hcalm okB s H A cl fp) hX hg) (fun s H A cl fp => ht _ (o.blk hcalm okB s H A cl fp)) (fun s H A cl fp => he _ (o.blk hcalm okB s H A cl fp)) (folded_ne hs)
  refine ⟨fun pins s σ H D I h => q.run pins s σ H D I ?_⟩
  rw [← hvs]
  exact comp_tlc o hcalm (fun i hm => by rw [hvs, ckG_own hg]; exact hm) h
end
end Mi
set_option Elab.async false
set_option linter.all false
set_option maxRecDepth 100000
set_option maxHeartbeats 4000000
/-! All expressions. -/
namespace Mi
open PySem PySem.Spec PyProof.Rows L2
section
variable {G : Gx} {N : List Str} {sc : Scope} {own : Str → Bool} {X : Cx} {C : Cfg} {U : WX} {a b c e : PySem.Expr} {ma mb mc m : ME} {es rest : List PySem.Expr} {ms : MEs} {pos : Pos}
theorem ptN (h : ∀ ρ hh, tst C m ρ hh = none) : PT X e (TtM G C U m) := ⟨fun pins s σ H Q I ⟨μ, ρ, hh, rs, R, s1⟩ => by rw [h] at s1; exact s1.none.elim⟩
theorem ckI_ne {f : PySem.Expr → ME → Bool} {t : Bool} {mi : MI} (h : ckI f sc t e mi = true) : notSet e = true := by
  unfold ckI at h
  split at h
  · rfl
  · rfl
  · rfl
  · rfl
  · simp only [Bool.and_eq_true] at h; exact h.1
  · cases h
theorem l_ok {f : PySem.Expr → ME → Bool} (hf : ∀ e m, f e m = true → PE X e (TeM G C U m)) : ∀ {es : List PySem.Expr} {ms : MEs}, ckL f es ms = true → PA X es (TaM G C U ms)
  | [], .nil, _ => a_nil
  | [], .cons _ _, h => by simp [ckL] at h
  | _ :: _, .nil, h => by simp [ckL] at h
  | e :: es, .cons m ms, h => by
    simp only [ckL, Bool.and_eq_true] at h
    exact a_cons (hf _ _ h.1.2) (l_ok hf h.2) h.1.1
theorem p_ok {f : PySem.Expr → ME → Bool} (hf : ∀ e m, f e m = true → PE X e (TeM G C U m)) : ∀ {ks : List (Option PySem.Expr)} {vs : List PySem.Expr} {ps : MPs}, ckP f ks vs ps = true → PPs X pos ks vs (pairTs G C U ps)
  | [], [], .nil, _ => pps_nil
  | [], [], .cons _ _ _, h => by simp [ckP] at h
  | [], _ :: _, .nil, h => by simp [ckP] at h
  | [], _ :: _, .cons _ _ _, h => by simp [ckP] at h
  | none :: _, [], .nil, h => by simp [ckP] at h
  | none :: _, [], .cons _ _ _, h => by simp [ckP] at h
  | none :: _, _ :: _, .nil, h => by simp [ckP] at h
  | none :: _, _ :: _, .cons _ _ _, h => by simp [ckP] at h
  | some _ :: _, [], .nil, h => by simp [ckP] at h
  | some _ :: _, [], .cons _ _ _, h => by simp [ckP] at h
  | some _ :: _, _ :: _, .nil, h => by simp [ckP] at h
  | some k :: ks, v :: vs, .cons m n r, h => by
    simp only [ckP, Bool.and_eq_true] at h
    exact pps_cons (hf _ _ h.1.1) (hf _ _ h.1.2) (p_ok hf h.2)
theorem o_ok {f : PySem.Expr → ME → Bool} (hf : ∀ e m, f e m = true → PE X e (TeM G C U m)) : ∀ {x : Option PySem.Expr} {m : MO}, ckO f x m = true → PO X x (ToM G C U m)
  | none, .no, _ => o_no
  | none, .so _, h => by simp [ckO] at h
  | some _, .no, h => by simp [ckO] at h
  | some e, .so m, h => o_so (hf _ _ h)
end
structure Regs (G : Gx) (R : Reg) : Prop where
  gn : G.gn = R.gn
  fn : G.fn = R.fn
  inj : ∀ i j, G.fn i = G.fn j → i = j
def ExpOk (G : Gx) (N : List Str) (n : Nat) (R : Reg) : Prop := ∀ (sc : Scope) (own : Str → Bool) (X : Cx) (C : Cfg) (U : WX) (e : PySem.Expr) (m : ME), Ok G N sc own X C U → ck R N n sc own e m = true →
  PE X e (TeM G C U m) ∧ PT X e (TtM G C U m) ∧ ∀ op vs p, e = .BoolOp op vs p → PW X e (TtM G C U m)
theorem exp_ok {G : Gx} {N : List Str} {R : Reg} (g : Regs G R) : ∀ n, ExpOk G N n R := by
  intro n
  induction n with
  | zero => intro sc own X C U e m o h; simp [ck] at h
  | succ n ih =>
    intro sc own X C U e m o h
    have ie : ∀ e m, ck R N n sc own e m = true → PE X e (TeM G C U m) := fun e m h => (ih sc own X C U e m o h).1
    have it : ∀ e m, ck R N n sc own e m = true → PT X e (TtM G C U m) := fun e m h => (ih sc own X C U e m o h).2.1
    unfold ck at h
    split at h
    · -- name
      simp only [Bool.and_eq_true, decide_eq_true_eq] at h
      refine ⟨e_var o h.1.1 h.1.2 h.2, t_tru o (e_var o h.1.1 h.1.2 h.2) (fun ρ hh => by simp only [tst, ev]) (by intro _; rfl), fun _ _ _ z => by cases z⟩
    · simp only [Bool.and_eq_true, decide_eq_true_eq] at h
      exact ⟨e_glb o (by rw [g.gn]; exact h.1.1) h.1.2 h.2, ptN fun ρ hh => by simp only [tst], fun _ _ _ z => by cases z⟩
    · simp only [decide_eq_true_eq] at h
      subst h
      exact ⟨e_const (w := .int ‹Int›) (pe_int) (fun ρ hh => by simp only [ev]) (fun H μ => by simp only [RW]), ptN fun ρ hh => by simp only [tst], fun _ _ _ z => by cases z⟩
    · simp only [decide_eq_true_eq] at h
      subst h
      exact ⟨e_const (w := .str ‹Str›) (pe_str) (fun ρ hh => by simp only [ev]) (fun H μ => by simp only [RW]), ptN fun ρ hh => by simp only [tst], fun _ _ _ z => by cases z⟩
    · simp only [decide_eq_true_eq] at h
      subst h
      exact ⟨e_const (w := .bl ‹Bool›) (pe_bl) (fun ρ hh => by simp only [ev]) (fun H μ => by simp only [RW]), ptN fun ρ hh => by simp only [tst], fun _ _ _ z => by cases z⟩
    · exact ⟨e_const (w := .non) (pe_non) (fun ρ hh => by simp only [ev]) (fun H μ => by simp only [RW]), ptN fun ρ hh => by simp only [tst], fun _ _ _ z => by cases z⟩
    · exact ⟨e_tup (l_ok ie h), ptN fun ρ hh => by simp only [tst], fun _ _ _ z => by cases z⟩
    · exact ⟨e_lst (l_ok ie h), ptN fun ρ hh => by simp only [tst], fun _ _ _ z => by cases z⟩
    · simp only [Bool.and_eq_true, decide_eq_true_eq] at h
      obtain ⟨⟨rfl, h1⟩, h2⟩ := h
      exact ⟨e_bin o (ie _ _ h1) (ie _ _ h2), ptN fun ρ hh => by simp only [tst], fun _ _ _ z => by cases z⟩
    · exact ⟨e_neg (ie _ _ h), ptN fun ρ hh => by simp only [tst], fun _ _ _ z => by cases z⟩
    · exact ⟨e_not (ie _ _ h), t_not (it _ _ h), fun _ _ _ z => by cases z⟩
    · simp only [Bool.and_eq_true, decide_eq_true_eq] at h
      obtain ⟨⟨⟨rfl, h0⟩, h1⟩, h2⟩ := h
      exact ⟨e_cmp o h0 (ie _ _ h1) (ie _ _ h2), t_cmp o h0 (ie _ _ h1) (ie _ _ h2), fun _ _ _ z => by cases z⟩
    · simp only [Bool.and_eq_true, decide_eq_true_eq] at h
      obtain ⟨⟨⟨⟨⟨⟨rfl, rfl⟩, h0⟩, h00⟩, h1⟩, h2⟩, h3⟩ := h
      exact ⟨e_chn o h0 h00 (ie _ _ h1) (ie _ _ h2) (ie _ _ h3), t_chn o h0 h00 (ie _ _ h1) (ie _ _ h2) (ie _ _ h3), fun _ _ _ z => by cases z⟩
    · simp only [Bool.and_eq_true] at h
      have hw := w_and (pos := ‹Pos›) (it _ _ h.1) ((ih sc own X C U _ _ o h.2).2.2 _ _ _ rfl)
      exact ⟨e_and (ie _ _ h.1) (ie _ _ h.2), hw.pt, fun _ _ _ z => by cases z; exact hw⟩
    · simp only [Bool.and_eq_true] at h
      have hw := w_or (pos := ‹Pos›) (it _ _ h.1) ((ih sc own X C U _ _ o h.2).2.2 _ _ _ rfl)
      exact ⟨e_or (ie _ _ h.1) (ie _ _ h.2), hw.pt, fun _ _ _ z => by cases z; exact hw⟩
    · have hw := pw_and1 (pos := ‹Pos›) (it _ _ h)
      exact ⟨pe_one (ie _ _ h), hw.pt, fun _ _ _ z => by cases z; exact hw⟩
    · have hw := pw_or1 (pos := ‹Pos›) (it _ _ h)
      exact ⟨pe_one (ie _ _ h), hw.pt, fun _ _ _ z => by cases z; exact hw⟩
    · simp only [Bool.and_eq_true] at h
      exact ⟨e_ite (it _ _ h.1.1) (ie _ _ h.1.2) (ie _ _ h.2), ptN fun ρ hh => by simp only [tst], fun _ _ _ z => by cases z⟩
    · simp only [Bool.and_eq_true] at h
      exact ⟨e_slc o (ie _ _ h.1.1) (o_ok ie h.1.2) (o_ok ie h.2), ptN fun ρ hh => by simp only [tst], fun _ _ _ z => by cases z⟩
    · simp only [Bool.and_eq_true] at h
      have q := e_idx (pos := ‹Pos›) o h.1.1 (ie _ _ h.1.2) (ie _ _ h.2)
      exact ⟨q, t_tru o q (fun ρ hh => by simp only [tst, ev]) (by intro _; rfl), fun _ _ _ z => by cases z⟩
    · -- a def called
      simp only [Bool.and_eq_true, decide_eq_true_eq] at h
      refine ⟨e_call o (by rw [g.gn]; exact h.1.1.1) h.1.1.2 h.1.2 h.2 (l_ok ie h.2), t_tru o (e_call o (by rw [g.gn]; exact h.1.1.1) h.1.1.2 h.1.2 h.2 (l_ok ie h.2)) (fun ρ hh => ?_) (by intro _; rfl), fun _ _ _ z => by cases z⟩
      simp only [tst, ev]
      split <;> rfl
    · simp only [Bool.and_eq_true, decide_eq_true_eq] at h
      refine ⟨e_blt o h.1.1 h.1.2 h.2 (l_ok ie h.2), t_tru o (e_blt o h.1.1 h.1.2 h.2 (l_ok ie h.2)) (fun ρ hh => by simp only [tst, ev]) (by intro _; rfl), fun _ _ _ z => by cases z⟩
    · simp only [Bool.and_eq_true, decide_eq_true_eq] at h
      obtain ⟨⟨⟨⟨⟨h1, h2⟩, h3⟩, h4⟩, h5⟩, h6⟩ := h
      refine ⟨e_isi o h1 h2 h3 h4 h5 (ie _ _ h6), t_tru o (e_isi o h1 h2 h3 h4 h5 (ie _ _ h6)) (fun ρ hh => by simp only [tst, ev]) (by intro _; rfl), fun _ _ _ z => by cases z⟩
    · simp only [Bool.and_eq_true, decide_eq_true_eq] at h
      obtain ⟨⟨⟨⟨⟨h1, h2⟩, h3⟩, h4⟩, h5⟩, h6⟩ := h
      exact ⟨e_mth o h1 h2 h3 h4 h6 (ie _ _ h5) (l_ok ie h6), ptN fun ρ hh => by simp only [tst], fun _ _ _ z => by cases z⟩
    · simp only [Bool.and_eq_true, decide_eq_true_eq] at h
      exact ⟨e_exf o g.inj h.1.1.2 (by rw [g.fn]; exact h.1.1.1) h.1.2 h.2, ptN fun ρ hh => by simp only [tst], fun _ _ _ z => by cases z⟩
    · simp only [Bool.and_eq_true, decide_eq_true_eq] at h
      exact ⟨e_dct h.1.1 h.1.2 h.2 (p_ok ie h.2), ptN fun ρ hh => by simp only [tst], fun _ _ _ z => by cases z⟩
    · simp only [Bool.and_eq_true, decide_eq_true_eq] at h
      obtain ⟨⟨⟨⟨⟨h1, h2⟩, h3⟩, h4⟩, h5⟩, h6⟩ := h
      exact ⟨e_itl o h1 h2 h3 h4 h5 (ie _ _ h6), ptN fun ρ hh => by simp only [tst], fun _ _ _ z => by cases z⟩
    · -- a comprehension
      simp only [Bool.and_eq_true, decide_eq_true_eq] at h
      obtain ⟨⟨⟨⟨⟨h1, h2⟩, h3⟩, h4⟩, h5⟩, h6⟩ := h
      refine ⟨e_comp o h1 h2 h3 (i_any o ie h4) (ckI_ne h4) (fun X' o' => (ih _ _ X' C U0 _ _ o' h5).1) (fun X' o' => ?_), ptN fun ρ hh => by simp only [tst], fun _ _ _ z => by cases z⟩
      split at h6
      · exact pts_nil
      · exact pts_one (ih _ _ X' C U0 _ _ o' h6).2.1
      · cases h6
    · cases h
end Mi
set_option Elab.async false
set_option linter.all false
set_option maxRecDepth 100000
set_option maxHeartbeats 2000000
/-! Statements. -/
namespace Mi
open PySem PySem.Spec PyProof.Rows L2
/-! ### the check -/
def ckLs (f : PySem.Stmt → MS → Bool) : List PySem.Stmt → MSs → Bool
  | [], .nil => true
  | s :: ss, .cons m ms => f s m && ckLs f ss ms
  | _, _ => false
def notLC : PySem.Expr → Bool
  | .ListComp _ _ _ _ => false | .SetComp _ _ _ _ => false | .DictComp _ _ _ _ _ => false | _ => true
def notTup : PySem.Expr → Bool
  | .Tuple _ _ _ => false
  | _ => true
/-- name = [..] on one line -/
def lcSw (sc : Scope) (x : Str) (p : Pos) : PySem.Expr → Bool
  | .ListComp _ _ scope cp => (match sc.names.lookup x with | some .local => true | _ => false) && (p.line == cp.line) && !(scope.names.any fun (n, k) => n == x && (k == .local || k == .cell))
  | _ => false
def lcNo (p : Pos) : PySem.Expr → Bool
  | .ListComp _ _ _ cp => !(p.line == cp.line)
  | e => notLC e
def lcl (sc : Scope) (x : Str) : Bool := match sc.names.lookup x with
  | some .local => true
  | _ => false
theorem lcl_of {sc : Scope} {x : Str} (h : lcl sc x = true) : sc.names.lookup x = some .local := by
  unfold lcl at h
  split at h <;> simp_all
def augO : BOp → Bool
  | .add => true | .sub => true | _ => false
def ckS (R : Reg) (N : List Str) : Nat → Scope → (Str → Bool) → PySem.Stmt → MS → Bool
  | 0, _, _, _, _ => false
  | n + 1, sc, own, s, m => match s, m with
    | .Assign [.Name x p] e _, .asg i me => ckN N sc own x i && ck R N n sc own e me && (lcSw sc x p e || lcNo p e)
    | .Assign [.Tuple [.Name x px, .Name y py] _ _] (.Tuple [a, b] _ _) _, .par2 i j ma mb => ckN N sc own x i && ckN N sc own y j && lcl sc x && lcl sc y && !(i == j) && (px.line == py.line) && notStar a && notStar b &&
      !(foldedForSure 8 a && foldedForSure 8 b) && !(constantsAlone 8 a && constantsAlone 8 b) && ck R N n sc own a ma && ck R N n sc own b mb
    | .Assign [.Tuple es _ _] e _, .asgT is me => ckNs N sc own es is && notTup e && ck R N n sc own e me
    | .Assign [.Subscript a b _] e _, .setI ma mb me => notSlice b && ck R N n sc own a ma && ck R N n sc own b mb && ck R N n sc own e me
    | .AugAssign (.Name x _) op e _, .aug i o me => decide (op = opB_ o) && augO o && ckN N sc own x i && ck R N n sc own e me
    | .Expr (.Constant (.str _) _ _) _, .pass => true
    | .Expr e _, .expr me => notLC e && ck R N n sc own e me
    | .If c a b _, .ite mc ma mb => ck R N n sc own c mc && ckLs (ckS R N n sc own) a ma && ckLs (ckS R N n sc own) b mb
    | .For tg iter body [] _, .for_ g it mb => ckG N sc own tg g && ckI (ck R N n sc own) sc (isTup tg) iter it && ckLs (ckS R N n sc own) body mb
    | .While c body [] _, .whl mc mb => ck R N n sc own c mc && ckLs (ckS R N n sc own) body mb
    | .Return (some e) _, .ret me => ck R N n sc own e me
    | .Return none _, .retN => true
    | .Pass _, .pass => true
    | .Break _, .brk => true
    | .Continue _, .cnt => true
    | _, _ => false
/-! ### what a statement's run promises -/
def PostS (G : Gx) (C : Cfg) (U : WX) (μ : List Addr) (H : Hp) (D : Ends) : So → Prop
  | .nx ρ h => ∀ μ' H' σ', Ext G H μ H' μ' → RH G H' μ' h → RS G C H' μ' ρ σ' → D.nx σ' H'
  | .rt w h => ∀ μ' H' v, Ext G H μ H' μ' → RH G H' μ' h → RW G H' μ' w v → D.rt v H'
  | .bk ρ h => ∀ μ' H' σ', Ext G H μ H' μ' → RH G H' μ' h → RS G C H' μ' ρ σ' → D.bk σ' H'
  | .ct ρ h => ∀ μ' H' σ', Ext G H μ H' μ' → RH G H' μ' h → RS G C H' μ' ρ σ' → D.ct σ' H'
  | .ex c fs ρ h => ∀ μ' H' σ' d fv, Ext G H μ H' μ' → RH G H' μ' h → RS G C H' μ' ρ σ' → H' d = some (.xd fv) → RFs G H' μ' fs fv → d ∉ μ' → U (G.cls c) (some d) σ' H'
def SSim (G : Gx) (C : Cfg) (U : WX) (μ : List Addr) (H : Hp) (D : Ends) (x : Sm) : Prop := ∃ r, x = some r ∧ PostS G C U μ H D r
def TsM (G : Gx) (C : Cfg) (U : WX) (K : Nat → Option (List Nat)) (m : MS) : TS := fun D σ H => ∃ μ ρ h, RS G C H μ ρ σ ∧ RH G H μ h ∧ SSim G C U μ H D (ex C K m ρ h)
def TssM (G : Gx) (C : Cfg) (U : WX) (K : Nat → Option (List Nat)) (m : MSs) : TS := fun D σ H => ∃ μ ρ h, RS G C H μ ρ σ ∧ RH G H μ h ∧ SSim G C U μ H D (exs C K m ρ h)
section
variable {G : Gx} {C : Cfg} {U : WX} {μ μ' : List Addr} {H H' : Hp} {D : Ends} {x : Sm} {ρ : Lo} {h : MH} {σ : L2.St}
theorem SSim.none (s : SSim G C U μ H D (none : Sm)) : False := by
  obtain ⟨r, e, _⟩ := s
  cases e
theorem SSim.ext (e : Ext G H μ H' μ') (s : SSim G C U μ H D x) : SSim G C U μ' H' D x := by
  obtain ⟨r, e1, p⟩ := s
  refine ⟨r, e1, ?_⟩
  cases r with
  | nx ρ h => exact fun μ2 H2 σ2 e2 => p μ2 H2 σ2 (e.trans e2)
  | rt w h => exact fun μ2 H2 v e2 => p μ2 H2 v (e.trans e2)
  | bk ρ h => exact fun μ2 H2 σ2 e2 => p μ2 H2 σ2 (e.trans e2)
  | ct ρ h => exact fun μ2 H2 σ2 e2 => p μ2 H2 σ2 (e.trans e2)
  | ex c fs ρ h => exact fun μ2 H2 σ2 d fv e2 => p μ2 H2 σ2 d fv (e.trans e2)
theorem SSim.nx (s : SSim G C U μ H D (some (.nx ρ h))) (rs : RS G C H μ ρ σ) (R : RH G H μ h) : D.nx σ H := by
  obtain ⟨r, e1, p⟩ := s
  cases e1
  exact p μ H σ Ext.refl R rs
theorem SSim.rt {w : Mi.W} {v : V} (s : SSim G C U μ H D (some (.rt w h))) (R : RH G H μ h) (r : RW G H μ w v) : D.rt v H := by
  obtain ⟨r', e1, p⟩ := s
  cases e1
  exact p μ H v Ext.refl R r
theorem SSim.bk (s : SSim G C U μ H D (some (.bk ρ h))) (rs : RS G C H μ ρ σ) (R : RH G H μ h) : D.bk σ H := by
  obtain ⟨r, e1, p⟩ := s
  cases e1
  exact p μ H σ Ext.refl R rs
theorem SSim.ct (s : SSim G C U μ H D (some (.ct ρ h))) (rs : RS G C H μ ρ σ) (R : RH G H μ h) : D.ct σ H := by
  obtain ⟨r, e1, p⟩ := s
  cases e1
  exact p μ H σ Ext.refl R rs
theorem SSim.sE {α β : Type} {rel : Hp → List Addr → α → β → Prop} {y : Mo α} {f : α → MH → Sm} (s : SSim G C U μ H D (Mi.sE ρ y f)) (rs : RS G C H μ ρ σ) :
    Sim G (fun c d H' => U c d σ H') μ H rel y (fun b H1 => ∃ μ1 a h1, Ext G H μ H1 μ1 ∧ RH G H1 μ1 h1 ∧ rel H1 μ1 a b ∧ SSim G C U μ1 H1 D (f a h1)) := by
  obtain ⟨r, e1, p⟩ := s
  cases y with
  | none => cases e1
  | some y =>
    refine ⟨y, rfl, ?_⟩
    cases y with
    | ok a h1 => exact fun μ1 H1 b e R r1 => ⟨μ1, a, h1, e, R, r1, SSim.ext e ⟨r, e1, p⟩⟩
    | ex c fs h1 =>
      cases e1
      exact fun μ1 H1 d fv e R z1 z2 z3 => p μ1 H1 σ d fv e R (rs.mono e) z1 z2 z3
/-- one behind another -/
theorem SSim.sQ {f : Lo → MH → Sm} (s : SSim G C U μ H D (Mi.sQ x f)) : SSim G C U μ H { D with nx := fun σ1 H1 => ∃ μ ρ h, RS G C H1 μ ρ σ1 ∧ RH G H1 μ h ∧ SSim G C U μ H1 D (f ρ h) } x := by
  obtain ⟨r, e1, p⟩ := s
  cases x with
  | none => cases e1
  | some y =>
    refine ⟨y, rfl, ?_⟩
    cases y with
    | nx ρ h => exact fun μ1 H1 σ1 e R rs => ⟨μ1, ρ, h, rs, R, SSim.ext e ⟨r, e1, p⟩⟩
    | rt w h => cases e1; exact p
    | bk ρ h => cases e1; exact p
    | ct ρ h => cases e1; exact p
    | ex c fs ρ h => cases e1; exact p
end
theorem psI {X : Cx} {st : PySem.Stmt} {t t' : TS} (h : PS X st t) (i : ∀ D σ H, t' D σ H → t D σ H) : PS X st t' := ⟨fun pins s σ H D I hq => h.run pins s σ H D I (i _ _ _ hq)⟩
theorem pssI {X : Cx} {st : List PySem.Stmt} {t t' : TS} (h : PSs X st t) (i : ∀ D σ H, t' D σ H → t D σ H) : PSs X st t' := ⟨fun pins s σ H D I hq => h.run pins s σ H D I (i _ _ _ hq)⟩
section
variable {G : Gx} {N : List Str} {sc : Scope} {own : Str → Bool} {X : Cx} {C : Cfg} {U : WX} {K : Nat → Option (List Nat)} {a b c e : PySem.Expr} {ma mb mc m : ME} {es rest : List PySem.Expr} {ms : MEs} {pos : Pos}
theorem sw_no {e : PySem.Expr} {t : Option PySem.Expr} {l : Nat} {env : Env} (h : notLC e = true) : swapsWith e t l env = pure false := by
  cases e <;> first | rfl | (simp [notLC] at h)
theorem sw_line {x : Str} {p : Pos} {l : Nat} {env : Env} (h : lcNo p e = true) : swapsWith e (some (.Name x p)) l env = pure false := by
  cases e with
  | ListComp elt gs scope cp =>
    simp only [lcNo, Bool.not_eq_true'] at h
    unfold swapsWith
    simp only [Expr.pos, h, Bool.and_false, Bool.false_and]
  | _ => first | rfl | (simp [lcNo, notLC] at h)
theorem pss_ok {f : PySem.Stmt → MS → Bool} (hf : ∀ s m, f s m = true → PS X s (TsM G C U K m)) : ∀ {ss : List PySem.Stmt} {ms : MSs}, ckLs f ss ms = true → PSs X ss (TssM G C U K ms)
  | [], .nil, _ => pssI pss_nil fun D σ H ⟨μ, ρ, h, rs, R, s⟩ => by
    simp only [exs] at s
    exact s.nx rs R
  | [], .cons _ _, h => by simp [ckLs] at h
  | _ :: _, .nil, h => by simp [ckLs] at h
  | st :: ss, .cons m ms, h => by
    simp only [ckLs, Bool.and_eq_true] at h
    refine pssI (pss_cons (hf _ _ h.1) (pss_ok hf h.2)) fun D σ H ⟨μ, ρ, h, rs, R, s⟩ => ?_
    simp only [exs] at s
    exact ⟨μ, ρ, h, rs, R, s.sQ⟩
theorem s_asg_core {i : Nat} {x : Str} {p : Pos} (o : Ok G N sc own X C U) (h : PS X (.Assign [.Name x p] e pos) (tAsg (TeM G C U m) (gName i))) : PS X (.Assign [.Name x p] e pos) (TsM G C U K (.asg i m)) :=
  psI h fun D σ H ⟨μ, ρ, h, rs, R, s⟩ => by
    simp only [ex] at s
    split at s
    · rename_i hf
      refine ⟨μ, ρ, h, rs, R, (s.sE rs).imp (fun _ _ _ z => z) fun v H1 hx => ?_⟩
      obtain ⟨μ1, w1, h1, e1, R1, r1, s1⟩ := hx
      exact s1.nx ((rs.mono e1).set hf r1) R1
    · exact s.none.elim
theorem s_asg {i : Nat} {x : Str} {p : Pos} (o : Ok G N sc own X C U) (hn : ckN N sc own x i = true) (hs : lcNo p e = true) (he : PE X e (TeM G C U m)) : PS X (.Assign [.Name x p] e pos) (TsM G C U K (.asg i m)) := by
  simp only [ckN, Bool.and_eq_true, decide_eq_true_eq] at hn
  exact s_asg_core o (ps_set (by rw [o.hN]; exact o.nd) (by rw [o.hN]; exact hn.1.1) (by rw [o.hsc]; exact loc_of hn.1.2) he (sw_line hs) (o.own _ hn.2))
theorem ass_names (h : ckNs N sc own es is = true) : True := trivial
theorem s_asgT {is : List Nat} {k : Nat} {p : Pos} (o : Ok G N sc own X C U) (hn : ckNs N sc own es is = true) (ht : notTup e = true) (he : PE X e (TeM G C U m)) : PS X (.Assign [.Tuple es k p] e pos) (TsM G C U K (.asgT is m)) := by
  cases hc : C.calm with
  | false =>
    constructor
    intro pins s σ H D I hq
    obtain ⟨μ, ρ, h0, rs, R, sm⟩ := hq
    simp only [ex, hc, Bool.false_and] at sm
    exact sm.none.elim
  | true =>
    have hX := o.calm hc
    obtain ⟨h1, h2, h3⟩ := ckNs_pg o hn
    have pt := pg_tup (X := X) (pos := p) (k := k) hX h1 h2 h3
    have pl := pg_lst (X := X) (pos := p) (k := k) hX h1 h2 h3
    have pg : PG X (.Tuple es k p) (fun v σ H Q => gTup X.K is.length (gNs is) v σ H Q ∨ gLst X.K is.length (gNs is) v σ H Q) := ⟨fun pins s σ H v u Q I r h => h.elim (pt.run pins s σ H v u Q I r) (pl.run pins s σ H v u Q I r)⟩
    refine psI (ps_asg he pg ?_ ?_ rfl) fun D σ H ⟨μ, ρ, h, rs, R, s⟩ => ?_
    · show swapsWith e (some (.Tuple es k p)) pos.line X.env = pure false
      cases e <;> rfl
    · cases e <;> first | rfl | (simp [notTup] at ht)
    simp only [ex, hc, Bool.true_and] at s
    split at s
    · rename_i hf
      simp only [List.all_eq_true] at hf
      refine ⟨μ, ρ, h, rs, R, (s.sE rs).imp (fun _ _ _ z => z) fun v H1 hx => ?_⟩
      obtain ⟨μ1, w1, h1, e1, R1, r1, s1⟩ := hx
      split at s1
      · rename_i xs hxs
        split at s1
        · rename_i hl
          obtain ⟨a, vs, rfl, hq, r2⟩ := R1.seq r1 hxs
          have hl2 : vs.length = is.length := by rw [← r2.length]; exact hl
          have fin : gNs is vs σ H1 D.nx := gns_do hl2 (s1.nx (rs_stS (rs.mono e1) r2 hf) R1)
          rw [← o.sur.k] at hq
          rcases hq with hq | hq
          · exact .inr ⟨a, vs, rfl, hq, hl2, fin⟩
          · exact .inl ⟨a, vs, rfl, hq, hl2, fin⟩
        · exact s1.none.elim
      · exact s1.none.elim
    · exact s.none.elim
theorem s_setI {p : Pos} (o : Ok G N sc own X C U) (hs : notSlice b = true) (ha : PE X a (TeM G C U ma)) (hb : PE X b (TeM G C U mb)) (he : PE X e (TeM G C U m)) : PS X (.Assign [.Subscript a b p] e pos) (TsM G C U K (.setI ma mb m)) := by
  refine psI (ps_asg he (pg_sub ha hb (setM o.sur) ?_) ?_ ?_ rfl) fun D σ H ⟨μ, ρ, h, rs, R, s⟩ => ?_
  · intro v
    cases b <;> first | rfl | (simp [notSlice] at hs)
  · show swapsWith e (some (.Subscript a b p)) pos.line X.env = pure false
    cases e <;> rfl
  · cases e <;> rfl
  · simp only [ex] at s
    refine ⟨μ, ρ, h, rs, R, (s.sE rs).imp (fun _ _ _ z => z) fun v H1 hx => ?_⟩
    obtain ⟨μ1, w1, h1, e1, R1, r1, s1⟩ := hx
    refine ⟨μ1, ρ, h1, rs.mono e1, R1, (s1.sE (rs.mono e1)).imp (fun _ _ _ z => z) fun v2 H2 hx => ?_⟩
    obtain ⟨μ2, w2, h2, e2, R2, r2, s2⟩ := hx
    have rs2 := (rs.mono e1).mono e2
    refine ⟨μ2, ρ, h2, rs2, R2, (s2.sE rs2).imp (fun _ _ _ z => z) fun v3 H3 hx => ?_⟩
    obtain ⟨μ3, w3, h3, e3, R3, r3, s3⟩ := hx
    split at s3
    · rename_i h4 hw
      exact ⟨μ3, w2, w3, w1, h3, h4, RW.mono e3 _ _ r2, r3, RW.mono (e2.trans e3) _ _ r1, R3, hw, fun H' ex' R' => (s3.ext ex').nx ((rs2.mono e3).mono ex') R'⟩
    · exact s3.none.elim
theorem s_aug {i : Nat} {x : Str} {p : Pos} {op : BOp} (o : Ok G N sc own X C U) (hn : ckN N sc own x i = true) (ho : augO op = true) (he : PE X e (TeM G C U m)) : PS X (.AugAssign (.Name x p) (opB_ op) e pos) (TsM G C U K (.aug i op m)) := by
  simp only [ckN, Bool.and_eq_true, decide_eq_true_eq] at hn
  have go : ∀ {f : Int → Int → Int} (hp : PIp X (opB_ op) (ipI f)), (∀ ρ h, ex C K (.aug i op m) ρ h = if free C i then (match ρ[i]? with
      | some (some (.int x)) => sE ρ (ev C m ρ h) fun y h1 => match y with
        | .int y => some (.nx (ρ.set i (some (.int (f x y)))) h1)
        | _ => none
      | _ => none) else none) → PS X (.AugAssign (.Name x p) (opB_ op) e pos) (TsM G C U K (.aug i op m)) := fun {f} hp hm =>
    psI (ps_aug (by rw [o.hN]; exact o.nd) (by rw [o.hN]; exact hn.1.1) (by rw [o.hsc]; exact loc_of hn.1.2) he hp (o.own _ hn.2)) fun D σ H ⟨μ, ρ, h, rs, R, s⟩ => by
      rw [hm] at s
      split at s
      · rename_i hf
        split at s
        · rename_i j hj
          obtain ⟨v, g1, g2⟩ := rs.at_ i _ hj
          cases rw_int g2
          refine ⟨_, g1, μ, ρ, h, rs, R, (s.sE rs).imp (fun _ _ _ z => z) fun v H1 hx => ?_⟩
          obtain ⟨μ1, w1, h1, e1, R1, r1, s1⟩ := hx
          split at s1
          · cases rw_int r1
            exact ⟨_, _, rfl, rfl, s1.nx ((rs.mono e1).set hf (by simp only [RW])) R1⟩
          · exact s1.none.elim
        · exact s.none.elim
      · exact s.none.elim
  cases op <;> simp only [augO, Bool.false_eq_true] at ho
  · refine go (f := fun i j => i + j) ip_add fun ρ h => ?_
    simp only [ex]
    split
    · rcases ρ[i]? with _ | _ | w
      · rfl
      · rfl
      · cases w <;> first | rfl | (dsimp only; congr 1; funext y h1; cases y <;> rfl)
    · rfl
  · refine go (f := fun i j => i - j) ip_sub fun ρ h => ?_
    simp only [ex]
    split
    · rcases ρ[i]? with _ | _ | w
      · rfl
      · rfl
      · cases w <;> first | rfl | (dsimp only; congr 1; funext y h1; cases y <;> rfl)
    · rfl
theorem s_expr (o : Ok G N sc own X C U) (hs : notLC e = true) (he : PE X e (TeM G C U m)) : PS X (.Expr e pos) (TsM G C U K (.expr m)) :=
  psI (ps_expr he (sw_no hs)) fun D σ H ⟨μ, ρ, h, rs, R, s⟩ => by
    simp only [ex] at s
    refine ⟨μ, ρ, h, rs, R, (s.sE rs).imp (fun _ _ _ z => z) fun v H1 hx => ?_⟩
    obtain ⟨μ1, w1, h1, e1, R1, r1, s1⟩ := hx
    exact s1.nx (rs.mono e1) R1
theorem s_ite {sa sb : List PySem.Stmt} {na nb : MSs} (hc : PT X c (TtM G C U mc)) (ha : PSs X sa (TssM G C U K na)) (hb : PSs X sb (TssM G C U K nb)) : PS X (.If c sa sb pos) (TsM G C U K (.ite mc na nb)) :=
  psI (ps_if hc ha hb) fun D σ H ⟨μ, ρ, h, rs, R, s⟩ => by
    simp only [ex] at s
    refine ⟨μ, ρ, h, rs, R, (s.sE rs).imp (fun _ _ _ z => z) fun v H1 hx => ?_⟩
    obtain ⟨μ1, k, h1, e1, R1, rfl, s1⟩ := hx
    cases k with
    | true => exact iteT ⟨μ1, ρ, h1, rs.mono e1, R1, by simpa using s1⟩
    | false => exact iteF ⟨μ1, ρ, h1, rs.mono e1, R1, by simpa using s1⟩
theorem s_ret (he : PE X e (TeM G C U m)) : PS X (.Return (some e) pos) (TsM G C U K (.ret m)) :=
  psI (ps_ret he) fun D σ H ⟨μ, ρ, h, rs, R, s⟩ => by
    simp only [ex] at s
    refine ⟨μ, ρ, h, rs, R, (s.sE rs).imp (fun _ _ _ z => z) fun v H1 hx => ?_⟩
    obtain ⟨μ1, w1, h1, e1, R1, r1, s1⟩ := hx
    exact s1.rt R1 r1
theorem s_retN : PS X (.Return none pos) (TsM G C U K .retN) :=
  psI ps_retN fun D σ H ⟨μ, ρ, h, rs, R, s⟩ => by
    simp only [ex] at s
    exact s.rt R (by simp only [RW])
theorem s_pass {st : PySem.Stmt} (hp : PS X st tNext) : PS X st (TsM G C U K .pass) :=
  psI hp fun D σ H ⟨μ, ρ, h, rs, R, s⟩ => by
    simp only [ex] at s
    exact s.nx rs R
theorem s_brk : PS X (.Break pos) (TsM G C U K .brk) :=
  psI ps_break fun D σ H ⟨μ, ρ, h, rs, R, s⟩ => by
    simp only [ex] at s
    exact s.bk rs R
theorem s_cnt : PS X (.Continue pos) (TsM G C U K .cnt) :=
  psI ps_continue fun D σ H ⟨μ, ρ, h, rs, R, s⟩ => by
    simp only [ex] at s
    exact s.ct rs R
theorem s_for {tg iter : PySem.Expr} {body : List PySem.Stmt} {g : MG} {it : MI} {nb : MSs} (o : Ok G N sc own X C U) (hp : C.calm = true → PassesOwn (model X.prog X.w) X.A X.env X.xe) (hg : ckG N sc own tg g = true) (hi : PI X tg iter (TiM G C U it)) (hs : notSet iter = true)
    (hb : PSs X body (TssM G C U K nb)) : PS X (.For tg iter body [] pos) (TsM G C U K (.for_ g it nb)) := by
  cases hc : C.calm with
  | false =>
    constructor
    intro pins s σ H D I hq
    obtain ⟨μ, ρ, h0, rs, R, sm⟩ := hq
    simp only [ex, hc] at sm
    exact (SSim.none sm).elim
  | true =>
    have hX := o.calm hc
    have hfree : ∀ i, free C i = true := fun i => by unfold free; rw [o.exn_none hc]
    refine psI (ps_for (hp hc) hX hi (ckG_pg o hX hg) hb (folded_ne hs)) fun D σ H ⟨μ, ρ, h, rs, R, s⟩ => ?_
    simp only [ex, hc, if_true] at s
    refine ⟨μ, ρ, h, rs, R, (s.sE rs).imp (fun _ _ _ z => z) fun J H1 hx => ?_⟩
    obtain ⟨μ1, sr, h1, e1, R1, so, s1⟩ := hx
    refine ⟨fun i m σ' H' => ∃ μ' ρ' h', Ext G H1 μ1 H' μ' ∧ RS G C H' μ' ρ' σ' ∧ RH G H' μ' h' ∧ SSim G C U μ' H' D (forLp g (exs C K nb) sr m i ρ' h'), ⟨_, μ1, ρ, h1, Ext.refl, rs.mono e1, R1, s1⟩, ?_⟩
    rintro i m σ3 H3 ⟨μ3, ρ3, h3, e3, rs3, R3, s3⟩
    cases m with
    | zero => simp only [forLp] at s3; exact s3.none.elim
    | succ fu =>
      simp only [forLp] at s3
      split at s3
      · exact s3.none.elim
      · rename_i hit
        exact .inl ⟨(so μ3 h3 H3 i e3 R3).1 hit, s3.nx rs3 R3⟩
      · rename_i w hit
        obtain ⟨go, yl⟩ := (so μ3 h3 H3 i e3 R3).2 w hit
        refine .inr ⟨go, fun σ' H' => ∃ μ' ρ' h', Ext G H1 μ1 H' μ' ∧ RS G C H' μ' ρ' σ' ∧ RH G H' μ' h' ∧ SSim G C U μ' H' D (forLp g (exs C K nb) sr fu (i + 1) ρ' h'), fun σ' H' hN' => ⟨fu, Nat.lt_succ_self _, hN'⟩, fun x H4 y => ?_⟩
        obtain ⟨e4, R4, r4⟩ := yl x H4 y
        have s4 := s3.ext e4
        split at s4
        · exact s4.none.elim
        · rename_i ρ5 hT
          refine tg_do (rs3.mono e4) r4 hT (fun i _ => hfree i) fun σ5 rs5 _ => ⟨μ3, ρ5, h3, rs5, R4, ?_⟩
          obtain ⟨r, er, pr⟩ := s4
          cases hb : exs C K nb ρ5 h3 with
          | none => rw [hb] at er; cases er
          | some y =>
            rw [hb] at er
            refine ⟨y, rfl, ?_⟩
            cases y with
            | nx ρ6 h6 => exact fun μ6 H6 σ6 e6 R6 rs6 => ⟨μ6, ρ6, h6, (e3.trans e4).trans e6, rs6, R6, SSim.ext e6 ⟨r, er, pr⟩⟩
            | ct ρ6 h6 => exact fun μ6 H6 σ6 e6 R6 rs6 => ⟨μ6, ρ6, h6, (e3.trans e4).trans e6, rs6, R6, SSim.ext e6 ⟨r, er, pr⟩⟩
            | bk ρ6 h6 => cases er; exact pr
            | rt w6 h6 => cases er; exact pr
            | ex c fs ρ6 h6 => cases er; exact pr
theorem s_whl {body : List PySem.Stmt} {nb : MSs} (o : Ok G N sc own X C U) (hp : C.calm = true → PassesOwn (model X.prog X.w) X.A X.env X.xe) (ht : PT X c (TtM G C U mc)) (hb : PSs X body (TssM G C U K nb)) : PS X (.While c body [] pos) (TsM G C U K (.whl mc nb)) := by
  cases hc : C.calm with
  | false =>
    constructor
    intro pins s σ H D I hq
    obtain ⟨μ, ρ, h0, rs, R, sm⟩ := hq
    simp only [ex, hc] at sm
    exact (SSim.none sm).elim
  | true =>
    refine psI (ps_while (hp hc) ht hb) fun D σ H ⟨μ, ρ, h, rs, R, s⟩ => ?_
    simp only [ex, hc, if_true] at s
    refine ⟨fun m σ' H' => ∃ μ' ρ' h', RS G C H' μ' ρ' σ' ∧ RH G H' μ' h' ∧ SSim G C U μ' H' D (whlLp (tst C mc) (exs C K nb) m ρ' h'), ⟨_, μ, ρ, h, rs, R, s⟩, ?_⟩
    rintro m σ3 H3 ⟨μ3, ρ3, h3, rs3, R3, s3⟩
    cases m with
    | zero => simp only [whlLp] at s3; exact s3.none.elim
    | succ fu =>
      simp only [whlLp] at s3
      refine ⟨μ3, ρ3, h3, rs3, R3, (s3.sE rs3).imp (fun _ _ _ z => z) fun k H4 hx => ?_⟩
      obtain ⟨μ4, k', h4, e4, R4, rfl, s4⟩ := hx
      cases k' with
      | false =>
        rw [if_neg (by decide)] at s4 ⊢
        exact s4.nx (rs3.mono e4) R4
      | true =>
        rw [if_pos rfl] at s4 ⊢
        refine ⟨fun σ' H' => ∃ μ' ρ' h', RS G C H' μ' ρ' σ' ∧ RH G H' μ' h' ∧ SSim G C U μ' H' D (whlLp (tst C mc) (exs C K nb) fu ρ' h'), fun σ' H' hN' => ⟨fu, Nat.lt_succ_self _, hN'⟩, μ4, ρ3, h4, rs3.mono e4, R4, ?_⟩
        obtain ⟨r, er, pr⟩ := s4
        cases hb : exs C K nb ρ3 h4 with
        | none => rw [hb] at er; cases er
        | some y =>
          rw [hb] at er
          refine ⟨y, rfl, ?_⟩
          cases y with
          | nx ρ6 h6 => exact fun μ6 H6 σ6 e6 R6 rs6 => ⟨μ6, ρ6, h6, rs6, R6, SSim.ext e6 ⟨r, er, pr⟩⟩
          | ct ρ6 h6 => exact fun μ6 H6 σ6 e6 R6 rs6 => ⟨μ6, ρ6, h6, rs6, R6, SSim.ext e6 ⟨r, er, pr⟩⟩
          | bk ρ6 h6 => cases er; exact pr
          | rt w6 h6 => cases er; exact pr
          | ex c fs ρ6 h6 => cases er; exact pr
end
end Mi
set_option Elab.async false
set_option linter.all false
set_option maxRecDepth 100000
set_option maxHeartbeats 4000000
/-! All statements. -/
namespace Mi
open PySem PySem.Spec PyProof.Rows L2
section
variable {G : Gx} {N : List Str} {sc : Scope} {own : Str → Bool} {X : Cx} {C : Cfg} {U : WX} {K : Nat → Option (List Nat)} {a b c e : PySem.Expr} {ma mb mc m : ME} {es rest : List PySem.Expr} {ms : MEs} {pos : Pos}
theorem isSt_no {a : PySem.Expr} (h : notStar a = true) : (match a with | .Starred .. => true | _ => false) = false := by
  cases a <;> first | rfl | (cases h)
theorem swap2 {x y : Str} {px py pt pt2 : Pos} {k k2 : Nat} {env : Env} (hk : env.scope.kind = .function) (hx : env.scope.names.lookup x = some .local) (hy : env.scope.names.lookup y = some .local) (hxy : x ≠ y) (hl : (px.line == py.line) = true) (ha : notStar a = true) (hb : notStar b = true)
    (hf : (foldedForSure 8 a && foldedForSure 8 b) = false) (hc : (constantsAlone 8 a && constantsAlone 8 b) = false) : swappedStores [.Tuple [.Name x px, .Name y py] k pt] (.Tuple [a, b] k2 pt2) env = pure (some [x, y]) := by
  have kx : env.kindOf x = some .local := hx
  have ky : env.kindOf y = some .local := hy
  have hbk : env.blockKind = .function := by unfold Env.blockKind; rw [hk]; rfl
  have hns : ∀ z ∈ [a, b], notStar z = true := fun z hz => by
    rcases List.mem_cons.mp hz with rfl | hz
    · exact ha
    · rcases List.mem_cons.mp hz with rfl | hz
      · exact hb
      · cases hz
  have hl2 : (py.line == px.line) = true := by
    have := eq_of_beq hl
    rw [this]; exact beq_self_eq_true _
  have hxy2 : (y == x) = false := by simp; exact fun z => hxy z.symm
  unfold swappedStores
  simp only [hbk, kx, ky, hf, hc, hl2, List.length, List.head?, List.filterMap, Option.map, Option.getD, Expr.pos, List.all, Bool.and_true]
  have e1 : [x, y].eraseDups = [x, y] := by
    simp [List.eraseDups_cons, hxy2]
  rw [if_neg (by decide)]
  refine (if_neg fun w => ?_).trans ?_
  · rw [List.any_eq_true] at w
    obtain ⟨z, hz, w⟩ := w
    have h := hns z hz
    cases z <;> first | (cases h; done) | (cases w; done)
  · have ex1 : (some NameKind.local == some NameKind.local) = true := rfl
    simp only [ex1, beq_self_eq_true, Bool.and_true, Bool.and_self, if_true, e1, hf, hc, List.length, Bool.false_eq_true, if_false]
    rfl
theorem s_par2 {x y : Str} {px py pt pt2 : Pos} {k k2 i j : Nat} (o : Ok G N sc own X C U) (h1 : ckN N sc own x i = true) (h2 : ckN N sc own y j = true) (h3 : sc.names.lookup x = some .local) (h4 : sc.names.lookup y = some .local) (hij : i ≠ j) (hl : (px.line == py.line) = true) (hsa : notStar a = true) (hsb : notStar b = true)
    (hf : (foldedForSure 8 a && foldedForSure 8 b) = false) (hc : (constantsAlone 8 a && constantsAlone 8 b) = false) (ha : PE X a (TeM G C U ma)) (hb : PE X b (TeM G C U mb)) :
    PS X (.Assign [.Tuple [.Name x px, .Name y py] k pt] (.Tuple [a, b] k2 pt2) pos) (TsM G C U K (.par2 i j ma mb)) := by
  simp only [ckN, Bool.and_eq_true, decide_eq_true_eq] at h1 h2
  cases hcm : C.calm with
  | false =>
    constructor
    intro pins s σ H D I hq
    obtain ⟨μ, ρ, h0, rs, R, sm⟩ := hq
    simp only [ex, hcm, Bool.false_and] at sm
    exact sm.none.elim
  | true =>
    have hX := o.calm hcm
    have hx : X.env.scope.names.lookup x = some .local := by rw [o.hsc]; exact h3
    have hy : X.env.scope.names.lookup y = some .local := by rw [o.hsc]; exact h4
    have hxy : x ≠ y := fun e => by
      subst e
      have hi := h1.1.1
      have hj := h2.1.1
      exact hij (nodup_ix o.nd hi hj)
    refine psI (ps_par hX (by rw [o.hN]; exact o.nd) (by rw [o.hN]; exact h1.1.1) (by rw [o.hN]; exact h2.1.1) hij hx hy (pa_cons ha (one_arg hb hsb) (star_ne hsa)) (swap2 (by rw [o.hsc]; exact o.kd) hx hy hxy hl hsa hsb hf hc) rfl) fun D σ H ⟨μ, ρ, h, rs, R, s⟩ => ?_
    simp only [ex, hcm, Bool.true_and] at s
    split at s
    · rename_i hfr
      simp only [Bool.and_eq_true] at hfr
      refine ⟨μ, ρ, h, rs, R, (s.sE rs).imp (fun _ _ _ z => z) fun v H1 hx => ?_⟩
      obtain ⟨μ1, w1, h1, e1, R1, r1, s1⟩ := hx
      refine ⟨μ1, ρ, h1, rs.mono e1, R1, (s1.sE (rs.mono e1)).imp (fun _ _ _ z => z) fun v2 H2 hx => ?_⟩
      obtain ⟨μ2, w2, h2, e2, R2, r2, s2⟩ := hx
      exact ⟨v, v2, rfl, s2.nx ((((rs.mono e1).mono e2).set hfr.1.1 (RW.mono e2 _ _ r1)).set hfr.1.2 r2) R2⟩
    · exact s.none.elim
end
def StmOk (G : Gx) (N : List Str) (n : Nat) (R : Reg) (K : Nat → Option (List Nat)) : Prop := ∀ (sc : Scope) (own : Str → Bool) (X : Cx) (C : Cfg) (U : WX) (s : PySem.Stmt) (m : MS), Ok G N sc own X C U → (C.calm = true → PassesOwn (model X.prog X.w) X.A X.env X.xe) → ckS R N n sc own s m = true → PS X s (TsM G C U K m)
/-- a comprehension on one line with its name -/
theorem s_lc {G : Gx} {N : List Str} {R : Reg} {K : Nat → Option (List Nat)} {sc : Scope} {own : Str → Bool} {X : Cx} {C : Cfg} {U : WX} {x : Str} {p pos : Pos} {e : PySem.Expr} {i n : Nat} {me : ME} (g : Regs G R) (o : Ok G N sc own X C U) (hn : ckN N sc own x i = true) (hl : lcSw sc x p e = true) (hk : ck R N n sc own e me = true) :
    PS X (.Assign [.Name x p] e pos) (TsM G C U K (.asg i me)) := by
  refine s_asg_core o ?_
  cases e with
  | ListComp elt gs scope cp =>
    simp only [lcSw, Bool.and_eq_true, Bool.not_eq_true'] at hl
    obtain ⟨⟨l1, l2⟩, l3⟩ := hl
    simp only [ckN, Bool.and_eq_true, decide_eq_true_eq] at hn
    have l1' : sc.names.lookup x = some .local := by
      split at l1
      · assumption
      · cases l1
    cases n with
    | zero => simp [ck] at hk
    | succ n =>
      have ie : ∀ e m, ck R N n sc own e m = true → PE X e (TeM G C U m) := fun e m h => (exp_ok g n sc own X C U e m o h).1
      unfold ck at hk
      split at hk <;> rename_i heq <;> first | (cases heq; done) | skip
      · cases heq
        simp only [Bool.and_eq_true, decide_eq_true_eq] at hk
        obtain ⟨⟨⟨⟨⟨h1, h2⟩, h3⟩, h4⟩, h5⟩, h6⟩ := hk
        cases hcm : C.calm with
        | false =>
          constructor
          intro pins s σ H D I hq
          obtain ⟨μ, ρ, h0, rs, R, sm⟩ := hq
          rw [ev_comp, hcm] at sm
          exact (Sim.none sm).elim
        | true =>
          refine comp_set o h1 h2 h3 (i_any o ie h4) (ckI_ne h4) (fun X' o' => (exp_ok g n _ _ X' C U0 _ _ o' h5).1) (fun X' o' => ?_) hcm hn.1.1 l1' l2 l3
          split at h6
          · exact pts_nil
          · exact pts_one (exp_ok g n _ _ X' C U0 _ _ o' h6).2.1
          · cases h6
      · cases hk
  | _ => simp [lcSw] at hl
theorem stm_ok {G : Gx} {N : List Str} {R : Reg} {K : Nat → Option (List Nat)} (g : Regs G R) : ∀ n, StmOk G N n R K := by
  intro n
  induction n with
  | zero => intro sc own X C U e m o hp h; simp [ckS] at h
  | succ n ih =>
    intro sc own X C U e m o hp h
    have ie : ∀ e m, ck R N n sc own e m = true → PE X e (TeM G C U m) := fun e m h => (exp_ok g n sc own X C U e m o h).1
    have it : ∀ e m, ck R N n sc own e m = true → PT X e (TtM G C U m) := fun e m h => (exp_ok g n sc own X C U e m o h).2.1
    have is : ∀ s m, ckS R N n sc own s m = true → PS X s (TsM G C U K m) := fun s m h => ih sc own X C U s m o hp h
    unfold ckS at h
    split at h
    · simp only [Bool.and_eq_true, Bool.or_eq_true] at h
      obtain ⟨⟨h1, h2⟩, h3 | h3⟩ := h
      · exact s_lc g o h1 h3 h2
      · exact s_asg o h1 h3 (ie _ _ h2)
    · simp only [Bool.and_eq_true, Bool.not_eq_true'] at h
      obtain ⟨⟨⟨⟨⟨⟨⟨⟨⟨⟨⟨h1, h2⟩, h3⟩, h4⟩, h5⟩, h6⟩, h7⟩, h8⟩, h9⟩, h10⟩, h11⟩, h12⟩ := h
      exact s_par2 o h1 h2 (lcl_of h3) (lcl_of h4) (by simpa using h5) h6 h7 h8 h9 h10 (ie _ _ h11) (ie _ _ h12)
    · simp only [Bool.and_eq_true] at h
      exact s_asgT o h.1.1 h.1.2 (ie _ _ h.2)
    · simp only [Bool.and_eq_true] at h
      exact s_setI o h.1.1.1 (ie _ _ h.1.1.2) (ie _ _ h.1.2) (ie _ _ h.2)
    · simp only [Bool.and_eq_true, decide_eq_true_eq] at h
      obtain ⟨⟨⟨rfl, h1⟩, h2⟩, h3⟩ := h
      exact s_aug o h2 h1 (ie _ _ h3)
    · exact s_pass ps_doc
    · simp only [Bool.and_eq_true] at h
      exact s_expr o h.1 (ie _ _ h.2)
    · simp only [Bool.and_eq_true] at h
      exact s_ite (it _ _ h.1.1) (pss_ok is h.1.2) (pss_ok is h.2)
    · simp only [Bool.and_eq_true] at h
      exact s_for o hp h.1.1 (i_any o ie h.1.2) (ckI_ne h.1.2) (pss_ok is h.2)
    · simp only [Bool.and_eq_true] at h
      exact s_whl o hp (it _ _ h.1) (pss_ok is h.2)
    · exact s_ret (ie _ _ h)
    · exact s_retN
    · exact s_pass ps_pass
    · exact s_brk
    · exact s_cnt
    · cases h
end Mi
set_option Elab.async false
set_option linter.all false
set_option maxRecDepth 100000
set_option maxHeartbeats 4000000
/-! All defs; the law's entry. -/
namespace Mi
open PySem PySem.Spec PyProof.Rows L2
/-! ### a def by its body -/
theorem fnG_ofD {P : Program} {w : World} {K : PySem.W.Frag} {mg : Str → Option Value} {base : Heap} {k : Nat} {x qual : Str} {pa : Arguments} {bd : List PySem.Stmt} {sc : Scope} {dvs : List V} {kws : List (Str × V)} {f : Addr} {fd : FuncData} {N ps : List Str} {sp : Sp}
    (F : FunD K x qual pa bd sc dvs kws f fd) (S : FnScope N ps sc) (len : ∀ vs H Q E, sp vs H Q E → vs.length = ps.length)
    (body : ∀ (cdv : Value) (A : Around) (outer : List Env) (s : Shared) (H : Hp) (vs : List V) (Q : VK) (E : XK), RoomG (k + 1) A → sp vs H Q E →
      ∃ t, PSs (cxOf (L2.CX P w) P w K mg base N qual sc f cdv A outer s H E) bd t ∧ t { nx := fun _ H' => Q .non H', rt := Q } (start N vs) H) : FnG P w K mg base (k + 1) f fd ps sp := by
  obtain ⟨oc, od, dV, kV, doc, pm, an, cdv, ct, osl, rfl, lk, hcd, _, _⟩ := F.ex
  constructor
  · exact len
  intro A outer s H args us vs Q E hr e0 hb r hsp
  have hl := len _ _ _ _ hsp
  have up : ∀ b o, base.get? b = some o → s.heap.get? b = some o := fun b o e => (e0.bs b o e).1
  have KX : K.In s.heap := e0.mod.kin.keeps up
  have lim : s.heap.NoLimit := e0.mod.nolimit.keeps up
  have hkind : ∀ y ∈ ps.zip us, sc.names.lookup y.1 = some .local ∨ (sc.names.lookup y.1 = some .cell ∧ ((cellsFrom (s.heap.objs.size + 1) sc.names []).lookup y.1).isSome = true) := by
    intro y hy
    exact (S.par y.1 (List.of_mem_zip hy).1).imp id fun q => ⟨q, PySem.W.cellsFrom_some _ _ _ (.inl q)⟩
  refine codeAny_call_function hr.r.depth (KX _ _ lk) rfl S.co S.gen rfl (PySem.W.codeRec_of KX hcd) (hb _ _ _ _ ?_)
  refine wpAny_newFunctionEnv_cells S.kind hkind fun env he s1 ic => ?_
  subst he
  refine ⟨lim.keeps ic.toInCall.keep, codeAny_func ?_⟩
  obtain ⟨t, ht, hq⟩ := body cdv A outer s H vs Q E hr hsp
  have I : Inv (cxOf (L2.CX P w) P w K mg base N qual sc f cdv A outer s H E) [] (start N vs) H s1 := inv_start S hr.r.hd e0 hl r ic
  refine wpAny_mono (ht.run [] s1 (start N vs) H _ I hq) ?_ fun e s' hs => hs
  intro fl s' hs
  match fl, hs with
  | .ret u, ⟨v, σ', H', J, rv, q⟩ => exact ⟨v, H', J.os, J.bare, J.base, J.hok, rv, q⟩
  | .next, ⟨σ', H', J, q⟩ => exact ⟨.non, H', J.os, J.bare, J.base, J.hok, rfl, q⟩
  | .brk, ⟨_, _, _, q⟩ => exact q.elim
  | .cont, ⟨_, _, _, q⟩ => exact q.elim
/-! ### the table is the program's -/
structure DefAt (G : Gx) (R : Reg) (f : Nat) (d : MDef) (fa : Addr) (fd : FuncData) (ps : List Str) : Prop where
  glo : G.mg (R.gn f) = some (.ref fa)
  kp : PySem.W.keepIn G.K (.ref fa) = true
  np : ps.length = d.np
  bi : Binds G.K fd ps []
  ex : ∃ (x qual : Str) (pa : Arguments) (bd : List PySem.Stmt) (sc : Scope) (dvs : List V) (kws : List (Str × V)) (N : List Str) (n : Nat), FunD G.K x qual pa bd sc dvs kws fa fd ∧ FnScope N ps sc ∧ N.length = d.ns ∧ d.np ≤ d.ns ∧ ckLs (ckS R N n sc fun _ => true) bd d.body = true
structure TabOk (G : Gx) (T : Tab) (R : Reg) : Prop where
  reg : Regs G R
  xa : G.xa = none
  defs : ∀ f d, T.defs f = some d → ∃ fa fd ps, DefAt G R f d fa fd ps
  dfl : ∀ f g ds, T.dfl f = some (g, ds) → R.gn f = R.gn g ∧ ∃ d fa fd ps us vs, T.defs g = some d ∧ DefAt G R g d fa fd ps ∧ Binds G.K fd ps us ∧ Vals vs us ∧ ∀ H μ, RWs G H μ ds vs
  cdt : ∀ x kvs, T.cdt x = some kvs → KD G x kvs
  glb : ∀ x w, T.glb x = some w → ∃ u v, G.mg (G.gn x) = some u ∧ RelV v u ∧ ∀ H μ, RW G H μ w v
  blt : ∀ n ∈ bltN, G.mg n = none
theorem run_len {T : Tab} {k f : Nat} {d : MDef} {ws : List Mi.W} {h : MH} {r : Rs Mi.W} (hd : T.defs f = some d) (h : run T k f ws h = some r) : ws.length = d.np := by
  cases k with
  | zero => cases h
  | succ k =>
    simp only [run, hd] at h
    split at h
    · assumption
    · cases h
theorem gl_free {sc : Scope} {N ps : List Str} (S : FnScope N ps sc) : True := trivial
theorem defs_ok {G : Gx} {T : Tab} {R : Reg} {P : Program} {base : Heap} (O : TabOk G T R) : ∀ (k f : Nat) (d : MDef) (fa : Addr) (fd : FuncData) (ps : List Str), T.defs f = some d → DefAt G R f d fa fd ps → FnG P G.w G.K G.mg base k fa fd ps (SpI G (run T k f) ps.length) := by
  intro k
  induction k with
  | zero =>
    intro f d fa fd ps hd D
    refine ⟨fun vs H Q E h => h.1, fun hr e0 hb r h => ?_⟩
    obtain ⟨_, μ, ws, hh, _, _, s⟩ := h
    simp only [run] at s
    exact s.none.elim
  | succ k ih =>
    intro f d fa fd ps hd D
    obtain ⟨x, qual, pa, bd, sc, dvs, kws, N, n, F, S, hN, hle, hck⟩ := D.ex
    refine fnG_ofD F S (fun vs H Q E h => h.1) fun cdv A outer s H vs Q E hr h => ⟨TssM G (cfg T (run T k)) (fun cls d _ H => E cls d H) T.excs d.body, ?_, ?_⟩
    · have tk : Takes (cxOf (L2.CX P G.w) P G.w G.K G.mg base N qual sc fa cdv A outer s H E) (fun cls d _ H => E cls d H) := takes_of rfl rfl rfl rfl
      have hun := hr.r.un
      have hdp := hr.r.dp
      have okX : Ok G N sc (fun _ => true) (cxOf (L2.CX P G.w) P G.w G.K G.mg base N qual sc fa cdv A outer s H E) (cfg T (run T k)) (fun cls d _ H => E cls d H) :=
        { sur := ⟨rfl, rfl, rfl, by show A.units + 3 + 210 < cLine; omega, hr.g⟩
          hN := rfl
          nd := S.nd
          hsc := rfl
          kd := S.kind
          calm := fun _ => rfl
          tk := tk
          own := fun _ _ => .inl rfl
          cdt := O.cdt
          glb := O.glb
          blt := O.blt
          call := fun g hg => by
            cases hdf : T.dfl g with
            | none =>
              have hg' : cfgHas T g = true := hg
              unfold cfgHas at hg'
              rw [hdf] at hg'
              obtain ⟨d', hd'⟩ := Option.isSome_iff_exists.mp hg'
              obtain ⟨fa', fd', ps', D'⟩ := O.defs g d' hd'
              refine ⟨k, fa', fd', ps', [], [], [], run T k g, by rw [O.reg.gn]; exact D'.glo, D'.kp, ih g d' fa' fd' ps' hd' D', hr.deeper _, D'.bi, .nil, fun H μ => .nil, fun ws h => ?_, fun ws h r hr => ?_⟩
              · show cfgCall T (run T k) g ws h = _
                unfold cfgCall
                rw [hdf, List.append_nil]
              · rw [D'.np]; exact run_len hd' hr
            | some p =>
              obtain ⟨g2, ds⟩ := p
              have hg' : cfgHas T g = true := hg
              unfold cfgHas at hg'
              rw [hdf] at hg'
              obtain ⟨e1, d', fa', fd', ps', us, vs', hd', D', b1, b2, b3⟩ := O.dfl g g2 ds hdf
              refine ⟨k, fa', fd', ps', us, vs', ds, run T k g2, by rw [O.reg.gn, e1]; exact D'.glo, D'.kp, ih g2 d' fa' fd' ps' hd' D', hr.deeper _, b1, b2, b3, fun ws h => ?_, fun ws h r hr => ?_⟩
              · show cfgCall T (run T k) g ws h = _
                unfold cfgCall
                rw [hdf]
              · rw [D'.np]; exact run_len hd' hr
          exn := fun i n h => by cases h }
      exact pss_ok (fun s m hs => stm_ok O.reg n sc _ _ _ _ s m okX (fun _ => passes_of rfl) hs) hck
    · obtain ⟨hl, μ, ws, hh, r, Rh, sm⟩ := h
      have hwl : ws.length = d.np := by
        obtain ⟨r', q, _⟩ := sm
        exact run_len hd q
      simp only [run, hd, hwl, if_true] at sm
      have hpl : vs.length = d.np := by rw [hl, D.np]
      refine ⟨μ, ws.map some ++ List.replicate (d.ns - d.np) none, hh, ⟨?_, fun i w hi => ?_, fun i n hx => by cases hx⟩, Rh, ?_⟩
      · unfold L2.start
        simp only [List.length_append, List.length_map, List.length_replicate, hwl, hpl, hN]
      · by_cases hlt : i < ws.length
        · rw [List.getElem?_append_left (by simpa using hlt)] at hi
          simp only [List.getElem?_map, Option.map_eq_some_iff] at hi
          obtain ⟨w', hi, e⟩ := hi
          cases e
          obtain ⟨v, g1, g2⟩ := r.get hi
          refine ⟨v, ?_, g2⟩
          have hv : i < vs.length := (List.getElem?_eq_some_iff.mp g1).1
          unfold L2.start
          rw [List.getElem?_append_left (by simpa using hv)]
          simp [g1]
        · rw [List.getElem?_append_right (by simpa using Nat.le_of_not_lt hlt)] at hi
          obtain ⟨_, e⟩ := List.getElem?_eq_some_iff.mp hi
          simp at e
      · generalize exs (cfg T (run T k)) T.excs d.body (ws.map some ++ List.replicate (d.ns - d.np) none) hh = o at sm ⊢
        obtain ⟨r', q, p⟩ := sm
        cases o with
        | none => cases q
        | some o =>
          refine ⟨o, rfl, ?_⟩
          cases o with
          | nx ρ h' =>
            cases q
            exact fun μ' H' σ' e R' _ => p μ' H' .non e R' (by simp only [RW])
          | rt w h' =>
            cases q
            exact fun μ' H' v e R' rw' => p μ' H' v e R' rw'
          | bk ρ h' => cases q
          | ct ρ h' => cases q
          | ex c fs ρ h' =>
            cases q
            exact fun μ' H' σ' d fv e R' _ z1 z2 z3 => p μ' H' d fv e R' z1 z2 z3
/-! ### the law's entry -/
def noLists (K : PySem.W.Frag) : Bool := K.all fun q => match q.2.cls with
  | .type c => !(c == "list")
  | _ => true
/-- the law's promise at the heap behind the top -/
theorem enterG {P : Program} {w : World} {G : Gx} {mb : Str → Option Value} {k : Nat} {fa a : Addr} {fd : FuncData} {x : Str} {run : List Mi.W → MH → Mo Mi.W} {s : Shared} {vs : List Value} {ns : List Int} {ob : Obj}
    (KX : G.K.In s.heap) (hns : s.heap.Ns mainGlobals G.mg) (hb : s.heap.Ns builtinsNs mb) (hbb : ∀ x : Str, x ≠ "__name__" → mb x = bootBuiltins x) (hlim : s.heap.NoLimit) (hg : s.gens = #[])
    (ha : s.heap.get? a = some { cls := .type "list", data := .seq vs.toArray }) (hi : IntsAre vs ns) (hl : ns.length ≤ sizeLine) (hr : RoomG k callerA)
    (hs1 : G.K.lookup sysModules = none) (hs2 : noLists G.K = true) (hs3 : s.heap.get? sysModules = some ob) (hs4 : ob.cls ≠ .type "list")
    (F : ∀ base : Heap, G.K.In base → base.Ns mainGlobals G.mg → FnG P w G.K G.mg base k fa fd [x] (SpI G run 1)) (hbind : ∀ (t : Shared) (u : Value), BindsTo t fd ⟨[u], []⟩ [(x, u)])
    (hrun : ∃ h', run [.ref 0] [.fl (ns.map .int)] = rt (.bl true) h') :
    codeAny (model P w) callerA (.call (.ref fa) ⟨[.ref a], []⟩) (fun r t => r = .ok (.ret (.bool true)) ∧ OldK s.heap t.heap ∧ t.os = s.os ∧ AllBare t.gens) s := by
  have rv := vals_ints hi
  have hasys : a ≠ sysModules := fun e => by
    subst e
    rw [hs3] at ha
    cases ha
    exact hs4 rfl
  have hKa : G.K.lookup a = none := by
    cases q : G.K.lookup a with
    | none => rfl
    | some o =>
      have e := KX a o q
      rw [ha] at e; cases e
      have m := List.all_eq_true.mp hs2 _ (He.lookup_mem q)
      cases m
  generalize hH : (fun b => if b = a then some (HO.frz { cls := .type "list", data := .seq vs.toArray } (.lst (ns.map V.int))) else if b = sysModules then some (HO.frz ob (.own sysModules)) else none : Hp) = H
  have Ha : H a = some (HO.frz { cls := .type "list", data := .seq vs.toArray } (.lst (ns.map V.int))) := by rw [← hH]; exact if_pos rfl
  have Hs : H sysModules = some (HO.frz ob (.own sysModules)) := by
    rw [← hH]
    show (if sysModules = a then _ else _) = _
    rw [if_neg (Ne.symm hasys), if_pos rfl]
  have Hn : ∀ {b : Addr}, b ≠ a → b ≠ sysModules → H b = none := fun {b} h1 h2 => by
    rw [← hH]
    show (if b = a then _ else _) = _
    rw [if_neg h1, if_neg h2]
  have hok : HOk P w H s.heap := fun b u z => by
    by_cases h1 : b = a
    · subst h1
      rw [Ha] at z
      cases z
      exact ⟨ha, by rw [List.length_map]; exact hl, vs, _, rv, ha⟩
    · by_cases h2 : b = sysModules
      · subst h2
        rw [Hs] at z
        cases z
        exact ⟨hs3, ob, hs3⟩
      · rw [Hn h1 h2] at z; cases z
  have base_of : ∀ {b : Addr} {o : Obj}, s.heap.get? b = some o → b ≠ a → b ≠ sysModules → (hidT s.heap H).get? b = some o := fun e h1 h2 => hidT_get e (Hn h1 h2)
  have nsK : ∀ {b : Addr} {m : Str → Option Value}, b ≠ sysModules → s.heap.Ns b m → (hidT s.heap H).Ns b m := fun {b m} h2 ⟨o, es, ep, e, d, r⟩ => ⟨o, es, ep, base_of e (fun z => by
    subst z
    rw [ha] at e; cases e
    have d' : Data.seq vs.toArray _ = Data.dict es ep := d
    cases d') h2, d, r⟩
  have hKb : G.K.In (hidT s.heap H) := fun b o e => base_of (KX b o e) (fun z => by subst z; rw [hKa] at e; cases e) fun z => by subst z; rw [hs1] at e; cases e
  have hM : Mod G.K G.mg (hidT s.heap H) := by
    obtain ⟨mc, h1, h2⟩ := hlim
    exact ⟨hKb, nsK (by decide) hns, ⟨mb, nsK (by decide) hb, hbb⟩, mc, nsK (by decide) h1, h2⟩
  have e0 : Env0 P w G.K G.mg (hidT s.heap H) callerA [] s H := ⟨rfl, hM, fun b o e => of_hidT e, Nat.le_of_eq (hidT_size _ _), trivial, fun b hb => (nomatch hb), hok, .of_eq hg⟩
  have RH0 : RH G H [a] [.fl (ns.map .int)] := by
    refine ⟨rfl, by simp, fun n o hn => ?_, ob, Hs⟩
    cases n with
    | zero =>
      cases hn
      refine ⟨a, _, rfl, Ha, ?_⟩
      refine ⟨ns.map V.int, _, rfl, ?_⟩
      clear hrun hi hl rv hok Ha hH
      induction ns with
      | nil => exact .nil
      | cons i ns ih => exact .cons (by simp only [RW]) ih
    | succ n => cases hn
  have hsp : SpI G run 1 [.ref a] H (fun v _ => v = .bl true) fun _ _ _ => False := by
    obtain ⟨h', hq⟩ := hrun
    refine ⟨rfl, [a], [.ref 0], _, .one (by simp only [RW]; exact ⟨a, rfl, rfl⟩), RH0, _, hq, fun μ' H' b e R' r => ?_⟩
    exact rw_bl r
  refine codeAny_mono ((F _ hKb (nsK (by decide) hns)).run hr e0 (us := [.ref a]) (vs := [.ref a]) (hbind s (.ref a)) (.cons rfl .nil) hsp) fun r t h => ?_
  match r, h with
  | .error e, ⟨_, _, _, _, _, _, _, _, _, _, _, _, z⟩ => exact z.elim
  | .ok .next, h => exact h.elim
  | .ok .brk, h => exact h.elim
  | .ok .cont, h => exact h.elim
  | .ok (.ret u), ⟨v, H', os, bare, un, hok', r', q⟩ =>
    subst q
    obtain rfl : u = Value.bool true := r'
    refine ⟨rfl, OldK.of_keep fun b o e => ?_, os, bare⟩
    have frz : ∀ {o' : Obj} {u : HO}, H b = some (.frz o' u) → t.heap.get? b = some o := fun {o' u} z => by
      obtain ⟨e1, _⟩ := hok b _ z
      obtain ⟨e2, _⟩ := hok' b _ (un.frzs b o' u z)
      rw [e] at e1; cases e1
      exact e2
    by_cases h1 : b = a
    · exact frz (by rw [h1]; exact Ha)
    · by_cases h2 : b = sysModules
      · exact frz (by rw [h2]; exact Hs)
      · exact un.keep b o e (Hn h1 h2) (fun z => (nomatch z)) (fun z => (nomatch z))
end Mi
set_option Elab.async false
set_option linter.all false
set_option maxRecDepth 100000
set_option maxHeartbeats 4000000
/-! The top's facts. -/
namespace Mi
open PySem PySem.Spec PyProof.Rows L2
/-! ### the Hook -/
def frS (g : Addr → Option Obj) (as : List Addr) : PySem.W.Frag := (He.frG g as).filter fun q => !(q.1 == sysModules)
theorem frS_in {as : List Addr} {h : Heap} : (frS h.get? as).In h := fun a o e => He.frG_mem (List.mem_filter.mp (He.lookup_mem e)).1
theorem frS_sys {g : Addr → Option Obj} {as : List Addr} : (frS g as).lookup sysModules = none := by
  cases e : (frS g as).lookup sysModules with
  | none => rfl
  | some o =>
    have h2 := (List.mem_filter.mp (He.lookup_mem e)).2
    simp at h2
def sysB (g : Addr → Option Obj) : Bool := match g sysModules with
  | some ⟨.type c, _, _, _⟩ => !(c == "list")
  | _ => false
abbrev AlM : Type := He.AlT × Bool
def obsM (n : Nat) (fa : List He.Fa) (fn : List He.DefD) (ts : List He.Tab) (ex : PySem.W.Frag → Bool) (g : Addr → Option Obj) : AlM := (He.obsT fa fn ts (frS g (He.asD g n)), ex (frS g (He.asD g n)) && noLists (frS g (He.asD g n)) && sysB g)
structure SaysM (fa : List He.Fa) (fn : List He.DefD) (ts : List He.Tab) (ex : PySem.W.Frag → Bool) (w : World) (h : Heap) (K : PySem.W.Frag) : Prop where
  t : He.SaysT fa fn ts w K
  ex : ex K = true
  nl : noLists K = true
  out : K.lookup sysModules = none
  sy : ∃ ob, h.get? sysModules = some ob ∧ ob.cls ≠ .type "list"
def hookM (n : Nat) (fa : List He.Fa) (fn : List He.DefD) (ts : List He.Tab) (ex : PySem.W.Frag → Bool) : PySem.W.Hook where
  α := AlM
  obs := fun s => obsM n fa fn ts ex s.heap.get?
  val := fun w => (He.valT fn ts w, true)
  says := fun w h => ∃ K : PySem.W.Frag, K.In h ∧ SaysM fa fn ts ex w h K
  of := fun w s e => by
    have e1 : He.obsT fa fn ts (frS s.heap.get? (He.asD s.heap.get? n)) = He.valT fn ts w := congrArg (fun z : AlM => z.1) e
    have e2 : (ex (frS s.heap.get? (He.asD s.heap.get? n)) && noLists (frS s.heap.get? (He.asD s.heap.get? n)) && sysB s.heap.get?) = true := congrArg (fun z : AlM => z.2) e
    simp only [Bool.and_eq_true] at e2
    refine ⟨_, frS_in, e1, e2.1.1, e2.1.2, frS_sys, ?_⟩
    have e3 := e2.2
    unfold sysB at e3
    split at e3
    · rename_i c od dt sl q
      exact ⟨_, q, fun z => by
        have z' : Value.type c = Value.type "list" := z
        cases z'
        simp at e3⟩
    · cases e3
  keeps := fun _ _ _ ⟨K, hK, c⟩ k => ⟨K, PySem.W.Frag.In.keeps hK k, ⟨c.t, c.ex, c.nl, c.out, let ⟨ob, h1, h2⟩ := c.sy; ⟨ob, k _ _ h1, h2⟩⟩⟩
theorem obsM_eq {n : Nat} {fa : List He.Fa} {fn : List He.DefD} {ts : List He.Tab} {ex : PySem.W.Frag → Bool} {g : Addr → Option Obj} {s : Shared} (h : ∀ a, g a = s.heap.get? a) : obsM n fa fn ts ex g = (hookM n fa fn ts ex).obs s := by
  have e : g = s.heap.get? := funext h
  rw [e] <;> rfl
theorem lookN {α : Type} {x : Nat} {v : α} : ∀ {l : List (Nat × α)}, l.lookup x = some v → (x, v) ∈ l
  | [], h => by cases h
  | (y, u) :: r, h => by
    rw [List.lookup_cons] at h
    split at h
    · rename_i q
      cases h
      rw [eq_of_beq q]; exact List.mem_cons_self
    · exact List.mem_cons_of_mem _ (lookN h)
/-! ### a law's data -/
structure DD where
  d : He.DefD
  N : List Str
  ps : List Str
  m : MDef
structure Dat where
  dds : List DD
  names : List Str
  fields : List Str
  gl : List (Nat × W)
  cd : List (Nat × List (Str × W))
  dfl : List (Nat × Nat × List W)
  wf : Nat
def fieldN (l : List Str) (i : Nat) : Str := match l[i]? with
  | some s => s
  | none => ⟨(List.replicate (i + 1) 35).toArray⟩
theorem fieldN_inj {l : List Str} (nd : l.Nodup) (hn : (l.all fun s => !(s.cps.toList.head? == some 35)) = true) : ∀ i j, fieldN l i = fieldN l j → i = j := by
  have hh : ∀ {i : Nat} {s : Str}, l[i]? = some s → s.cps.toList.head? ≠ some 35 := fun {i s} h => by
    have := List.all_eq_true.mp hn s (List.mem_of_getElem? h)
    simpa using this
  intro i j e
  unfold fieldN at e
  split at e
  · rename_i s hs
    split at e
    · rename_i t ht
      subst e
      exact nodup_ix nd hs ht
    · subst e
      exact absurd (by simp [List.replicate_succ]) (hh hs)
  · rename_i hi
    split at e
    · rename_i t ht
      subst e
      exact absurd (by simp [List.replicate_succ]) (hh ht)
    · have := congrArg (fun s : Str => s.cps.size) e
      simpa using this
namespace Dat
variable (L : Dat)
def gn (i : Nat) : Str := L.names.getD i "?"
def reg : Reg := ⟨L.gn, fieldN L.fields⟩
def tab : Tab := { defs := fun f => (L.dds[f]?).map (·.m), excs := fun _ => none, wf := L.wf, glb := fun x => L.gl.lookup x, cdt := fun x => L.cd.lookup x, sub := fun _ _ => none, dfl := fun f => L.dfl.lookup f }
def fa : List He.Fa := (L.dds.map fun q => He.Fa.glo q.d.name) ++ (bltN.map He.Fa.free) ++ (L.cd.map fun p => He.Fa.glo (L.gn p.1))
def fn : List He.DefD := L.dds.map (·.d)
def ts : List He.Tab := L.cd.map fun p => (fun K => He.ga K (L.gn p.1), p.2.map (·.1))
def toDv : W → He.Dv
  | .str z => .str z
  | .int z => .int z
  | .bl z => .bl z
  | _ => .non
def flt : W → Bool
  | .str _ => true | .int _ => true | .bl _ => true | .non => true | _ => false
def glB (K : PySem.W.Frag) (L : Dat) (x : Nat) : W → Bool
  | .int i => (He.Fa.int (L.gn x) i).ok K
  | .str z => (He.Fa.str (L.gn x) z).ok K
  | .tup ws => (He.Fa.glo (L.gn x)).ok K && ws.all flt && He.tupB K (L.gn x) (ws.map toDv)
  | .nm y => decide (L.gn y = L.gn x) && (He.Fa.glo (L.gn x)).ok K
  | _ => false
def vB : W → Value → Bool
  | .str z, .str y _ => decide (y = z)
  | .int z, .int y _ => decide (y = z)
  | .bl z, .bool y => decide (y = z)
  | .non, .none => true
  | _, _ => false
def kdE : List DictEntry → List (Str × W) → Bool
  | [], [] => true
  | e :: es, (k, w) :: r => (match e.key with | .str y _ => decide (y = k) | _ => false) && vB w e.val && kdE es r
  | _, _ => false
def cdB (K : PySem.W.Frag) (L : Dat) (x : Nat) (kvs : List (Str × W)) : Bool := match K.lookup (He.ga K (L.gn x)) with
  | some ⟨_, _, .dict es _, _⟩ => kdE es.toList kvs
  | _ => false
def exB (K : PySem.W.Frag) : Bool := (L.gl.all fun p => glB K L p.1 p.2) && (L.cd.all fun p => cdB K L p.1 p.2)
end Dat
def fsB (N ps : List Str) (sc : Scope) : Bool := (match sc.kind with | .function => true | _ => false) && !sc.isCoroutine && !sc.isGenerator && decide N.Nodup && decide (N.take ps.length = ps) && (ps.all fun x => match sc.names.lookup x with | some .local => true | some .cell => true | _ => false) &&
  (sc.names.all fun y => match y.2 with | .free => false | _ => true)
theorem fsB_ok {N ps : List Str} {sc : Scope} (h : fsB N ps sc = true) : FnScope N ps sc := by
  unfold fsB at h
  simp only [Bool.and_eq_true, Bool.not_eq_true', decide_eq_true_eq, List.all_eq_true] at h
  obtain ⟨⟨⟨⟨⟨⟨h1, h2⟩, h3⟩, h4⟩, h5⟩, h6⟩, h7⟩ := h
  refine ⟨?_, h2, h3, h4, h5, fun x hx => ?_, fun y hy e => ?_⟩
  · split at h1
    · assumption
    · cases h1
  · have q := h6 x hx
    split at q
    · exact .inl (by assumption)
    · exact .inr (by assumption)
    · cases q
  · have q := h7 y hy
    rw [e] at q
    cases q
def DD.ok (R : Reg) (q : DD) : Bool := fsB q.N q.ps q.d.scope && (q.N.length == q.m.ns) && (q.ps.length == q.m.np) && Nat.ble q.m.np q.m.ns && ckLs (ckS R q.N 60 q.d.scope fun _ => true) q.d.body q.m.body
def Dat.ok (L : Dat) : Bool := (L.dds.all fun q => q.ok L.reg) && decide (L.dds.map (·.d.name) = L.names.take L.dds.length) && (L.dds.all fun q => decide (q.d.at_ = (q.d.name, none))) && decide L.fields.Nodup && (L.fields.all fun s => !(s.cps.toList.head? == some 35)) &&
  (L.dfl.all fun p => decide (L.gn p.1 = L.gn p.2.1))
def gxOf (L : Dat) (K : PySem.W.Frag) (w : World) (mg : Str → Option Value) : Gx := ⟨K, w, mg, L.gn, fieldN L.fields, fun _ => .none, none⟩
theorem vB_ok {w : Mi.W} {u : Value} (h : Dat.vB w u = true) : ∃ v, RelV v u ∧ ∀ (G : Gx) H μ, RW G H μ w v := by
  unfold Dat.vB at h
  split at h
  · simp at h; subst h; exact ⟨.str _, ⟨_, rfl⟩, fun G H μ => by simp only [RW]⟩
  · simp at h; subst h; exact ⟨.int _, ⟨_, rfl⟩, fun G H μ => by simp only [RW]⟩
  · simp at h; subst h; exact ⟨.bl _, rfl, fun G H μ => by simp only [RW]⟩
  · exact ⟨.non, rfl, fun G H μ => by simp only [RW]⟩
  · cases h
theorem kdE_ok {z : Str} {G : Gx} : ∀ {es : List DictEntry} {kvs : List (Str × Mi.W)}, Dat.kdE es kvs = true → (es.any (·.refKey)) = false ∧ match kvGet kvs z, es.find? (·.key.isStr z) with
    | some w, some e => ∃ v, RelV v e.val ∧ ∀ H μ, RW G H μ w v
    | none, none => True
    | _, _ => False
  | [], [], _ => ⟨rfl, trivial⟩
  | [], _ :: _, h => by cases h
  | _ :: _, [], h => by cases h
  | e :: es, (k, w) :: r, h => by
    simp only [Dat.kdE, Bool.and_eq_true] at h
    obtain ⟨⟨h1, h2⟩, h3⟩ := h
    obtain ⟨i1, i2⟩ := kdE_ok (z := z) (G := G) h3
    obtain ⟨hs, ky, vl⟩ := e
    cases ky <;> simp only [Bool.false_eq_true, decide_eq_true_eq] at h1
    subst h1
    rename_i y tk
    refine ⟨?_, ?_⟩
    · simp only [List.any_cons, i1, Bool.or_false]
      rfl
    · rw [List.find?_cons]
      unfold kvGet
      by_cases hz : y = z
      · subst hz
        rw [if_pos rfl]
        have : (Value.str y tk).isStr y = true := by simp [Value.isStr]
        simp only [this]
        obtain ⟨v, r1, r2⟩ := vB_ok h2
        exact ⟨v, r1, r2 G⟩
      · rw [if_neg hz]
        have : (Value.str y tk).isStr z = false := by simp [Value.isStr, hz]
        simp only [this]
        exact i2
section
variable {L : Dat} {K : PySem.W.Frag} {w : World} {mg : Str → Option Value} {h : Heap}
theorem flt_rel {ws : List Mi.W} (hf : (ws.all Dat.flt) = true) (G : Gx) (H : Hp) (μ : List Addr) : RWs G H μ ws ((ws.map Dat.toDv).map (He.Dv.v K)) := by
  induction ws with
  | nil => exact .nil
  | cons x ws ih =>
    simp only [List.all_cons, Bool.and_eq_true] at hf
    refine .cons ?_ (ih hf.2)
    cases x <;> simp only [Dat.flt, Bool.false_eq_true] at hf <;> simp [Dat.toDv, He.Dv.v, RW] at hf ⊢
theorem tab_ok (hL : L.ok = true) (X : K.In h) (Ns : h.Ns mainGlobals mg) (c : SaysM L.fa L.fn L.ts L.exB w h K)
    (hb : ∀ q ∈ L.dds, ∀ fa fd, FunD K q.d.name q.d.qual q.d.params q.d.body q.d.scope (q.d.dvs K) (q.d.kws K) fa fd → Binds K fd q.ps [])
    (hdf : ∀ p ∈ L.dfl, ∃ q, L.dds[p.2.1]? = some q ∧ ∀ fa fd, FunD K q.d.name q.d.qual q.d.params q.d.body q.d.scope (q.d.dvs K) (q.d.kws K) fa fd → ∃ us vs, Binds K fd q.ps us ∧ Vals vs us ∧ ∀ H μ, RWs (gxOf L K w mg) H μ p.2.2 vs) :
    TabOk (gxOf L K w mg) L.tab L.reg := by
  unfold Dat.ok at hL
  simp only [Bool.and_eq_true, decide_eq_true_eq] at hL
  obtain ⟨⟨⟨⟨⟨h1, h2⟩, h3⟩, h4⟩, h5⟩, h6⟩ := hL
  have fact : ∀ f ∈ L.fa, He.Fa.ok K f = true := fun f hf => c.t.d.facts hf
  have nm : ∀ {f : Nat} {q : DD}, L.dds[f]? = some q → L.gn f = q.d.name := fun {f q} hq => by
    have hlt := (List.getElem?_eq_some_iff.mp hq).1
    have e : (L.names.take L.dds.length)[f]? = some q.d.name := by rw [← h2, List.getElem?_map, hq]; rfl
    rw [List.getElem?_take_of_lt hlt] at e
    unfold Dat.gn
    rw [List.getD_eq_getElem?_getD, e]; rfl
  have defat : ∀ {f : Nat} {q : DD}, L.dds[f]? = some q → ∃ fa fd, DefAt (gxOf L K w mg) L.reg f q.m fa fd q.ps ∧ FunD K q.d.name q.d.qual q.d.params q.d.body q.d.scope (q.d.dvs K) (q.d.kws K) fa fd := fun {f q} hq => by
    have hm := List.mem_of_getElem? hq
    have hat : q.d.at_ = (q.d.name, none) := by
      have := List.all_eq_true.mp h3 q hm
      simpa using this
    obtain ⟨fd, F⟩ := c.t.d.defs (d := q.d) (List.mem_map.mpr ⟨q, hm, rfl⟩)
    have hok := List.all_eq_true.mp h1 q hm
    unfold DD.ok at hok
    simp only [Bool.and_eq_true] at hok
    obtain ⟨⟨⟨⟨k1, k2⟩, k3⟩, k4⟩, k5⟩ := hok
    have hga : He.fAd K q.d.at_ = He.ga K q.d.name := by rw [hat]; rfl
    have g := He.glo_ok X Ns (fact (.glo q.d.name) (by unfold Dat.fa; simp only [List.mem_append, List.mem_map]; exact .inl (.inl ⟨q, hm, rfl⟩)))
    refine ⟨_, fd, ⟨?_, F.kp, by simpa using k3, hb q hm _ fd F, ⟨_, _, _, _, _, _, _, q.N, 60, F, fsB_ok k1, by simpa using k2, Nat.le_of_ble_eq_true k4, k5⟩⟩, F⟩
    show mg (L.gn f) = _
    rw [nm hq, g, hga]
  refine ⟨⟨rfl, rfl, fieldN_inj h4 h5⟩, rfl, fun f d hd => ?_, fun f g ds hd => ?_, fun x kvs hx => ?_, fun x wv hx => ?_, fun n hn => ?_⟩
  · obtain ⟨q, hq, e⟩ := Option.map_eq_some_iff.mp hd
    subst e
    obtain ⟨fa, fd, D, _⟩ := defat hq
    exact ⟨fa, fd, q.ps, D⟩
  · have hp : (f, g, ds) ∈ L.dfl := lookN hd
    have e1 := List.all_eq_true.mp h6 _ hp
    obtain ⟨q, hq, z⟩ := hdf _ hp
    obtain ⟨fa, fd, D, F⟩ := defat hq
    obtain ⟨us, vs, b1, b2, b3⟩ := z fa fd F
    exact ⟨of_decide_eq_true e1, q.m, fa, fd, q.ps, us, vs, by show (L.dds[g]?).map _ = _; rw [hq]; rfl, D, b1, b2, b3⟩
  · have hp : (x, kvs) ∈ L.cd := lookN hx
    have g := He.glo_ok X Ns (fact (.glo (L.gn x)) (by unfold Dat.fa; simp only [List.mem_append, List.mem_map]; exact .inr ⟨_, hp, rfl⟩))
    obtain ⟨i, hi, e⟩ := List.mem_iff_getElem.mp hp
    obtain ⟨es, n, D⟩ := c.t.tab i (t := (fun K => He.ga K (L.gn x), kvs.map (·.1))) (by unfold Dat.ts; rw [List.getElem?_map, List.getElem?_eq_getElem hi, e]; rfl)
    have ex := c.ex
    unfold Dat.exB at ex
    simp only [Bool.and_eq_true] at ex
    have cb := List.all_eq_true.mp ex.2 _ hp
    have hlk := D.at_
    simp only [Dat.cdB, hlk] at cb
    refine ⟨He.ga K (L.gn x), es, n, g, D, fun z => ?_⟩
    obtain ⟨q1, q2⟩ := kdE_ok (z := z) (G := gxOf L K w mg) cb
    cases hf : es.toList.find? (·.key.isStr z) with
    | none =>
      rw [hf] at q2
      refine ⟨none, by show PySem.W.nsIn K (He.ga K (L.gn x)) z = _; unfold PySem.W.nsIn; rw [hlk]; dsimp only; rw [hf, q1]; rfl, ?_⟩
      cases hk : kvGet kvs z with
      | none => trivial
      | some w => rw [hk] at q2; exact q2
    | some e =>
      rw [hf] at q2
      refine ⟨some e.val, by show PySem.W.nsIn K (He.ga K (L.gn x)) z = _; unfold PySem.W.nsIn; rw [hlk]; dsimp only; rw [hf], ?_⟩
      cases hk : kvGet kvs z with
      | none => rw [hk] at q2; exact q2
      | some w => rw [hk] at q2; exact q2
  · have hp : (x, wv) ∈ L.gl := lookN hx
    have ex := c.ex
    unfold Dat.exB at ex
    simp only [Bool.and_eq_true] at ex
    have gb := List.all_eq_true.mp ex.1 _ hp
    show ∃ u v, mg (L.gn x) = some u ∧ RelV v u ∧ _
    cases wv with
    | int i =>
      obtain ⟨t, e⟩ := He.int_ok X Ns gb
      exact ⟨_, .int i, e, ⟨_, rfl⟩, fun H μ => by simp only [RW]⟩
    | str i =>
      obtain ⟨t, e⟩ := He.str_ok X Ns gb
      exact ⟨_, .str i, e, ⟨_, rfl⟩, fun H μ => by simp only [RW]⟩
    | tup ws =>
      simp only [Dat.glB, Bool.and_eq_true] at gb
      refine ⟨_, .ref (He.ga K (L.gn x)), He.glo_ok X Ns gb.1.1, rfl, fun H μ => ?_⟩
      simp only [RW]
      exact ⟨_, _, rfl, He.tupB_ok gb.2 H, flt_rel gb.1.2 _ H μ⟩
    | nm y =>
      simp only [Dat.glB, Bool.and_eq_true, decide_eq_true_eq] at gb
      refine ⟨_, .ref (He.ga K (L.gn x)), He.glo_ok X Ns gb.2, rfl, fun H μ => ?_⟩
      simp only [RW]
      exact ⟨_, by show mg (L.gn y) = _; rw [gb.1]; exact He.glo_ok X Ns gb.2, rfl⟩
    | non => cases gb
    | bl _ => cases gb
    | ref _ => cases gb
  · exact He.free_ok X Ns (fact (.free n) (by unfold Dat.fa; simp only [List.mem_append, List.mem_map]; exact .inl (.inr ⟨n, hn, rfl⟩)))
end
end Mi
set_option Elab.async false
set_option linter.all false
set_option maxRecDepth 100000
set_option maxHeartbeats 4000000
/-! A law from its run by the interpreter. -/
namespace Mi
open PySem PySem.Spec PyProof.Rows L2
theorem walkG {l : PySem.W.OpenLaw} {n k nn fi : Nat} {q : Program} {loose : List Str} {XP : (Str → Option Value) → Heap → Prop} {L : Dat} {d : DefRec} {x : Str} {dd : DD}
    (hn : l.most = some n) (hn2 : n ≤ sizeLine) (hdf : d.params.defaults = []) (hr : RoomG k callerA) (hL : L.ok = true) (hfi : L.dds[fi]? = some dd) (hd : dd.d.name = d.name) (hps : dd.ps = [x])
    (hb : ∀ (K : PySem.W.Frag), ∀ q ∈ L.dds, ∀ fa fd, FunD K q.d.name q.d.qual q.d.params q.d.body q.d.scope (q.d.dvs K) (q.d.kws K) fa fd → Binds K fd q.ps [])
    (hdfl : ∀ (K : PySem.W.Frag) (w : World) (mg : Str → Option Value), ∀ p ∈ L.dfl, ∃ q, L.dds[p.2.1]? = some q ∧ ∀ fa fd, FunD K q.d.name q.d.qual q.d.params q.d.body q.d.scope (q.d.dvs K) (q.d.kws K) fa fd → ∃ us vs, Binds K fd q.ps us ∧ Vals vs us ∧ ∀ H μ, RWs (gxOf L K w mg) H μ p.2.2 vs)
    (hb1 : ∀ (K : PySem.W.Frag) (fa : Addr) (fd : FuncData), FunD K dd.d.name dd.d.qual dd.d.params dd.d.body dd.d.scope (dd.d.dvs K) (dd.d.kws K) fa fd → ∀ (s : Shared) (u : Value), BindsTo s fd ⟨[u], []⟩ [(x, u)])
    (hrun : ∀ ns : List Int, ns.length ≤ n → ∃ h', run L.tab k fi [.ref 0] [.fl (ns.map .int)] = rt (.bl true) h') :
    PySem.W.WalkO q loose XP (hookM nn L.fa L.fn L.ts L.exB).says l.row.toRowW d [] (fun f vs => PySem.call f vs) := by
  refine Att.attach_call hn hdf fun w s0 s1 mg mb fa o pm cd doc a vs ns T Y ho hcode hcd hmg hobj hints hlen hg => ?_
  obtain ⟨K, KX, c⟩ := Y
  have O := tab_ok (L := L) hL KX T.T.g c (hb K) (hdfl K w mg)
  have hdd : L.tab.defs fi = some dd.m := by show (L.dds[fi]?).map _ = _; rw [hfi]; rfl
  have hm := List.mem_of_getElem? hfi
  obtain ⟨fd, F⟩ := c.t.d.defs (d := dd.d) (List.mem_map.mpr ⟨dd, hm, rfl⟩)
  have hL' := hL
  unfold Dat.ok at hL'
  simp only [Bool.and_eq_true, decide_eq_true_eq] at hL'
  obtain ⟨⟨⟨⟨⟨h1, h2⟩, h3⟩, h4⟩, h5⟩, h6⟩ := hL'
  have hat : dd.d.at_ = (dd.d.name, none) := by
    have := List.all_eq_true.mp h3 dd hm
    simpa using this
  have hok := List.all_eq_true.mp h1 dd hm
  unfold DD.ok at hok
  simp only [Bool.and_eq_true] at hok
  obtain ⟨⟨⟨⟨k1, k2⟩, k3⟩, k4⟩, k5⟩ := hok
  have hga : He.fAd K dd.d.at_ = He.ga K dd.d.name := by rw [hat]; rfl
  have g := He.glo_ok KX T.T.g (c.t.d.facts (f := .glo dd.d.name) (by unfold Dat.fa; simp only [List.mem_append, List.mem_map]; exact .inl (.inl ⟨dd, hm, rfl⟩)))
  have hfa : He.fAd K dd.d.at_ = fa := by
    rw [hga]
    rw [hd, hmg] at g
    injection g with g
    injection g with g
    exact (hd ▸ g).symm
  rw [hfa] at F
  have hgn : L.gn fi = dd.d.name := by
    have hlt := (List.getElem?_eq_some_iff.mp hfi).1
    have e : (L.names.take L.dds.length)[fi]? = some dd.d.name := by rw [← h2, List.getElem?_map, hfi]; rfl
    rw [List.getElem?_take_of_lt hlt] at e
    unfold Dat.gn
    rw [List.getD_eq_getElem?_getD, e]; rfl
  have D : DefAt (gxOf L K w mg) L.reg fi dd.m fa fd dd.ps := by
    refine ⟨?_, F.kp, by simpa using k3, hb K dd hm fa fd F, ⟨_, _, _, _, _, _, _, dd.N, 60, F, fsB_ok k1, by simpa using k2, Nat.le_of_ble_eq_true k4, k5⟩⟩
    show mg (L.gn fi) = _
    rw [hgn, hd]; exact hmg
  obtain ⟨ob, hs3, hs4⟩ := c.sy
  refine enterG (G := gxOf L K w mg) (run := run L.tab k fi) (x := x) KX T.T.g T.T.b T.T.builtins T.T.nolimit hg hobj hints (Nat.le_trans hlen hn2) hr c.out c.nl hs3 hs4 (fun base _ _ => ?_) (hb1 K fa fd F) (hrun ns hlen)
  have q := defs_ok (P := l.prog) (base := base) O k fi dd.m fa fd dd.ps hdd D
  rw [hps] at q
  exact q
theorem roomG : RoomG 200 callerA := ⟨⟨rfl, by decide, by decide⟩, rfl⟩
end Mi
set_option Elab.async false
set_option linter.all false
set_option maxRecDepth 100000
set_option maxHeartbeats 4000000
/-! Plain lemmas about the interpreter's loops and data. -/
namespace Mi
open PySem PySem.Spec PyProof.Rows L2
@[simp] theorem endOf_rt (w : W) (h : MH) : endOf (some (.rt w h)) = rt w h := rfl
@[simp] theorem endOf_nx (ρ : Lo) (h : MH) : endOf (some (.nx ρ h)) = rt .non h := rfl
theorem tru_bl (b : Bool) (h : MH) : truW (.bl b) h = some b := rfl
theorem tru_int (b : Int) (h : MH) : truW (.int b) h = some (b != 0) := rfl
def bodyF (C : Cfg) (K : Nat → Option (List Nat)) (body : MSs) (ρ : Lo) (h : MH) : Sm := exs C K body ρ h
theorem ex_for (C : Cfg) (K : Nat → Option (List Nat)) (tg : MG) (it : MI) (body : MSs) (ρ : Lo) (h : MH) : ex C K (.for_ tg it body) ρ h = if C.calm = true then sE ρ (evi C it ρ h) fun s h1 => forLp tg (bodyF C K body) s (s.len h1 + 1) 0 ρ h1 else none := by
  simp only [ex]
  rfl
/-! ### loops -/
theorem cmpLp_inv {F : W → MH → Mo (Option W)} {n : Nat} {s : Src} (items : List W) (P : Nat → MH → Prop) (hs : ∀ i h, i ≤ items.length → P i h → s.item h i = some items[i]?)
    (step : ∀ i w h, items[i]? = some w → P i h → ∃ r h1, F w h = rt r h1 ∧ (match r with
      | none => P (i + 1) h1
      | some y => ∃ acc, h1[n]? = some (.lst acc) ∧ acc.length < sizeLine ∧ P (i + 1) (h1.set n (.lst (acc ++ [y]))))) :
    ∀ (m i : Nat) (h : MH), m = items.length - i → i ≤ items.length → P i h → ∃ h', cmpLp F n s (m + 1) i h = rt () h' ∧ P items.length h' := by
  intro m
  induction m with
  | zero =>
    intro i h hm hi p
    have e : i = items.length := by omega
    subst e
    have hn : items[items.length]? = none := List.getElem?_eq_none (Nat.le_refl _)
    refine ⟨h, ?_, p⟩
    simp only [cmpLp, hs _ h (Nat.le_refl _) p, hn]
  | succ m ih =>
    intro i h hm hi p
    have hlt : i < items.length := by omega
    obtain ⟨w, hw⟩ : ∃ w, items[i]? = some w := ⟨_, List.getElem?_eq_getElem hlt⟩
    obtain ⟨r, h1, e1, q⟩ := step i w h hw p
    rw [cmpLp]
    simp only [hs i h hi p, hw, e1, bd_rt]
    cases r with
    | none =>
      exact ih (i + 1) h1 (by omega) (by omega) q
    | some y =>
      obtain ⟨acc, g1, g2, g3⟩ := q
      simp only [g1, if_pos g2]
      exact ih (i + 1) _ (by omega) (by omega) g3
theorem forLp_inv {tg : MG} {f : Lo → MH → Sm} {s : Src} (items : List W) (P : Nat → Lo → MH → Prop) (Rr : W → MH → Prop) (hs : ∀ i ρ h, i ≤ items.length → P i ρ h → s.item h i = some items[i]?)
    (step : ∀ i w ρ h, items[i]? = some w → P i ρ h → ∃ ρ1, tgW tg w ρ h = some ρ1 ∧ ((∃ ρ2 h2, (f ρ1 h = some (.nx ρ2 h2) ∨ f ρ1 h = some (.ct ρ2 h2)) ∧ P (i + 1) ρ2 h2) ∨ ∃ w' h2, f ρ1 h = some (.rt w' h2) ∧ Rr w' h2)) :
    ∀ (m i : Nat) (ρ : Lo) (h : MH), m = items.length - i → i ≤ items.length → P i ρ h → (∃ ρ' h', forLp tg f s (m + 1) i ρ h = some (.nx ρ' h') ∧ P items.length ρ' h') ∨ ∃ w' h', forLp tg f s (m + 1) i ρ h = some (.rt w' h') ∧ Rr w' h' := by
  intro m
  induction m with
  | zero =>
    intro i ρ h hm hi p
    have e : i = items.length := by omega
    subst e
    have hn : items[items.length]? = none := List.getElem?_eq_none (Nat.le_refl _)
    refine .inl ⟨ρ, h, ?_, p⟩
    simp only [forLp, hs _ ρ h (Nat.le_refl _) p, hn]
  | succ m ih =>
    intro i ρ h hm hi p
    have hlt : i < items.length := by omega
    obtain ⟨w, hw⟩ : ∃ w, items[i]? = some w := ⟨_, List.getElem?_eq_getElem hlt⟩
    obtain ⟨ρ1, e1, q⟩ := step i w ρ h hw p
    rw [forLp]
    simp only [hs i ρ h hi p, hw, e1]
    rcases q with ⟨ρ2, h2, e2, q⟩ | ⟨w', h2, e2, q⟩
    · rcases e2 with e2 | e2 <;> (simp only [e2]; exact ih (i + 1) ρ2 h2 (by omega) (by omega) q)
    · simp only [e2]
      exact .inr ⟨w', h2, rfl, q⟩
/-- a comprehension of things that only lay more down -/
theorem cmpLp_map {F : W → MH → Mo (Option W)} {s : Src} (h0 : MH) (items : List W) (f : W → Option W) (hz : items.length ≤ sizeLine) (hs : ∀ acc t i, s.item (h0 ++ O.lst acc :: t) i = some items[i]?)
    (hF : ∀ w ∈ items, ∀ acc t, ∃ t', F w (h0 ++ O.lst acc :: t) = rt (f w) (h0 ++ O.lst acc :: (t ++ t'))) : ∃ t, cmpLp F h0.length s (items.length + 1) 0 (h0 ++ [.lst []]) = rt () (h0 ++ O.lst (items.filterMap f) :: t) := by
  have key := cmpLp_inv (F := F) (n := h0.length) (s := s) items (fun i h => ∃ t, h = h0 ++ O.lst ((items.take i).filterMap f) :: t) (fun i h hi ⟨t, e⟩ => by rw [e]; exact hs _ t i) (fun i w h hw ⟨t, e⟩ => by
    obtain ⟨t', e1⟩ := hF w (List.mem_of_getElem? hw) ((items.take i).filterMap f) t
    have hlt := (List.getElem?_eq_some_iff.mp hw).1
    have ht : items.take (i + 1) = items.take i ++ [w] := by
      rw [List.take_succ, hw]; rfl
    subst e
    refine ⟨f w, _, e1, ?_⟩
    cases hf : f w with
    | none =>
      refine ⟨t ++ t', ?_⟩
      rw [ht, List.filterMap_append]
      simp [hf]
    | some y =>
      refine ⟨(items.take i).filterMap f, by simp, ?_, t ++ t', ?_⟩
      · have := List.length_filterMap_le f (items.take i)
        simp only [List.length_take] at this
        omega
      · rw [ht, List.filterMap_append]
        simp [hf]) items.length 0 (h0 ++ [.lst []]) (by omega) (Nat.zero_le _) ⟨[], by simp⟩
  obtain ⟨h', e1, t, e2⟩ := key
  rw [List.take_length] at e2
  subst e2
  exact ⟨t, e1⟩
/-- the same by what the items come of -/
theorem cmpLp_opt {α : Type} {F : W → MH → Mo (Option W)} {s : Src} (h0 : MH) (l : List α) (g : α → W) (f : α → Option W) (hz : l.length ≤ sizeLine) (hs : ∀ acc t i, i ≤ l.length → s.item (h0 ++ O.lst acc :: t) i = some (l.map g)[i]?)
    (hF : ∀ a ∈ l, ∀ acc t, ∃ t', F (g a) (h0 ++ O.lst acc :: t) = rt (f a) (h0 ++ O.lst acc :: (t ++ t'))) : ∃ t, cmpLp F h0.length s (l.length + 1) 0 (h0 ++ [.lst []]) = rt () (h0 ++ O.lst (l.filterMap f) :: t) := by
  have key := cmpLp_inv (F := F) (n := h0.length) (s := s) (l.map g) (fun i h => ∃ t, h = h0 ++ O.lst ((l.take i).filterMap f) :: t) (fun i h hi ⟨t, e⟩ => by rw [e]; exact hs _ t i (by simpa using hi)) (fun i w h hw ⟨t, e⟩ => by
    rw [List.getElem?_map, Option.map_eq_some_iff] at hw
    obtain ⟨a, hw, rfl⟩ := hw
    obtain ⟨t', e1⟩ := hF a (List.mem_of_getElem? hw) ((l.take i).filterMap f) t
    have hlt := (List.getElem?_eq_some_iff.mp hw).1
    have ht : l.take (i + 1) = l.take i ++ [a] := by
      rw [List.take_succ, hw]; rfl
    subst e
    refine ⟨f a, _, e1, ?_⟩
    cases hf : f a with
    | none =>
      refine ⟨t ++ t', ?_⟩
      rw [ht, List.filterMap_append]
      simp [hf]
    | some y =>
      refine ⟨(l.take i).filterMap f, by simp, ?_, t ++ t', ?_⟩
      · have := List.length_filterMap_le f (l.take i)
        simp only [List.length_take] at this
        omega
      · rw [ht, List.filterMap_append]
        simp [hf]) (l.map g).length 0 (h0 ++ [.lst []]) (by omega) (Nat.zero_le _) ⟨[], by simp⟩
  obtain ⟨h', e1, t, e2⟩ := key
  rw [List.length_map] at e1 e2
  rw [List.take_length] at e2
  subst e2
  exact ⟨t, e1⟩
theorem cmpLp_all {α : Type} {F : W → MH → Mo (Option W)} {s : Src} (h0 : MH) (l : List α) (g : α → W) (f : α → W) (hz : l.length ≤ sizeLine) (hs : ∀ acc t i, i ≤ l.length → s.item (h0 ++ O.lst acc :: t) i = some (l.map g)[i]?)
    (hF : ∀ a ∈ l, ∀ acc t, ∃ t', F (g a) (h0 ++ O.lst acc :: t) = rt (some (f a)) (h0 ++ O.lst acc :: (t ++ t'))) : ∃ t, cmpLp F h0.length s (l.length + 1) 0 (h0 ++ [.lst []]) = rt () (h0 ++ O.lst (l.map f) :: t) := by
  obtain ⟨t, e⟩ := cmpLp_opt (F := F) (s := s) h0 l g (fun a => some (f a)) hz hs hF
  rw [List.filterMap_eq_map'] at e
  exact ⟨t, e⟩
theorem cmpLp_flt {α : Type} {F : W → MH → Mo (Option W)} {s : Src} (h0 : MH) (l : List α) (g : α → W) (p : α → Bool) (hz : l.length ≤ sizeLine) (hs : ∀ acc t i, i ≤ l.length → s.item (h0 ++ O.lst acc :: t) i = some (l.map g)[i]?)
    (hF : ∀ a ∈ l, ∀ acc t, ∃ t', F (g a) (h0 ++ O.lst acc :: t) = rt (if p a = true then some (g a) else none) (h0 ++ O.lst acc :: (t ++ t'))) : ∃ t, cmpLp F h0.length s (l.length + 1) 0 (h0 ++ [.lst []]) = rt () (h0 ++ O.lst ((l.filter p).map g) :: t) := by
  obtain ⟨t, e⟩ := cmpLp_opt (F := F) (s := s) h0 l g (fun a => if p a = true then some (g a) else none) hz hs hF
  have : ∀ l : List α, l.filterMap (fun a => if p a = true then some (g a) else none) = (l.filter p).map g := by
    intro l
    induction l with
    | nil => rfl
    | cons a l ih => by_cases hp : p a = true <;> simp [List.filterMap_cons, List.filter_cons, hp, ih]
  rw [this] at e
  exact ⟨t, e⟩
/-! ### data -/
theorem mapM_got {α β : Type} {f : α → Option β} : ∀ {l : List α} {r : List β}, l.mapM f = some r → l.length = r.length ∧ ∀ (i : Nat) (x : α), l[i]? = some x → ∃ y, r[i]? = some y ∧ f x = some y
  | [], r, h => by
    simp at h
    subst h
    exact ⟨rfl, fun i x hx => by simp at hx⟩
  | a :: l, r, h => by
    simp only [List.mapM_cons, Option.bind_eq_bind, Option.bind_eq_some_iff, Option.pure_def, Option.some.injEq] at h
    obtain ⟨b, h1, bs, h2, rfl⟩ := h
    obtain ⟨i1, i2⟩ := mapM_got h2
    refine ⟨by simp [i1], fun i x hx => ?_⟩
    cases i with
    | zero => simp at hx; subst hx; exact ⟨b, rfl, h1⟩
    | succ i => simp at hx; simpa using i2 i x hx
theorem mapM_of {α β : Type} {f : α → Option β} {g : α → β} : ∀ {l : List α}, (∀ x ∈ l, f x = some (g x)) → l.mapM f = some (l.map g)
  | [], _ => by simp
  | a :: l, h => by
    have e := mapM_of (f := f) (g := g) (l := l) fun x hx => h x (List.mem_cons_of_mem _ hx)
    simp only [List.mapM_cons, h a List.mem_cons_self, e]
    rfl
theorem mapM_ex {α β : Type} {f : α → Option β} : ∀ {l : List α}, (∀ x ∈ l, ∃ y, f x = some y) → ∃ r, l.mapM f = some r
  | [], _ => ⟨[], by simp⟩
  | a :: l, h => by
    obtain ⟨y, hy⟩ := h a (by simp)
    obtain ⟨r, hr⟩ := mapM_ex (l := l) fun x hx => h x (by simp [hx])
    exact ⟨y :: r, by simp only [List.mapM_cons, hy, hr]; rfl⟩
theorem mapM_cg {α β : Type} {f g : α → Option β} : ∀ {l : List α} {r : List β}, l.mapM f = some r → (∀ x ∈ l, ∀ y, f x = some y → g x = some y) → l.mapM g = some r
  | [], r, h, _ => by simpa using h
  | a :: l, r, h, hg => by
    simp only [List.mapM_cons, Option.bind_eq_bind, Option.bind_eq_some_iff, Option.pure_def, Option.some.injEq] at h ⊢
    obtain ⟨b, h1, bs, h2, rfl⟩ := h
    exact ⟨b, hg a (by simp) b h1, bs, mapM_cg h2 fun x hx => hg x (by simp [hx]), rfl⟩
/-- lists and dicts that stay -/
def Le (h h' : MH) : Prop := ∀ (n : Nat) (o : O), h[n]? = some o → (∀ fs, o ≠ O.fl fs) → (∀ fs, o ≠ O.xd fs) → h'[n]? = some o
theorem Le.refl {h : MH} : Le h h := fun _ _ e _ _ => e
theorem Le.trans {a b c : MH} (x : Le a b) (y : Le b c) : Le a c := fun n o e h1 h2 => y n o (x n o e h1 h2) h1 h2
theorem Le.app (h t : MH) : Le h (h ++ t) := fun n o e _ _ => by
  rw [List.getElem?_append_left (List.getElem?_eq_some_iff.mp e).1]; exact e
theorem dat_mono {h h' : MH} (l : Le h h') : ∀ (n m : Nat) (w : W) (d : PyData), n ≤ m → dat n h w = some d → dat m h' w = some d := by
  intro n
  induction n with
  | zero => intro m w d _ e; simp [dat] at e
  | succ n ih =>
    intro m w d hm e
    obtain ⟨m, rfl⟩ : ∃ k, m = k + 1 := ⟨m - 1, by omega⟩
    have go : ∀ {xs : List W} {ds : List PyData}, xs.mapM (dat n h) = some ds → xs.mapM (dat m h') = some ds := fun {xs ds} q => mapM_cg q fun x _ y hy => ih m x y (by omega) hy
    cases w with
    | tup xs =>
      simp only [dat, Option.map_eq_some_iff] at e ⊢
      obtain ⟨ds, e1, e2⟩ := e
      exact ⟨ds, go e1, e2⟩
    | ref k =>
      simp only [dat] at e ⊢
      split at e
      · rename_i xs hk
        rw [l k _ hk (by intro _ z; cases z) (by intro _ z; cases z)]
        simp only [Option.map_eq_some_iff] at e ⊢
        obtain ⟨ds, e1, e2⟩ := e
        exact ⟨ds, go e1, e2⟩
      · rename_i kvs hk
        rw [l k _ hk (by intro _ z; cases z) (by intro _ z; cases z)]
        simp only [Option.map_eq_some_iff] at e ⊢
        obtain ⟨ds, e1, e2⟩ := e
        exact ⟨ds, go e1, e2⟩
      · cases e
    | _ => simpa [dat] using e
/-! ### what is small -/
def okI (i : Int) : Bool := decide (-(10 ^ 30) < i) && decide (i < 10 ^ 30)
mutual
def okD : PyData → Bool
  | .none => true
  | .bool _ => true
  | .int i => okI i
  | .str s => decide (s.length ≤ 40) && s.cps.toList.all fun c => decide (c < 16 ^ 8)
  | .list xs => decide (xs.length ≤ 100) && okDs xs
  | .tuple xs => decide (xs.length ≤ 100) && okDs xs
  | .dict kvs => decide (kvs.length ≤ 100) && okKs kvs
def okDs : List PyData → Bool
  | [] => true
  | x :: xs => okD x && okDs xs
def okKs : List (PyData × PyData) → Bool
  | [] => true
  | (k, v) :: r => okD k && okD v && okKs r
end
theorem okDs_all : ∀ {xs : List PyData}, okDs xs = true ↔ ∀ x ∈ xs, okD x = true
  | [] => by simp [okDs]
  | x :: xs => by simp [okDs, okDs_all (xs := xs)]
mutual
theorem okD_show : ∀ d : PyData, okD d = true → d.showable = true
  | .none, _ => by simp [PyData.showable]
  | .bool _, _ => by simp [PyData.showable]
  | .int i, h => by
    simp only [okD, okI, Bool.and_eq_true, decide_eq_true_eq] at h
    simp only [PyData.showable, decide_eq_true_eq]
    have h1 : i.natAbs < 2 ^ 1920 := by
      have : i.natAbs < 10 ^ 40 := by omega
      exact Nat.lt_trans this (by decide +kernel)
    rcases Nat.eq_zero_or_pos i.natAbs with h0 | h0
    · rw [h0]; decide
    · exact (Nat.log2_lt (by omega)).mpr h1
  | .str _, _ => by simp [PyData.showable]
  | .list xs, h => by
    simp only [okD, Bool.and_eq_true] at h
    simp only [PyData.showable]
    exact okDs_show xs h.2
  | .tuple xs, h => by
    simp only [okD, Bool.and_eq_true] at h
    simp only [PyData.showable]
    exact okDs_show xs h.2
  | .dict kvs, h => by
    simp only [okD, Bool.and_eq_true] at h
    simp only [PyData.showable]
    exact okKs_show kvs h.2
theorem okDs_show : ∀ xs : List PyData, okDs xs = true → PyData.showableAll xs = true
  | [], _ => by simp [PyData.showableAll]
  | x :: xs, h => by
    simp only [okDs, Bool.and_eq_true] at h
    simp only [PyData.showableAll, Bool.and_eq_true]
    exact ⟨okD_show x h.1, okDs_show xs h.2⟩
theorem okKs_show : ∀ xs : List (PyData × PyData), okKs xs = true → PyData.showableKv xs = true
  | [], _ => by simp [PyData.showableKv]
  | (k, v) :: xs, h => by
    simp only [okKs, Bool.and_eq_true] at h
    simp only [PyData.showableKv, Bool.and_eq_true]
    exact ⟨⟨okD_show k h.1.1, okD_show v h.1.2⟩, okKs_show xs h.2⟩
end
def Gd (n : Nat) (h : MH) (w : W) : Prop := ∃ d, dat n h w = some d ∧ okD d = true
/-- a reference is a list or a dict; a text is short -/
def Vd (h : MH) : W → Prop
  | .ref n => (∃ xs, h[n]? = some (.lst xs)) ∨ ∃ kvs, h[n]? = some (.dct kvs)
  | .nm _ => False
  | .str s => s.length ≤ 40
  | .tup xs => xs.length ≤ 100
  | _ => True
theorem Gd.mono {n m : Nat} {h h' : MH} {w : W} (g : Gd n h w) (l : Le h h') (hm : n ≤ m) : Gd m h' w := let ⟨d, e, o⟩ := g; ⟨d, dat_mono l n m w d hm e, o⟩
theorem Gd.pos {n : Nat} {h : MH} {w : W} (g : Gd n h w) : ∃ m, n = m + 1 := by
  obtain ⟨d, e, o⟩ := g
  cases n with
  | zero => simp [dat] at e
  | succ n => exact ⟨n, rfl⟩
theorem Gd.tup {n : Nat} {h : MH} {xs : List W} (g : Gd (n + 1) h (.tup xs)) : xs.length ≤ 100 ∧ ∀ x ∈ xs, Gd n h x := by
  obtain ⟨d, e, o⟩ := g
  simp only [dat, Option.map_eq_some_iff] at e
  obtain ⟨ds, e, rfl⟩ := e
  simp only [okD, Bool.and_eq_true, decide_eq_true_eq] at o
  obtain ⟨hl, hi⟩ := mapM_got e
  refine ⟨by omega, fun x hx => ?_⟩
  obtain ⟨i, hi2, hx2⟩ := List.mem_iff_getElem.mp hx
  obtain ⟨y, hy, ey⟩ := hi i x (by rw [List.getElem?_eq_getElem hi2, hx2])
  exact ⟨y, ey, okDs_all.mp o.2 y (List.mem_of_getElem? hy)⟩
theorem Gd.vd {n : Nat} {h : MH} {w : W} (g : Gd n h w) : Vd h w := by
  obtain ⟨n, rfl⟩ := g.pos
  cases w with
  | tup xs => exact g.tup.1
  | str s =>
    obtain ⟨d, e, o⟩ := g
    simp only [dat, Option.some.injEq] at e
    subst e
    show s.length ≤ 40
    simp only [okD, Bool.and_eq_true, decide_eq_true_eq] at o
    exact o.1
  | ref m =>
    obtain ⟨d, e, o⟩ := g
    simp only [dat] at e
    split at e
    · rename_i xs hk; exact .inl ⟨xs, hk⟩
    · rename_i xs hk; exact .inr ⟨xs, hk⟩
    · cases e
  | nm x =>
    obtain ⟨d, e, o⟩ := g
    simp [dat] at e
  | _ => exact trivial
theorem cmp_eq_str {C : Cfg} {a b : Str} {h : MH} : cmpW C .eq (.str a) (.str b) h = some (decide (a = b)) := by
  simp [cmpW, eqE]
  by_cases e : a = b <;> simp [e]
theorem cmp_eq_int {C : Cfg} {a b : Int} {h : MH} : cmpW C .eq (.int a) (.int b) h = some (decide (a = b)) := by
  simp [cmpW, eqE, eqD, FU, dat, PyData.canLay0, PyData.eqv]
  by_cases e : a = b <;> simp [e]
theorem cmp_ne_str {C : Cfg} {a b : Str} {h : MH} : cmpW C .ne (.str a) (.str b) h = some (!decide (a = b)) := by
  simp [cmpW, eqE]
  by_cases e : a = b <;> simp [e]
theorem cmp_ne_int {C : Cfg} {a b : Int} {h : MH} : cmpW C .ne (.int a) (.int b) h = some (!decide (a = b)) := by
  simp [cmpW, eqE, eqD, FU, dat, PyData.canLay0, PyData.eqv]
  by_cases e : a = b <;> simp [e]
theorem cmp_lt_int {C : Cfg} {a b : Int} {h : MH} : cmpW C .lt (.int a) (.int b) h = some (decide (a < b)) := rfl
theorem cmp_le_int {C : Cfg} {a b : Int} {h : MH} : cmpW C .le (.int a) (.int b) h = some (decide (a ≤ b)) := rfl
theorem cmp_gt_int {C : Cfg} {a b : Int} {h : MH} : cmpW C .gt (.int a) (.int b) h = some (decide (b < a)) := rfl
theorem cmp_ge_int {C : Cfg} {a b : Int} {h : MH} : cmpW C .ge (.int a) (.int b) h = some (decide (b ≤ a)) := rfl
theorem cmp_le_str {C : Cfg} {a b : Str} {h : MH} : cmpW C .le (.str a) (.str b) h = some (!decide (b.cps.toList < a.cps.toList)) := rfl
theorem cmp_in {C : Cfg} {a b : W} {h : MH} : cmpW C .inn a b h = inW C a b h := rfl
theorem cmp_nin {C : Cfg} {a b : W} {h : MH} : cmpW C .nin a b h = (inW C a b h).map not := rfl
theorem in_nm {C : Cfg} {s : Str} {g : Nat} {h : MH} {kvs : List (Str × W)} (e : C.cdt g = some kvs) : inW C (.str s) (.nm g) h = some ((kvGet kvs s).isSome) := by
  simp only [inW, e]
theorem get_nm {C : Cfg} {s : Str} {g : Nat} {h : MH} {kvs : List (Str × W)} (e : C.cdt g = some kvs) : getW C (.nm g) (.str s) h = kvGet kvs s := by
  simp only [getW, e]
theorem get_tup {C : Cfg} {xs : List W} {i : Int} {h : MH} : getW C (.tup xs) (.int i) h = atI xs i := rfl
theorem get_lst {C : Cfg} {xs : List W} {i : Int} {h : MH} {n : Nat} (e : h[n]? = some (.lst xs)) : getW C (.ref n) (.int i) h = atI xs i := by
  simp only [getW, e]
theorem get_dct {C : Cfg} {kvs : List (Key × W)} {s : Str} {h : MH} {n : Nat} (e : h[n]? = some (.dct kvs)) : getW C (.ref n) (.str s) h = kvGet kvs (.inr s) := by
  simp only [getW, e, keyOf, Option.bind_some]
theorem len_tup {C : Cfg} {xs : List W} {h : MH} : bltW C .len [.tup xs] h = some (.int xs.length, h) := rfl
theorem len_str {C : Cfg} {s : Str} {h : MH} (e : s.length ≤ sizeLine) : bltW C .len [.str s] h = some (.int s.length, h) := by
  simp only [bltW, e, if_true]
theorem bin_add_int {a b : Int} {h : MH} : binW .add (.int a) (.int b) h = some (.int (a + b), h) := rfl
theorem bin_sub_int {a b : Int} {h : MH} : binW .sub (.int a) (.int b) h = some (.int (a - b), h) := rfl
theorem at_0 {α : Type} (x : α) (r : List α) : atI (x :: r) 0 = some x := by simp [atI, ixN]
theorem at_nat {α : Type} (l : List α) (i : Nat) (h : i < l.length) : atI l (i : Int) = l[i]? := by
  unfold atI ixN
  rw [if_pos (by omega), if_pos (by omega)]
  simp
theorem at_end0 (h t : MH) : (h ++ t)[h.length]? = t[0]? := by
  rw [List.getElem?_append_right (Nat.le_refl _), Nat.sub_self]
theorem at_end (h t : MH) (i : Nat) : (h ++ t)[h.length + i]? = t[i]? := by
  rw [List.getElem?_append_right (by omega)]; congr 1; omega
theorem set_end0 (h t : MH) (o : O) : (h ++ t).set h.length o = h ++ t.set 0 o := by
  rw [List.set_append_right _ _ (Nat.le_refl _), Nat.sub_self]
theorem set_end (h t : MH) (i : Nat) (o : O) : (h ++ t).set (h.length + i) o = h ++ t.set i o := by
  rw [List.set_append_right _ _ (by omega)]; congr 2; omega
theorem eq_lst_nil {C : Cfg} {h : MH} {m n : Nat} {xs : List W} (e1 : h[m]? = some (.lst xs)) (e2 : h[n]? = some (.lst [])) : cmpW C .eq (.ref m) (.ref n) h = some xs.isEmpty := by
  cases xs <;> simp [cmpW, eqE, e1, e2]
theorem eq_tup_nil {C : Cfg} {h : MH} {xs : List W} : cmpW C .eq (.tup xs) (.tup []) h = some xs.isEmpty := by
  cases xs <;> simp [cmpW, eqE]
theorem ne_tup_nil {C : Cfg} {h : MH} {xs : List W} : cmpW C .ne (.tup xs) (.tup []) h = some (!xs.isEmpty) := by
  cases xs <;> simp [cmpW, eqE]
theorem lt_one (c d : Nat) : (([c] : List Nat) < [d]) ↔ c < d := by
  simp [List.cons_lt_cons_iff]
theorem in_dct {C : Cfg} {kvs : List (Key × W)} {s : Str} {h : MH} {n : Nat} (e : h[n]? = some (.dct kvs)) : inW C (.str s) (.ref n) h = some ((kvGet kvs (.inr s)).isSome) := by
  simp only [inW, e, keyOf]
theorem kv_mem {κ ν : Type} [DecidableEq κ] {k : κ} {v : ν} : ∀ {l : List (κ × ν)}, kvGet l k = some v → (k, v) ∈ l
  | [], h => by cases h
  | (k', v') :: r, h => by
    unfold kvGet at h
    split at h
    · rename_i e
      cases h
      subst e
      exact List.mem_cons_self
    · exact List.mem_cons_of_mem _ (kv_mem h)
theorem cut_1 {α : Type} (x : α) (xs : List α) : cut (x :: xs) (some 1) none = xs := by
  unfold cut
  simp [HT.sIx]
end Mi
set_option Elab.async false
set_option linter.all false
set_option maxRecDepth 100000
set_option maxHeartbeats 4000000
/-! How long a thing's text is. -/
namespace Mi
open PySem PySem.Spec PyProof.Rows L2
mutual
def wtD : PyData → Nat
  | .none => 4
  | .bool _ => 5
  | .int _ => 32
  | .str _ => 402
  | .list xs => wtDs xs + 4
  | .tuple xs => wtDs xs + 4
  | .dict kvs => wtKs kvs + 4
def wtDs : List PyData → Nat
  | [] => 0
  | x :: xs => wtD x + 2 + wtDs xs
def wtKs : List (PyData × PyData) → Nat
  | [] => 0
  | (k, v) :: r => wtD k + wtD v + 4 + wtKs r
end
theorem from_le : ∀ (ts : List Str) (k : Nat) (acc : Str), (textFrom k acc ts).length ≤ acc.length + piled ts
  | [], k, acc => by rw [piled_nil]; exact Nat.le_refl _
  | t :: r, k, acc => by
    have ih := from_le r (k + 1) (acc ++ (if k > 0 then ", " else "" : String) ++ t)
    have e : (acc ++ (if k > 0 then ", " else "" : String) ++ t).length = acc.length + (if k > 0 then 2 else 0) + t.length := by
      rw [strLen_append, strLen_append]
      split <;> rfl
    rw [piled_cons]
    show (textFrom (k + 1) _ r).length ≤ _
    rw [e] at ih
    have : (if k > 0 then 2 else 0 : Nat) ≤ 2 := by split <;> omega
    omega
theorem join_le (ts : List Str) : (Str.join ", " ts).length ≤ piled ts := by
  by_cases h : ts = []
  · subst h; exact Nat.le_refl _
  · have := join_length_add ts h
    omega
theorem list_le (ts : List Str) : (listText ts).length ≤ piled ts + 2 := by
  unfold listText
  rw [strLen_append]
  have := from_le ts 0 "["
  have e1 : ("[" : Str).length = 1 := rfl
  have e2 : ("]" : Str).length = 1 := rfl
  omega
theorem tuple_le (ts : List Str) : (tupleText ts).length ≤ piled ts + 3 := by
  unfold tupleText
  rw [strLen_append, strLen_append]
  have := join_le ts
  have e1 : ("(" : Str).length = 1 := rfl
  have e2 : ((if ts.length == 1 then ",)" else ")" : String) : Str).length ≤ 2 := by split <;> decide
  omega
theorem dict_le (ts : List Str) : (dictText ts).length ≤ piled ts + 2 := by
  unfold dictText
  rw [strLen_append, strLen_append]
  have := join_le ts
  have e1 : ("{" : Str).length = 1 := rfl
  have e2 : ("}" : Str).length = 1 := rfl
  omega
mutual
theorem shown_le : ∀ d : PyData, okD d = true → d.shown.length ≤ wtD d
  | .none, _ => by simp only [PyData.shown, wtD]; decide
  | .bool b, _ => by cases b <;> (simp only [PyData.shown, wtD]; decide)
  | .int i, h => by
    simp only [okD, okI, Bool.and_eq_true, decide_eq_true_eq] at h
    simp only [PyData.shown, wtD]
    have h1 : i.natAbs < 10 ^ 30 := by omega
    have := int_text_length_le10 (a := i) (k := 30) (by decide) h1
    have e : (Str.ofString (toString i)).length = (toString i).length := PySem.ofString_length _
    have h2 : (Str.ofString (toString i)).length ≤ 32 := by omega
    exact h2
  | .str s, h => by
    simp only [okD, Bool.and_eq_true, decide_eq_true_eq, List.all_eq_true] at h
    simp only [PyData.shown, wtD]
    have := StrLaws.reprText_len s h.2
    omega
  | .list xs, h => by
    simp only [okD, Bool.and_eq_true] at h
    simp only [PyData.shown, wtD]
    have := shownAll_le xs h.2
    have := list_le (PyData.shownAll xs)
    omega
  | .tuple xs, h => by
    simp only [okD, Bool.and_eq_true] at h
    simp only [PyData.shown, wtD]
    have := shownAll_le xs h.2
    have := tuple_le (PyData.shownAll xs)
    omega
  | .dict kvs, h => by
    simp only [okD, Bool.and_eq_true] at h
    simp only [PyData.shown, wtD]
    have := shownKv_le kvs h.2
    have := dict_le (PyData.shownKv kvs)
    omega
theorem shownAll_le : ∀ xs : List PyData, okDs xs = true → piled (PyData.shownAll xs) ≤ wtDs xs
  | [], _ => by simp only [PyData.shownAll, wtDs, piled_nil]; exact Nat.le_refl _
  | x :: xs, h => by
    simp only [okDs, Bool.and_eq_true] at h
    simp only [PyData.shownAll, wtDs, piled_cons]
    have := shown_le x h.1
    have := shownAll_le xs h.2
    omega
theorem shownKv_le : ∀ xs : List (PyData × PyData), okKs xs = true → piled (PyData.shownKv xs) ≤ wtKs xs
  | [], _ => by simp only [PyData.shownKv, wtKs, piled_nil]; exact Nat.le_refl _
  | (k, v) :: xs, h => by
    simp only [okKs, Bool.and_eq_true] at h
    simp only [PyData.shownKv, wtKs, piled_cons]
    have := shown_le k h.1.1
    have := shown_le v h.1.2
    have := shownKv_le xs h.2
    have e1 : (": " : Str).length = 2 := rfl
    rw [strLen_append, strLen_append]
    omega
end
/-- good, and its text is no longer than Z -/
def GZ (n Z : Nat) (h : MH) (w : W) : Prop := ∃ d, dat n h w = some d ∧ okD d = true ∧ wtD d ≤ Z
theorem GZ.gd {n Z : Nat} {h : MH} {w : W} (g : GZ n Z h w) : Gd n h w := let ⟨d, e, o, _⟩ := g; ⟨d, e, o⟩
theorem GZ.mono {n m Z Z' : Nat} {h h' : MH} {w : W} (g : GZ n Z h w) (l : Le h h') (hm : n ≤ m) (hz : Z ≤ Z') : GZ m Z' h' w := let ⟨d, e, o, z⟩ := g; ⟨d, dat_mono l n m w d hm e, o, Nat.le_trans z hz⟩
def GZs (n Z : Nat) (h : MH) (ws : List W) : Prop := ∃ ds, ws.mapM (dat n h) = some ds ∧ okDs ds = true ∧ wtDs ds ≤ Z ∧ ds.length = ws.length
theorem GZs.nil {n : Nat} {h : MH} : GZs n 0 h [] := ⟨[], rfl, rfl, Nat.le_refl _, rfl⟩
theorem GZs.cons {n Z Z' : Nat} {h : MH} {w : W} {ws : List W} (g : GZ n Z h w) (t : GZs n Z' h ws) : GZs n (Z + 2 + Z') h (w :: ws) := by
  obtain ⟨d, e, o, z⟩ := g
  obtain ⟨ds, e2, o2, z2, l2⟩ := t
  refine ⟨d :: ds, ?_, by simp only [okDs, o, o2, Bool.and_self], by simp only [wtDs]; omega, by simp [l2]⟩
  simp only [List.mapM_cons, e, e2]; rfl
theorem GZ.tup {n Z : Nat} {h : MH} {ws : List W} (t : GZs n Z h ws) (hl : ws.length ≤ 100) : GZ (n + 1) (Z + 4) h (.tup ws) := by
  obtain ⟨ds, e, o, z, l⟩ := t
  exact ⟨.tuple ds, by simp only [dat, e, Option.map_some], by simp only [okD, o, Bool.and_true, decide_eq_true_eq]; omega, by simp only [wtD]; omega⟩
theorem GZ.lst {n Z m : Nat} {h : MH} {ws : List W} (t : GZs n Z h ws) (hl : ws.length ≤ 100) (hm : h[m]? = some (.lst ws)) : GZ (n + 1) (Z + 4) h (.ref m) := by
  obtain ⟨ds, e, o, z, l⟩ := t
  exact ⟨.list ds, by simp only [dat, hm, e, Option.map_some], by simp only [okD, o, Bool.and_true, decide_eq_true_eq]; omega, by simp only [wtD]; omega⟩
theorem GZ.int {n : Nat} {h : MH} {i : Int} (hi : okI i = true) : GZ (n + 1) 32 h (.int i) := ⟨.int i, rfl, hi, Nat.le_refl _⟩
theorem GZ.str {n : Nat} {h : MH} {s : Str} (hs : okD (.str s) = true) : GZ (n + 1) 402 h (.str s) := ⟨.str s, rfl, hs, Nat.le_refl _⟩
theorem GZ.bl {n : Nat} {h : MH} {b : Bool} : GZ (n + 1) 5 h (.bl b) := ⟨.bool b, rfl, rfl, Nat.le_refl _⟩
theorem GZ.non {n : Nat} {h : MH} : GZ (n + 1) 4 h .non := ⟨.none, rfl, rfl, Nat.le_refl _⟩
/-- repr of a good thing -/
theorem GZ.repr {n Z : Nat} {h : MH} {w : W} {C : Cfg} (g : GZ n Z h w) (hn : n ≤ FU) (hz : Z ≤ sizeLine) : ∃ d, dat FU h w = some d ∧ bltW C .repr [w] h = some (.str d.shown, h) := by
  obtain ⟨d, e, o, z⟩ := g
  have e2 := dat_mono Le.refl n FU w d hn e
  refine ⟨d, e2, ?_⟩
  have := shown_le d o
  simp only [bltW, e2]
  rw [if_pos ⟨okD_show d o, by omega⟩]
/-! ### tuples taken apart -/
theorem wtDs_app : ∀ a b : List PyData, wtDs (a ++ b) = wtDs a + wtDs b
  | [], b => by simp [wtDs]
  | x :: a, b => by simp only [List.cons_append, wtDs, wtDs_app a b]; omega
theorem wtDs_take (a : List PyData) (i : Nat) : wtDs (a.take i) ≤ wtDs a := by
  have h := wtDs_app (a.take i) (a.drop i)
  rw [List.take_append_drop] at h
  omega
theorem wtDs_drop (a : List PyData) (i : Nat) : wtDs (a.drop i) ≤ wtDs a := by
  have h := wtDs_app (a.take i) (a.drop i)
  rw [List.take_append_drop] at h
  omega
theorem mapM_cat {α β : Type} {f : α → Option β} : ∀ {a b : List α} {x y : List β}, a.mapM f = some x → b.mapM f = some y → (a ++ b).mapM f = some (x ++ y)
  | [], b, x, y, h1, h2 => by
    simp at h1; subst h1; simpa using h2
  | a :: as, b, x, y, h1, h2 => by
    simp only [List.mapM_cons, Option.bind_eq_bind, Option.bind_eq_some_iff, Option.pure_def, Option.some.injEq] at h1
    obtain ⟨c, q1, cs, q2, rfl⟩ := h1
    have ih := mapM_cat q2 h2
    simp only [List.cons_append, List.mapM_cons, q1, ih]; rfl
theorem mapM_tk {α β : Type} {f : α → Option β} : ∀ {a : List α} {x : List β} (i : Nat), a.mapM f = some x → (a.take i).mapM f = some (x.take i) ∧ (a.drop i).mapM f = some (x.drop i)
  | a, x, 0, h => by simpa using h
  | [], x, i + 1, h => by simp at h; subst h; simp
  | a :: as, x, i + 1, h => by
    simp only [List.mapM_cons, Option.bind_eq_bind, Option.bind_eq_some_iff, Option.pure_def, Option.some.injEq] at h
    obtain ⟨c, q1, cs, q2, rfl⟩ := h
    obtain ⟨i1, i2⟩ := mapM_tk i q2
    refine ⟨?_, by simpa using i2⟩
    simp only [List.take_succ_cons, List.mapM_cons, q1, i1]; rfl
theorem GZ.tupD {n Z : Nat} {h : MH} {xs : List W} (g : GZ (n + 1) Z h (.tup xs)) : ∃ ds, xs.mapM (dat n h) = some ds ∧ okDs ds = true ∧ wtDs ds + 4 ≤ Z ∧ ds.length = xs.length ∧ xs.length ≤ 100 := by
  obtain ⟨d, e, o, z⟩ := g
  simp only [dat, Option.map_eq_some_iff] at e
  obtain ⟨ds, e, rfl⟩ := e
  simp only [okD, Bool.and_eq_true, decide_eq_true_eq] at o
  simp only [wtD] at z
  have := (mapM_got e).1
  exact ⟨ds, e, o.2, z, this.symm, by omega⟩
theorem okDs_app {a b : List PyData} (h1 : okDs a = true) (h2 : okDs b = true) : okDs (a ++ b) = true := by
  rw [okDs_all] at *
  intro x hx
  rcases List.mem_append.mp hx with q | q
  · exact h1 x q
  · exact h2 x q
theorem okDs_take {a : List PyData} (i : Nat) (h1 : okDs a = true) : okDs (a.take i) = true := by
  rw [okDs_all] at *
  exact fun x hx => h1 x (List.mem_of_mem_take hx)
theorem okDs_drop {a : List PyData} (i : Nat) (h1 : okDs a = true) : okDs (a.drop i) = true := by
  rw [okDs_all] at *
  exact fun x hx => h1 x (List.mem_of_mem_drop hx)
theorem GZ.mkT {n Z : Nat} {h : MH} {xs : List W} {ds : List PyData} (e : xs.mapM (dat n h) = some ds) (o : okDs ds = true) (z : wtDs ds + 4 ≤ Z) (hl : xs.length ≤ 100) : GZ (n + 1) Z h (.tup xs) := by
  have := (mapM_got e).1
  exact ⟨.tuple ds, by simp only [dat, e, Option.map_some], by simp only [okD, o, Bool.and_true, decide_eq_true_eq]; omega, by simp only [wtD]; omega⟩
theorem GZ.take {n Z : Nat} {h : MH} {xs : List W} (g : GZ (n + 1) Z h (.tup xs)) (i : Nat) : GZ (n + 1) Z h (.tup (xs.take i)) := by
  obtain ⟨ds, e, o, z, l, l1⟩ := g.tupD
  have := wtDs_take ds i
  exact GZ.mkT (mapM_tk i e).1 (okDs_take i o) (by omega) (by rw [List.length_take]; omega)
theorem GZ.drop {n Z : Nat} {h : MH} {xs : List W} (g : GZ (n + 1) Z h (.tup xs)) (i : Nat) : GZ (n + 1) Z h (.tup (xs.drop i)) := by
  obtain ⟨ds, e, o, z, l, l1⟩ := g.tupD
  have := wtDs_drop ds i
  exact GZ.mkT (mapM_tk i e).2 (okDs_drop i o) (by omega) (by rw [List.length_drop]; omega)
theorem GZ.repl {n Z Y : Nat} {h : MH} {xs : List W} {y : W} (g : GZ (n + 1) Z h (.tup xs)) (gy : GZ n Y h y) (i : Nat) (hi : i < xs.length) : GZ (n + 1) (Z + Y + 2) h (.tup (xs.take i ++ [y] ++ xs.drop (i + 1))) := by
  obtain ⟨ds, e, o, z, l, l1⟩ := g.tupD
  obtain ⟨d, e2, o2, z2⟩ := gy
  have w1 := wtDs_app (ds.take i) (ds.drop i)
  rw [List.take_append_drop] at w1
  have w2 := wtDs_drop (ds.drop i) 1
  rw [List.drop_drop] at w2
  have e3 : [y].mapM (dat n h) = some [d] := by simp [e2]
  refine GZ.mkT (mapM_cat (mapM_cat (mapM_tk i e).1 e3) (mapM_tk (i + 1) e).2) (okDs_app (okDs_app (okDs_take i o) (by simp [okDs, o2])) (okDs_drop _ o)) ?_ ?_
  · rw [wtDs_app, wtDs_app]
    simp only [wtDs]
    omega
  · simp only [List.length_append, List.length_take, List.length_drop, List.length_cons, List.length_nil]
    omega
theorem GZ.snoc {n Z Y : Nat} {h : MH} {xs : List W} {y : W} (g : GZ (n + 1) Z h (.tup xs)) (gy : GZ n Y h y) (hl : xs.length < 100) : GZ (n + 1) (Z + Y + 2) h (.tup (xs ++ [y])) := by
  obtain ⟨ds, e, o, z, l, l1⟩ := g.tupD
  obtain ⟨d, e2, o2, z2⟩ := gy
  have e3 : [y].mapM (dat n h) = some [d] := by simp [e2]
  refine GZ.mkT (mapM_cat e e3) (okDs_app o (by simp [okDs, o2])) ?_ (by simp; omega)
  rw [wtDs_app]
  simp only [wtDs]
  omega
theorem GZ.part {n Z : Nat} {h : MH} {xs : List W} (g : GZ (n + 1) Z h (.tup xs)) {x : W} (hx : x ∈ xs) : GZ n Z h x := by
  obtain ⟨ds, e, o, z, l, l1⟩ := g.tupD
  obtain ⟨i, hi, ex⟩ := List.mem_iff_getElem.mp hx
  obtain ⟨d, hd, ed⟩ := (mapM_got e).2 i x (by rw [List.getElem?_eq_getElem hi, ex])
  refine ⟨d, ed, okDs_all.mp o d (List.mem_of_getElem? hd), ?_⟩
  have w1 := wtDs_app (ds.take i) (ds.drop i)
  rw [List.take_append_drop] at w1
  obtain ⟨hi2, e2⟩ := List.getElem?_eq_some_iff.mp hd
  rw [List.drop_eq_getElem_cons hi2, e2] at w1
  simp only [wtDs] at w1
  omega
theorem GZ.listOf {n Z m : Nat} {h : MH} {xs : List W} (g : GZ (n + 1) Z h (.tup xs)) (hm : h[m]? = some (.lst xs)) : GZ (n + 1) Z h (.ref m) := by
  obtain ⟨ds, e, o, z, l, l1⟩ := g.tupD
  exact ⟨.list ds, by simp only [dat, hm, e, Option.map_some], by simp only [okD, o, Bool.and_true, decide_eq_true_eq]; omega, by simp only [wtD]; omega⟩
theorem GZ.dct0 {n m : Nat} {h : MH} (hm : h[m]? = some (.dct [])) : GZ (n + 1) 4 h (.ref m) := ⟨.dict [], by simp [dat, hm], by simp [okD, okKs], by simp [wtD, wtKs]⟩
end Mi
set_option Elab.async false
set_option linter.all false
set_option maxRecDepth 100000
set_option maxHeartbeats 4000000
/-! The interpreter over plain values: lists are trees; one purse beside; lists that a def changes belong to their slots. -/
namespace Mi
open PySem PySem.Spec PyProof.Rows L2
inductive V where
  | non | bl (b : Bool) | int (i : Int) | str (s : Str) | tup (xs : List V) | lst (xs : List V) | dct (kvs : List (Key × V)) | fl (xs : List V) | nm (x : Nat) | prs | opl (w : W)
/-- what stands in the purse -/
abbrev PS := List Int
inductive PR (α : Type) where
  | ok (a : α) (σ : PS)
  | ex (c : Nat) (fs : List (Nat × V)) (σ : PS)
abbrev Po (α : Type) := Option (PR α)
def pbd {α β : Type} (x : Po α) (f : α → PS → Po β) : Po β := match x with
  | none => none
  | some (.ok a σ) => f a σ
  | some (.ex c fs σ) => some (.ex c fs σ)
def prt {α : Type} (a : α) (σ : PS) : Po α := some (.ok a σ)
def pup {α : Type} (x : Option α) (σ : PS) : Po α := match x with
  | none => none
  | some a => prt a σ
@[simp] theorem pbd_rt {α β : Type} (a : α) (σ : PS) (f : α → PS → Po β) : pbd (prt a σ) f = f a σ := rfl
@[simp] theorem pbd_ok {α β : Type} (a : α) (σ : PS) (f : α → PS → Po β) : pbd (some (.ok a σ)) f = f a σ := rfl
@[simp] theorem pbd_ex {α β : Type} (c : Nat) (fs : List (Nat × V)) (σ : PS) (f : α → PS → Po β) : pbd (some (.ex c fs σ)) f = some (.ex c fs σ) := rfl
@[simp] theorem pbd_none {α β : Type} (f : α → PS → Po β) : pbd (none : Po α) f = none := rfl
@[simp] theorem pup_some {α : Type} (a : α) (σ : PS) : pup (some a) σ = prt a σ := rfl
@[simp] theorem pup_none {α : Type} (σ : PS) : pup (none : Option α) σ = none := rfl
/-! ### data -/
def datV : Nat → V → Option PyData
  | 0, _ => none
  | n + 1, v => match v with
    | .non => some .none
    | .bl b => some (.bool b)
    | .int i => some (.int i)
    | .str s => some (.str s)
    | .tup xs => (xs.mapM (datV n)).map .tuple
    | .lst xs => (xs.mapM (datV n)).map .list
    | .dct kvs => ((kvs.map (·.2)).mapM (datV n)).map fun ds => .dict ((kvs.map fun kv => keyD kv.1).zip ds)
    | _ => none
mutual
/-- what the heap has no part in -/
def wv : W → Option V
  | .non => some .non
  | .bl b => some (.bl b)
  | .int i => some (.int i)
  | .str s => some (.str s)
  | .tup xs => match wvs xs with
    | some vs => some (.tup vs)
    | none => none
  | .ref _ => none
  | .nm x => some (.nm x)
def wvs : List W → Option (List V)
  | [] => some []
  | w :: ws => match wv w, wvs ws with
    | some v, some vs => some (v :: vs)
    | _, _ => none
end
def wkv : List (Str × W) → Option (List (Str × V))
  | [] => some []
  | (k, w) :: r => match wv w, wkv r with
    | some v, some vs => some ((k, v) :: vs)
    | _, _ => none
def truV (x : V) : Option Bool := match x with
  | .non => some false
  | .bl b => some b
  | .int i => some (i != 0)
  | .str s => if s.length ≤ sizeLine then some ((s.length : Int) != 0) else none
  | .tup xs => some (!xs.isEmpty)
  | .lst xs => some (!xs.isEmpty)
  | .dct kvs => some (!kvs.isEmpty)
  | _ => none
mutual
/-- no purse within -/
def noPr : V → Bool
  | .tup xs => noPrs xs
  | .lst xs => noPrs xs
  | .fl xs => noPrs xs
  | .dct kvs => noPrk kvs
  | .prs => false
  | _ => true
def noPrs : List V → Bool
  | [] => true
  | x :: xs => noPr x && noPrs xs
def noPrk : List (Key × V) → Bool
  | [] => true
  | (_, x) :: xs => noPr x && noPrk xs
end
/-! ### operators -/
def paddV (x y : V) : Option V := match x, y with
  | .int i, .int j => some (.int (i + j))
  | .str a, .str b => if a.length + b.length ≤ sizeLine then some (.str (a ++ b)) else none
  | .tup a, .tup b => if a.length + b.length ≤ sizeLine then some (.tup (a ++ b)) else none
  | .lst a, .lst b => if a.length + b.length ≤ sizeLine then some (.lst (a ++ b)) else none
  | _, _ => none
def pbin (op : BOp) (x y : V) : Option V := match op with
  | .add => paddV x y
  | .sub => match x, y with | .int i, .int j => some (.int (i - j)) | _, _ => none
  | .mul => match x, y with | .int i, .int j => if (-(2 ^ 64) < i ∧ i < 2 ^ 64) ∨ (-(2 ^ 64) < j ∧ j < 2 ^ 64) then some (.int (i * j)) else none | _, _ => none
  | .fdv => match x, y with | .int i, .int j => if 0 < j ∧ j < 1073741824 then some (.int (i / j)) else none | _, _ => none
  | .mod => match x, y with | .int i, .int j => if 0 < j then some (.int (i % j)) else none | _, _ => none
  | .pow => match x, y with | .int i, .int j => if 0 ≤ j ∧ j ≤ 1000000 ∧ i.natAbs < 2 ^ 64 then some (.int (i ^ j.toNat)) else none | _, _ => none
def eqDV (x y : V) : Option Bool := match datV FU x, datV FU y with
  | some d, some e => if d.canLay0 = true ∧ e.canLay0 = true then some (PyData.eqv d e) else none
  | _, _ => none
def eqEV (x y : V) : Option Bool := match x, y with
  | .str a, .str b => some (a == b)
  | .tup xs, .tup ys => if xs.isEmpty || ys.isEmpty then some (xs.isEmpty && ys.isEmpty) else none
  | .lst xs, .lst ys => if xs.length ≠ ys.length then some false else if xs.isEmpty then some true else none
  | _, _ => none
def flatV : V → Bool
  | .non => true | .bl _ => true | .int _ => true | .str _ => true | _ => false
def eqFV : V → V → Bool
  | .non, .non => true
  | .bl a, .bl b => a == b
  | .bl a, .int b => (if a then 1 else 0) == b
  | .int a, .bl b => a == (if b then 1 else 0)
  | .int a, .int b => a == b
  | .str a, .str b => a == b
  | _, _ => false
def inFV (x : V) (xs : List V) : Bool := xs.any fun y => eqFV y x
def keyV : V → Option Key
  | .int i => some (.inl i)
  | .str s => some (.inr s)
  | _ => none
structure PC where
  call : Nat → List V → PS → Po V
  has : Nat → Bool
  calm : Bool
  exn : Option (Nat × List (Nat × V))
  wf : Nat
  glb : Nat → Option V
  cdt : Nat → Option (List (Str × V))
  sub : Nat → Nat → Option Bool
  own : Nat → Bool
  fr : Nat → Bool
  pu : Option Nat
  /-- hands back a new list wherever it hands back one -/
  mf : Bool
def pinV (C : PC) (x y : V) : Option Bool := match y with
  | .str t => match x with
    | .str s => match s.cps.toList with
      | [c] => some (decide (c ∈ t.cps.toList))
      | _ => none
    | _ => none
  | .tup ys => if flatV x && ys.all flatV then some (inFV x ys) else none
  | .lst ys => if flatV x && ys.all flatV then some (inFV x ys) else none
  | .dct kvs => match keyV x with
    | some k => some ((kvGet kvs k).isSome)
    | none => none
  | .nm g => match C.cdt g, x with
    | some kvs, .str s => some ((kvGet kvs s).isSome)
    | _, _ => none
  | _ => none
/-- is None -/
def isNonV : V → Option Bool
  | .non => some true | .bl _ => some false | .int _ => some false | .str _ => some false | .tup _ => some false | .lst _ => some false | .dct _ => some false | .opl _ => some false
  | _ => none
def pcmpW (C : PC) (op : COp) (x y : V) : Option Bool := match op with
  | .eq => match eqEV x y with
    | some b => some b
    | none => eqDV x y
  | .ne => match eqEV x y with
    | some b => some (!b)
    | none => (eqDV x y).map not
  | .lt => match x, y with | .int i, .int j => some (decide (i < j)) | .str s, .str t => some (decide (s.cps.toList < t.cps.toList)) | _, _ => none
  | .le => match x, y with | .int i, .int j => some (decide (i ≤ j)) | .str s, .str t => some (!decide (t.cps.toList < s.cps.toList)) | _, _ => none
  | .gt => match x, y with | .int i, .int j => some (decide (j < i)) | _, _ => none
  | .ge => match x, y with | .int i, .int j => some (decide (j ≤ i)) | _, _ => none
  | .is => match y with
    | .bl b => match x with | .bl a => some (a == b) | _ => none
    | .non => isNonV x
    | _ => none
  | .isn => match y with
    | .bl b => match x with | .bl a => some (!(a == b)) | _ => none
    | .non => (isNonV x).map not
    | _ => none
  | .inn => pinV C x y
  | .nin => (pinV C x y).map not
def pget (C : PC) (x y : V) (σ : PS) : Option V := match x with
  | .tup xs => match y with | .int i => atI xs i | _ => none
  | .str s => match y with
    | .int i => if s.length ≤ sizeLine then (atI s.cps.toList i).map fun c => .str ⟨#[c]⟩ else none
    | _ => none
  | .lst xs => match y with | .int i => atI xs i | _ => none
  | .fl xs => match y with | .int i => atI xs i | _ => none
  | .dct kvs => (keyV y).bind fun k => kvGet kvs k
  | .nm g => match C.cdt g, y with
    | some kvs, .str s => kvGet kvs s
    | _, _ => none
  | .prs => match y with | .int i => (atI σ i).map .int | _ => none
  | _ => none
def pslc (x : V) (lo hi : Option Int) : Option V := match x with
  | .tup xs => some (.tup (cut xs lo hi))
  | .str s => if s.length ≤ sizeLine then some (.str ⟨(cut s.cps.toList lo hi).toArray⟩) else none
  | .lst xs => some (.lst (cut xs lo hi))
  | _ => none
def pput (kvs : List (Key × V)) (k : Key) (v : V) : List (Key × V) :=
  if (kvGet kvs k).isSome then kvs.map (fun kv => if kv.1 = k then (kv.1, v) else kv) else kvs ++ [(k, v)]
def pmerge (kvs more : List (Key × V)) : List (Key × V) := more.foldl (fun acc kv => pput acc kv.1 kv.2) kvs
def pkeys : List (V × V) → Option (List (Key × V))
  | [] => some []
  | (k, v) :: r => match keyV k, pkeys r with
    | some k, some r => some ((k, v) :: r)
    | _, _ => none
def ppairs : List V → Option (List (Key × V))
  | [] => some []
  | .tup [k, v] :: r => match keyV k, ppairs r with
    | some k, some r => some ((k, v) :: r)
    | _, _ => none
  | _ :: _ => none
def kV : Key → V
  | .inl i => .int i
  | .inr s => .str s
/-! ### built-ins -/
def pisi (x : V) (t : Ty) : Option Bool := match x with
  | .non => some false
  | .bl _ => some (t == .bool || t == .int)
  | .int _ => some (t == .int)
  | .str _ => some (t == .str)
  | .tup _ => some (t == .tuple)
  | .lst _ => some (t == .list)
  | .dct _ => some (t == .dict)
  | .opl _ => some (t == .list)
  | _ => none
def pbls : List V → Option (List Bool)
  | [] => some []
  | .bl b :: r => (pbls r).map (b :: ·)
  | _ => none
def pints : List V → Option (List Int)
  | [] => some []
  | .int b :: r => (pints r).map (b :: ·)
  | _ => none
def plst (x : V) : Option (List V) := match x with
  | .lst xs => some xs
  | _ => none
def pseq (x : V) : Option (List V) := match x with
  | .tup xs => some xs
  | .lst xs => some xs
  | .fl xs => some xs
  | _ => none
def pblt (C : PC) (b : Blt) (xs : List V) : Option V := match b with
  | .len => match xs with
    | [.str s] => if s.length ≤ sizeLine then some (.int s.length) else none
    | [x] => match pseq x with
      | some ys => some (.int ys.length)
      | none => none
    | _ => none
  | .max => if C.calm then match xs with | [.int i, .int j] => some (.int (if j > i then j else i)) | _ => none else none
  | .min => if C.calm then match xs with | [.int i, .int j] => some (.int (if j < i then j else i)) | _ => none else none
  | .repr => match xs with
    | [x] => match datV FU x with
      | some d => if d.showable = true ∧ d.shown.length ≤ sizeLine then some (.str d.shown) else none
      | none => none
    | _ => none
  | .all => if C.calm then match xs with | [x] => (((plst x).bind pbls).map fun bs => .bl (bs.all id)) | _ => none else none
  | .any => if C.calm then match xs with | [x] => (((plst x).bind pbls).map fun bs => .bl (bs.any id)) | _ => none else none
  | .sum => if C.calm then match xs with | [x] => (((plst x).bind pints).map fun bs => .int bs.sum) | _ => none else none
  | .int => match xs with | [.int i] => some (.int i) | [.bl k] => some (.int (if k then 1 else 0)) | _ => none
  | .list => match xs with | [x] => (pseq x).map fun ys => .lst ys | _ => none
  | .tuple => match xs with | [x] => (pseq x).map fun ys => .tup ys | _ => none
  | .dict => if C.calm then match xs with | [x] => ((plst x).bind ppairs).map fun kvs => .dct (pmerge [] kvs) | _ => none else none
def pstrs : List V → Option (List Str)
  | [] => some []
  | .str b :: r => (pstrs r).map (b :: ·)
  | _ => none
def pmth (m : Mth) (o : V) (xs : List V) : Option V := match m with
  | .split => match o, xs with
    | .str a, [.str b] => if (b.length == 0) = false ∧ a.length + 2 ≤ sizeLine then some (.lst ((Txt.split a b).map .str)) else none
    | _, _ => none
  | .join => match o, xs with
    | .str a, [x] => match (pseq x).bind pstrs with
      | some ys => if (ys.map (·.length)).sum + ys.length * a.length ≤ 16777216 then some (.str (Txt.join a ys)) else none
      | none => none
    | _, _ => none
  | _ => none
def pmthK (m : Mth) (o : V) : Bool := match m, o with
  | .split, .str _ => true
  | .join, .str _ => true
  | _, _ => false
/-- a list that belongs to its slot is changed -/
def pmut (m : Mth) (o : V) (xs : List V) : Option V := match m with
  | .append => match o, xs with
    | .lst ys, [x] => if ys.length < sizeLine then some (.lst (ys ++ [x])) else none
    | _, _ => none
  | .extend => match o, xs with
    | .lst ys, [.lst zs] => if ys.length + zs.length ≤ sizeLine then some (.lst (ys ++ zs)) else none
    | _, _ => none
  | .insert => match o, xs with
    | .lst ys, [.int i, x] => if ys.length < sizeLine ∧ 0 ≤ i ∧ i < 2 ^ 63 then some (.lst (ys.take i.toNat ++ [x] ++ ys.drop i.toNat)) else none
    | _, _ => none
  | .clear => match o, xs with
    | .lst _, [] => some (.lst [])
    | _, _ => none
  | _ => none
def pset (o i v : V) : Option V := match o with
  | .lst xs => match i with
    | .int k => (ixN xs.length k).map fun j => .lst (xs.set j v)
    | _ => none
  | .dct kvs => match keyV i with
    | some k => if kvs.length < sizeLine then some (.dct (pput kvs k v)) else none
    | none => none
  | _ => none
abbrev LV := List (Option V)
def pwipe (ρ : LV) : List Nat → LV
  | [] => ρ
  | v :: vs => (pwipe ρ vs).set v none
def psrcV (x : V) : Option (List V) := match x with
  | .tup xs => some xs
  | .str s => some (s.cps.toList.map fun c => .str ⟨#[c]⟩)
  | .lst xs => some xs
  | _ => none
def prng (lo hi : Int) : Option (List V) := if -(2 ^ 62) ≤ lo ∧ lo < 2 ^ 62 ∧ -(2 ^ 62) ≤ hi ∧ hi < 2 ^ 62 then some ((List.range (hi - lo).toNat).map fun (i : Nat) => .int (lo + i)) else none
def penm : Nat → List V → List V
  | _, [] => []
  | i, x :: xs => .tup [.int i, x] :: penm (i + 1) xs
def pzip : List V → List V → List V
  | x :: xs, y :: ys => .tup [x, y] :: pzip xs ys
  | _, _ => []
def pSet (ρ : LV) : List Nat → List V → LV
  | i :: is, v :: vs => pSet (ρ.set i (some v)) is vs
  | _, _ => ρ
def ptg (C : PC) (g : MG) (v : V) (ρ : LV) : Option LV := match g with
  | .nm i => if C.own i then none else some (ρ.set i (some v))
  | .tp is => match v with
    | .tup xs => if xs.length = is.length ∧ is.all (fun i => !C.own i) = true then some (pSet ρ is xs) else none
    | _ => none
def pcomp (f : V → PS → Po (Option V)) : Nat → List V → PS → Po (List V)
  | _, [], σ => prt [] σ
  | n, x :: xs, σ => pbd (f x σ) fun r σ1 => match r with
    | none => pcomp f n xs σ1
    | some y => if n < sizeLine then pbd (pcomp f (n + 1) xs σ1) fun ys σ2 => prt (y :: ys) σ2 else none
def pnoex {α : Type} (x : Po α) : Po α := match x with
  | some (.ok a σ) => some (.ok a σ)
  | _ => none
@[simp] theorem pnoex_rt {α : Type} (a : α) (σ : PS) : pnoex (prt a σ) = prt a σ := rfl
def plook (ρ : LV) (i : Nat) (σ : PS) : Po V := match ρ[i]? with
  | some (some v) => prt v σ
  | _ => none
def isV : ME → Option Nat
  | .var i => some i
  | _ => none
def tupE : ME → Option MEs
  | .tup es => some es
  | _ => none
/-- its list is a new one -/
def frE (C : PC) : ME → Bool
  | .lst _ => true
  | .comp _ _ _ _ _ => true
  | .blt .list _ => true
  | .blt .dict _ => true
  | .dct _ => true
  | .itl _ => true
  | .slc _ _ _ => true
  | .bin .add _ _ => true
  | .mth .split _ _ => true
  | .call f _ => C.fr f
  | .ite _ a b => frE C a && frE C b
  | _ => false
mutual
def pev (C : PC) : ME → LV → PS → Po V
  | .var i, ρ, σ => if C.own i then none else plook ρ i σ
  | .int i, _, σ => prt (.int i) σ
  | .str s, _, σ => prt (.str s) σ
  | .bl b, _, σ => prt (.bl b) σ
  | .non, _, σ => prt .non σ
  | .glb x, _, σ => pup (C.glb x) σ
  | .tup es, ρ, σ => pbd (pevs C es ρ σ) fun vs σ1 => if vs.length ≤ sizeLine then prt (.tup vs) σ1 else none
  | .lst es, ρ, σ => pbd (pevs C es ρ σ) fun vs σ1 => if vs.length ≤ sizeLine then prt (.lst vs) σ1 else none
  | .bin op a b, ρ, σ => pbd (match isV a with | some i => plook ρ i σ | none => pev C a ρ σ) fun x σ1 => pbd (match isV b with | some i => plook ρ i σ1 | none => pev C b ρ σ1) fun y σ2 => pup (pbin op x y) σ2
  | .neg a, ρ, σ => pbd (pev C a ρ σ) fun x σ1 => match x with
    | .int i => prt (.int (-i)) σ1
    | _ => none
  | .cmp op a b, ρ, σ => pbd (match isV a with | some i => plook ρ i σ | none => pev C a ρ σ) fun x σ1 => pbd (match isV b with | some i => plook ρ i σ1 | none => pev C b ρ σ1) fun y σ2 => pup ((pcmpW C op x y).map .bl) σ2
  | .chn op op' a b c, ρ, σ => pbd (pev C a ρ σ) fun x σ1 => pbd (pev C b ρ σ1) fun y σ2 => match pcmpW C op x y with
    | some true => pbd (pev C c ρ σ2) fun z σ3 => pup ((pcmpW C op' y z).map .bl) σ3
    | some false => prt (.bl false) σ2
    | none => none
  | .and a b, ρ, σ => pbd (pev C a ρ σ) fun x σ1 => match x with
    | .bl true => pev C b ρ σ1
    | .bl false => prt (.bl false) σ1
    | _ => none
  | .or a b, ρ, σ => pbd (pev C a ρ σ) fun x σ1 => match x with
    | .bl false => pev C b ρ σ1
    | .bl true => prt (.bl true) σ1
    | _ => none
  | .not a, ρ, σ => pbd (pev C a ρ σ) fun x σ1 => match x with
    | .bl k => prt (.bl (!k)) σ1
    | _ => none
  | .ite c a b, ρ, σ => pbd (ptst C c ρ σ) fun k σ1 => if k = true then pev C a ρ σ1 else pev C b ρ σ1
  | .idx a b, ρ, σ => pbd (match isV a with | some i => plook ρ i σ | none => pev C a ρ σ) fun x σ1 => pbd (pev C b ρ σ1) fun y σ2 => pup (pget C x y σ2) σ2
  | .slc a lo hi, ρ, σ => pbd (match isV a with | some i => plook ρ i σ | none => pev C a ρ σ) fun x σ1 => pbd (pevo C lo ρ σ1) fun l σ2 => pbd (pevo C hi ρ σ2) fun u σ3 => pup (pslc x l u) σ3
  | .call f es, ρ, σ => if C.has f = true then pbd (pevs C es ρ σ) fun vs σ1 => C.call f vs σ1 else none
  | .blt b es, ρ, σ => pbd (ppks C es ρ σ) fun vs σ1 => pup (pblt C b vs) σ1
  | .isi a t, ρ, σ => pbd (match isV a with | some i => plook ρ i σ | none => pev C a ρ σ) fun x σ1 => pup ((pisi x t).map .bl) σ1
  | .mth m o es, ρ, σ => pbd (pev C o ρ σ) fun x σ1 => if pmthK m x = true then pbd (ppks C es ρ σ1) fun vs σ2 => pup (pmth m x vs) σ2 else none
  | .exf i f, _, σ => match C.exn with
    | some (j, fs) => if i = j then pup (kvGet fs f) σ else none
    | none => none
  | .comp elt tg it cnd vs, ρ, σ => if C.calm && vs.all (fun i => !C.own i) then pbd (pevi C it ρ σ) fun s σ1 =>
      pbd (pcomp (fun w σ2 => match ptg C tg w (pwipe ρ vs) with
        | none => none
        | some ρ2 => match cnd with
          | none => pbd (pnoex (pev C elt ρ2 σ2)) fun y σ3 => prt (some y) σ3
          | some c => pbd (pnoex (ptst C c ρ2 σ2)) fun k σ3 => if k = true then pbd (pnoex (pev C elt ρ2 σ3)) fun y σ4 => prt (some y) σ4 else prt none σ3)
        0 s σ1) fun ys σ2 => prt (.lst ys) σ2
    else none
  | .dct ps, ρ, σ => match ps with
    | .nil => prt (.dct []) σ
    | _ => pbd (pevp C ps ρ σ) fun xs σ2 => match pkeys xs with
      | some kvs => if kvs.length ≤ 15 then prt (.dct (pmerge [] kvs)) σ2 else none
      | _ => none
  | .itl a, ρ, σ => if C.calm then pbd (match isV a with | some i => plook ρ i σ | none => pev C a ρ σ) fun x σ1 => match x with
    | .dct kvs => prt (.lst (kvs.map fun kv => .tup [kV kv.1, kv.2])) σ1
    | _ => none
    else none
def pevp (C : PC) : MPs → LV → PS → Po (List (V × V))
  | .nil, _, σ => prt [] σ
  | .cons k v r, ρ, σ => pbd (pev C k ρ σ) fun x σ1 => pbd (pev C v ρ σ1) fun y σ2 => pbd (pevp C r ρ σ2) fun xs σ3 => prt ((x, y) :: xs) σ3
def ptst (C : PC) : ME → LV → PS → Po Bool
  | .and a b, ρ, σ => pbd (ptst C a ρ σ) fun k σ1 => if k = true then ptst C b ρ σ1 else prt false σ1
  | .or a b, ρ, σ => pbd (ptst C a ρ σ) fun k σ1 => if k = true then prt true σ1 else ptst C b ρ σ1
  | .not a, ρ, σ => pbd (ptst C a ρ σ) fun k σ1 => prt (!k) σ1
  | .cmp op a b, ρ, σ => pbd (match isV a with | some i => plook ρ i σ | none => pev C a ρ σ) fun x σ1 => pbd (match isV b with | some i => plook ρ i σ1 | none => pev C b ρ σ1) fun y σ2 => pup (pcmpW C op x y) σ2
  | .chn op op' a b c, ρ, σ => pbd (pev C a ρ σ) fun x σ1 => pbd (pev C b ρ σ1) fun y σ2 => match pcmpW C op x y with
    | some true => pbd (pev C c ρ σ2) fun z σ3 => pup (pcmpW C op' y z) σ3
    | some false => prt false σ2
    | none => none
  | .var i, ρ, σ => pbd (plook ρ i σ) fun z σ3 => pup (truV z) σ3
  | .call f es, ρ, σ => if C.has f = true then pbd (pbd (pevs C es ρ σ) fun vs σ1 => C.call f vs σ1) fun x σ2 => pup (truV x) σ2 else none
  | .blt b es, ρ, σ => pbd (pbd (ppks C es ρ σ) fun vs σ1 => pup (pblt C b vs) σ1) fun x σ2 => pup (truV x) σ2
  | .isi a t, ρ, σ => pbd (match isV a with | some i => plook ρ i σ | none => pev C a ρ σ) fun x σ1 => pup (pisi x t) σ1
  | .idx a b, ρ, σ => pbd (pbd (match isV a with | some i => plook ρ i σ | none => pev C a ρ σ) fun x σ1 => pbd (pev C b ρ σ1) fun y σ2 => pup (pget C x y σ2) σ2) fun z σ3 => pup (truV z) σ3
  | _, _, _ => none
def pevs (C : PC) : MEs → LV → PS → Po (List V)
  | .nil, _, σ => prt [] σ
  | .cons e es, ρ, σ => pbd (pev C e ρ σ) fun x σ1 => pbd (pevs C es ρ σ1) fun xs σ2 => prt (x :: xs) σ2
/-- things that are only looked at -/
def ppks (C : PC) : MEs → LV → PS → Po (List V)
  | .nil, _, σ => prt [] σ
  | .cons e es, ρ, σ => pbd (match isV e with | some i => plook ρ i σ | none => pev C e ρ σ) fun x σ1 => pbd (ppks C es ρ σ1) fun xs σ2 => prt (x :: xs) σ2
def pevo (C : PC) : MO → LV → PS → Po (Option Int)
  | .no, _, σ => prt none σ
  | .so e, ρ, σ => pbd (pev C e ρ σ) fun x σ1 => match x with
    | .int i => prt (some i) σ1
    | _ => none
def pevi (C : PC) : MI → LV → PS → Po (List V)
  | .pl e, ρ, σ => pbd (pev C e ρ σ) fun x σ1 => pup (psrcV x) σ1
  | .rg1 a, ρ, σ => pbd (pev C a ρ σ) fun x σ1 => match x with
    | .int j => pup (prng 0 j) σ1
    | _ => none
  | .rg2 a b, ρ, σ => pbd (pev C a ρ σ) fun x σ1 => pbd (pev C b ρ σ1) fun y σ2 => match x, y with
    | .int i, .int j => pup (prng i j) σ2
    | _, _ => none
  | .enm a, ρ, σ => pbd (pev C a ρ σ) fun x σ1 => match x with
    | .lst xs => prt (penm 0 xs) σ1
    | _ => none
  | .zip a b, ρ, σ => pbd (pev C a ρ σ) fun x σ1 => pbd (pev C b ρ σ1) fun y σ2 => match psrcV x, psrcV y with
    | some xs, some ys => if C.pu.isNone || (noPrs xs && noPrs ys) then prt (pzip xs ys) σ2 else none
    | _, _ => none
end
/-! ### statements -/
inductive PSo where
  | nx (ρ : LV) (σ : PS) | rt (v : V) (σ : PS) | bk (ρ : LV) (σ : PS) | ct (ρ : LV) (σ : PS) | ex (c : Nat) (fs : List (Nat × V)) (ρ : LV) (σ : PS)
abbrev Psm := Option PSo
def psE {α : Type} (ρ : LV) (x : Po α) (f : α → PS → Psm) : Psm := match x with
  | none => none
  | some (.ok a σ) => f a σ
  | some (.ex c fs σ) => some (.ex c fs ρ σ)
@[simp] theorem psE_rt {α : Type} (ρ : LV) (a : α) (σ : PS) (f : α → PS → Psm) : psE ρ (prt a σ) f = f a σ := rfl
@[simp] theorem psE_ok {α : Type} (ρ : LV) (a : α) (σ : PS) (f : α → PS → Psm) : psE ρ (some (.ok a σ)) f = f a σ := rfl
@[simp] theorem psE_ex {α : Type} (ρ : LV) (c : Nat) (fs : List (Nat × V)) (σ : PS) (f : α → PS → Psm) : psE ρ (some (.ex c fs σ)) f = some (.ex c fs ρ σ) := rfl
@[simp] theorem psE_none {α : Type} (ρ : LV) (f : α → PS → Psm) : psE ρ (none : Po α) f = none := rfl
def psQ (x : Psm) (f : LV → PS → Psm) : Psm := match x with
  | some (.nx ρ σ) => f ρ σ
  | y => y
@[simp] theorem psQ_nx (ρ : LV) (σ : PS) (f : LV → PS → Psm) : psQ (some (.nx ρ σ)) f = f ρ σ := rfl
@[simp] theorem psQ_rt (w : V) (σ : PS) (f : LV → PS → Psm) : psQ (some (.rt w σ)) f = some (.rt w σ) := rfl
@[simp] theorem psQ_ex (c : Nat) (fs : List (Nat × V)) (ρ : LV) (σ : PS) (f : LV → PS → Psm) : psQ (some (.ex c fs ρ σ)) f = some (.ex c fs ρ σ) := rfl
@[simp] theorem psQ_bk (ρ : LV) (σ : PS) (f : LV → PS → Psm) : psQ (some (.bk ρ σ)) f = some (.bk ρ σ) := rfl
@[simp] theorem psQ_ct (ρ : LV) (σ : PS) (f : LV → PS → Psm) : psQ (some (.ct ρ σ)) f = some (.ct ρ σ) := rfl
def pfor (t : V → LV → Option LV) (f : LV → PS → Psm) : List V → LV → PS → Psm
  | [], ρ, σ => some (.nx ρ σ)
  | x :: xs, ρ, σ => match t x ρ with
    | none => none
    | some ρ1 => match f ρ1 σ with
      | some (.nx ρ2 σ2) => pfor t f xs ρ2 σ2
      | some (.ct ρ2 σ2) => pfor t f xs ρ2 σ2
      | some (.bk ρ2 σ2) => some (.nx ρ2 σ2)
      | y => y
def pwhl (c : LV → PS → Po Bool) (f : LV → PS → Psm) : Nat → LV → PS → Psm
  | 0, _, _ => none
  | fu + 1, ρ, σ => psE ρ (c ρ σ) fun k σ1 => if k = true then (match f ρ σ1 with
      | some (.nx ρ2 σ2) => pwhl c f fu ρ2 σ2
      | some (.ct ρ2 σ2) => pwhl c f fu ρ2 σ2
      | some (.bk ρ2 σ2) => some (.nx ρ2 σ2)
      | y => y) else some (.nx ρ σ1)
def pfree (C : PC) (i : Nat) : Bool := match C.exn with
  | some (j, _) => !(i == j)
  | none => true
/-- what stays when another purse comes -/
def pkeep : Option V → Option V
  | some .non => some .non
  | some (.bl b) => some (.bl b)
  | some (.int i) => some (.int i)
  | some (.str s) => some (.str s)
  | some (.nm x) => some (.nm x)
  | some (.fl xs) => if noPrs xs then some (.fl xs) else none
  | _ => none
def isLD : V → Bool
  | .lst _ => true | .dct _ => true | _ => false
/-- o.m(..) at a slot that has a list of its own -/
def pmutE : ME → Option (Mth × Nat × MEs)
  | .mth .append (.var i) es => some (.append, i, es)
  | .mth .extend (.var i) es => some (.extend, i, es)
  | .mth .insert (.var i) es => some (.insert, i, es)
  | .mth .clear (.var i) es => some (.clear, i, es)
  | _ => none
def isNilS : MSs → Bool
  | .nil => true
  | .cons _ _ => false
mutual
def pex (C : PC) (K : Nat → Option (List Nat)) : MS → LV → PS → Psm
  | .asg i e, ρ, σ => if pfree C i then
      (if C.pu = some i then (if frE C e && C.exn.isNone && !C.own i then psE ρ (pev C e ρ σ) fun v _ => match v with
          | .lst xs => match pints xs with
            | some is => some (.nx ((ρ.map pkeep).set i (some .prs)) is)
            | none => none
          | _ => none
        else none)
      else if C.own i then (if frE C e then psE ρ (pev C e ρ σ) fun v σ1 => if isLD v then some (.nx (ρ.set i (some v)) σ1) else none else none)
      else psE ρ (pev C e ρ σ) fun v σ1 => some (.nx (ρ.set i (some v)) σ1)) else none
  | .asgT is e, ρ, σ => if C.calm && is.all (pfree C) && is.all (fun i => !C.own i) then psE ρ (pev C e ρ σ) fun x σ1 => match pseq x with
      | some xs => if xs.length = is.length then some (.nx (pSet ρ is xs) σ1) else none
      | none => none
    else none
  | .par2 i j a b, ρ, σ => if C.calm && pfree C i && pfree C j && !(i == j) && !C.own i && !C.own j then psE ρ (pev C a ρ σ) fun x σ1 => psE ρ (pev C b ρ σ1) fun y σ2 => some (.nx ((ρ.set i (some x)).set j (some y)) σ2) else none
  | .setI o i e, ρ, σ => psE ρ (pev C e ρ σ) fun v σ1 => match isV o with
    | some s => (match ρ[s]? with
      | some (some .prs) => psE ρ (pev C i ρ σ1) fun y σ2 => (match y, v with
        | .int k, .int z => (match ixN σ2.length k with
          | some j => some (.nx ρ (σ2.set j z))
          | none => none)
        | _, _ => none)
      | some (some x) => if C.own s then psE ρ (pev C i ρ σ1) fun y σ2 => (match pset x y v with
        | some x' => some (.nx (ρ.set s (some x')) σ2)
        | none => none) else none
      | _ => none)
    | none => none
  | .aug i op e, ρ, σ => if pfree C i && !C.own i then (match ρ[i]? with
      | some (some (.int x)) => psE ρ (pev C e ρ σ) fun y σ1 => match op, y with
        | .add, .int y => some (.nx (ρ.set i (some (.int (x + y)))) σ1)
        | .sub, .int y => some (.nx (ρ.set i (some (.int (x - y)))) σ1)
        | _, _ => none
      | _ => none) else none
  | .expr e, ρ, σ => match pmutE e with
    | some (m, s, es) => if C.own s then (match ρ[s]? with
        | some (some (.lst ys)) => psE ρ (pevs C es ρ σ) fun vs σ1 => match pmut m (.lst ys) vs with
          | some x' => some (.nx (ρ.set s (some x')) σ1)
          | none => none
        | _ => none)
      else none
    | none => psE ρ (pev C e ρ σ) fun _ σ1 => some (.nx ρ σ1)
  | .ite c a b, ρ, σ => psE ρ (ptst C c ρ σ) fun k σ1 => if k = true then pexs C K a ρ σ1 else pexs C K b ρ σ1
  | .for_ tg it body, ρ, σ => if C.calm then psE ρ (pevi C it ρ σ) fun s σ1 => if C.pu.isNone || noPrs s then pfor (ptg C tg) (pexs C K body) s ρ σ1 else none else none
  | .whl c body, ρ, σ => if C.calm then pwhl (ptst C c) (pexs C K body) C.wf ρ σ else none
  | .ret e, ρ, σ => if !C.mf || frE C e || (match isV e with | some i => C.own i | none => false) then psE ρ (match isV e with
      | some i => plook ρ i σ
      | none => match tupE e with
        | some es => pbd (ppks C es ρ σ) fun vs σ1 => if vs.length ≤ sizeLine then prt (.tup vs) σ1 else none
        | none => pev C e ρ σ) fun x σ1 => some (.rt x σ1) else none
  | .retN, _, σ => some (.rt .non σ)
  | .raise c es, ρ, σ => if C.calm then psE ρ (pevs C es ρ σ) fun vs σ1 => match K c with
      | some ps => if ps.length = vs.length then some (.ex c (ps.zip vs).reverse ρ σ1) else none
      | none => none
    else none
  | .try_ body hs, ρ, σ => if C.calm then (match pexs C K body ρ σ with
      | some (.ex c fs ρ1 σ1) => phdl C K hs c fs ρ1 σ1
      | y => y) else none
  | .pass, ρ, σ => some (.nx ρ σ)
  | .brk, ρ, σ => some (.bk ρ σ)
  | .cnt, ρ, σ => some (.ct ρ σ)
def pexs (C : PC) (K : Nat → Option (List Nat)) : MSs → LV → PS → Psm
  | .nil, ρ, σ => some (.nx ρ σ)
  | .cons s ss, ρ, σ => psQ (pex C K s ρ σ) fun ρ1 σ1 => pexs C K ss ρ1 σ1
def phdl (C : PC) (K : Nat → Option (List Nat)) : MHs → Nat → List (Nat × V) → LV → PS → Psm
  | .nil, c, fs, ρ, σ => some (.ex c fs ρ σ)
  | .stop, _, _, _, _ => none
  | .cons c' slot body r, c, fs, ρ, σ => match C.sub c c' with
    | some true => (match slot with
      | some i => if isNilS body || C.own i then none else
        match pexs { C with call := fun _ _ _ => none, has := fun _ => false, calm := false, exn := some (i, fs), pu := none } K body (ρ.set i none) σ with
        | some (.nx ρ1 σ1) => some (.nx (ρ1.set i none) σ1)
        | some (.rt w σ1) => some (.rt w σ1)
        | some (.bk ρ1 σ1) => some (.bk (ρ1.set i none) σ1)
        | some (.ct ρ1 σ1) => some (.ct (ρ1.set i none) σ1)
        | _ => none
      | none => match pexs { C with call := fun _ _ _ => none, has := fun _ => false, calm := false, exn := none, pu := none } K body ρ σ with
        | some (.ex _ _ _ _) => none
        | y => y)
    | some false => phdl C K r c fs ρ σ
    | none => none
end
def pendOf (x : Psm) : Po V := match x with
  | some (.nx _ σ) => prt .non σ
  | some (.rt w σ) => prt w σ
  | some (.ex c fs _ σ) => some (.ex c fs σ)
  | _ => none
/-! ### the defs -/
/-- of a def: the slots whose lists it changes, whether it hands back a new list -/
structure PDef where
  own : List Nat := []
  fr : Bool := false
def ppcfg (T : Tab) (D : Nat → PDef) (call : Nat → List V → PS → Po V) (d : PDef) (pu : Option Nat) : PC :=
  { call := fun g vs σ => match T.dfl g with
      | some (g', ds) => match wvs ds with
        | some es => call g' (vs ++ es) σ
        | none => none
      | none => call g vs σ
    has := cfgHas T, calm := true, exn := none, wf := T.wf, glb := fun x => (T.glb x).bind wv, cdt := fun x => (T.cdt x).bind wkv, sub := T.sub
    own := fun i => d.own.contains i, fr := fun g => match T.dfl g with
      | some (g', _) => (D g').fr
      | none => (D g).fr
    pu := pu, mf := d.fr }
def prun (T : Tab) (D : Nat → PDef) (call : Nat → List V → PS → Po V) (d : PDef) (pu : Option Nat) (m : MDef) (vs : List V) (σ : PS) : Po V :=
  if vs.length = m.np ∧ d.own.all (fun i => decide (m.np ≤ i)) = true then pendOf (pexs (ppcfg T D call d pu) T.excs m.body (vs.map some ++ List.replicate (m.ns - m.np) none) σ) else none
def pv (T : Tab) (D : Nat → PDef) : Nat → Nat → List V → PS → Po V
  | 0, _, _, _ => none
  | k + 1, f, vs, σ => match T.defs f with
    | none => none
    | some m => prun T D (pv T D k) (D f) none m vs σ
/-- a law, which makes its purses -/
def pvL (T : Tab) (D : Nat → PDef) (k f : Nat) (pu : Option Nat) (vs : List V) : Po V := match T.defs f with
  | none => none
  | some m => prun T D (pv T D k) (D f) pu m vs []
end Mi
set_option Elab.async false
set_option linter.all false
set_option maxRecDepth 100000
set_option maxHeartbeats 4000000
/-! How plain values lie in the heap. -/
namespace Mi
open PySem PySem.Spec PyProof.Rows L2
mutual
/-- v lies at w; the cells of A, and the purse's, have no part in it -/
def Rep (p : Option Nat) (A : Nat → Prop) (h : MH) : V → W → Prop
  | .non, w => w = .non
  | .bl b, w => w = .bl b
  | .int i, w => w = .int i
  | .str s, w => w = .str s
  | .nm x, w => w = .nm x
  | .tup vs, w => ∃ ws, w = .tup ws ∧ Reps p A h vs ws
  | .lst vs, w => ∃ n, w = .ref n ∧ p ≠ some n ∧ ¬A n ∧ ∃ ws, h[n]? = some (.lst ws) ∧ Reps p A h vs ws
  | .dct kvs, w => ∃ n, w = .ref n ∧ p ≠ some n ∧ ¬A n ∧ ∃ kws, h[n]? = some (.dct kws) ∧ Repk p A h kvs kws
  | .fl vs, w => ∃ n, w = .ref n ∧ p ≠ some n ∧ ¬A n ∧ ∃ ws, h[n]? = some (.fl ws) ∧ Reps p A h vs ws
  | .prs, w => ∃ n, p = some n ∧ w = .ref n
  | .opl w', w => w = w' ∧ ∃ n, w = .ref n ∧ p ≠ some n ∧ ¬A n ∧ ∃ ws, h[n]? = some (.lst ws)
def Reps (p : Option Nat) (A : Nat → Prop) (h : MH) : List V → List W → Prop
  | [], ws => ws = []
  | v :: vs, ws => ∃ w r, ws = w :: r ∧ Rep p A h v w ∧ Reps p A h vs r
def Repk (p : Option Nat) (A : Nat → Prop) (h : MH) : List (Key × V) → List (Key × W) → Prop
  | [], ws => ws = []
  | (k, v) :: vs, ws => ∃ w r, ws = (k, w) :: r ∧ Rep p A h v w ∧ Repk p A h vs r
end
def Repf (p : Option Nat) (A : Nat → Prop) (h : MH) : List (Nat × V) → List (Nat × W) → Prop
  | [], ws => ws = []
  | (k, v) :: vs, ws => ∃ w r, ws = (k, w) :: r ∧ Rep p A h v w ∧ Repf p A h vs r
/-- what lies in the cell n -/
def Cont (p : Option Nat) (A : Nat → Prop) (h : MH) (v : V) (n : Nat) : Prop := match v with
  | .lst vs => ∃ ws, h[n]? = some (.lst ws) ∧ Reps p A h vs ws
  | .dct kvs => ∃ kws, h[n]? = some (.dct kws) ∧ Repk p A h kvs kws
  | _ => False
def Pz (p : Option Nat) (σ : PS) (h : MH) : Prop := match p with
  | none => σ = []
  | some n => h[n]? = some (.lst (σ.map .int))
structure XE (p : Option Nat) (h h' : MH) : Prop where
  len : h.length ≤ h'.length
  at_ : ∀ (n : Nat) (o : O), p ≠ some n → h[n]? = some o → h'[n]? = some o
theorem XE.refl {p : Option Nat} {h : MH} : XE p h h := ⟨Nat.le_refl _, fun _ _ _ e => e⟩
theorem XE.trans {p : Option Nat} {a b c : MH} (x : XE p a b) (y : XE p b c) : XE p a c := ⟨Nat.le_trans x.len y.len, fun n o hn e => y.at_ n o hn (x.at_ n o hn e)⟩
theorem XE.app {p : Option Nat} (h t : MH) : XE p h (h ++ t) := ⟨by simp, fun n o _ e => by rw [List.getElem?_append_left (List.getElem?_eq_some_iff.mp e).1]; exact e⟩
theorem Pz.app {p : Option Nat} {σ : PS} {h : MH} (t : MH) (x : Pz p σ h) : Pz p σ (h ++ t) := by
  cases p with
  | none => exact x
  | some n => exact (XE.app (p := none) h t).at_ n _ (by simp) x
/-- cells that stay as they are -/
def Sty (p : Option Nat) (A A' : Nat → Prop) (h h' : MH) : Prop := ∀ (n : Nat) (o : O), p ≠ some n → ¬A n → h[n]? = some o → ¬A' n ∧ h'[n]? = some o
theorem XE.sty {p : Option Nat} {A : Nat → Prop} {h h' : MH} (x : XE p h h') : Sty p A A h h' := fun n o hn ha e => ⟨ha, x.at_ n o hn e⟩
mutual
theorem Rep.sty {p : Option Nat} {A A' : Nat → Prop} {h h' : MH} (s : Sty p A A' h h') : ∀ {v : V} {w : W}, Rep p A h v w → Rep p A' h' v w
  | .non, w, r => r
  | .bl b, w, r => r
  | .int i, w, r => r
  | .str _, w, r => r
  | .nm _, w, r => r
  | .tup vs, w, ⟨ws, e, r⟩ => ⟨ws, e, Reps.sty s r⟩
  | .lst vs, w, ⟨n, e, hp, ha, ws, hc, r⟩ => ⟨n, e, hp, (s n _ hp ha hc).1, ws, (s n _ hp ha hc).2, Reps.sty s r⟩
  | .dct kvs, w, ⟨n, e, hp, ha, ws, hc, r⟩ => ⟨n, e, hp, (s n _ hp ha hc).1, ws, (s n _ hp ha hc).2, Repk.sty s r⟩
  | .fl vs, w, ⟨n, e, hp, ha, ws, hc, r⟩ => ⟨n, e, hp, (s n _ hp ha hc).1, ws, (s n _ hp ha hc).2, Reps.sty s r⟩
  | .prs, w, r => r
  | .opl _, w, ⟨e0, n, e, hp, ha, ws, hc⟩ => ⟨e0, n, e, hp, (s n _ hp ha hc).1, ws, (s n _ hp ha hc).2⟩
theorem Reps.sty {p : Option Nat} {A A' : Nat → Prop} {h h' : MH} (s : Sty p A A' h h') : ∀ {v : List V} {w : List W}, Reps p A h v w → Reps p A' h' v w
  | [], w, r => r
  | v :: vs, w, ⟨x, r, e, r1, r2⟩ => ⟨x, r, e, Rep.sty s r1, Reps.sty s r2⟩
theorem Repk.sty {p : Option Nat} {A A' : Nat → Prop} {h h' : MH} (s : Sty p A A' h h') : ∀ {v : List (Key × V)} {w : List (Key × W)}, Repk p A h v w → Repk p A' h' v w
  | [], w, r => r
  | (k, v) :: vs, w, ⟨x, r, e, r1, r2⟩ => ⟨x, r, e, Rep.sty s r1, Repk.sty s r2⟩
end
/-- another purse -/
def Sty2 (p p' : Option Nat) (A A' : Nat → Prop) (h h' : MH) : Prop := ∀ (n : Nat) (o : O), p ≠ some n → ¬A n → h[n]? = some o → p' ≠ some n ∧ ¬A' n ∧ h'[n]? = some o
theorem Sty.two {p : Option Nat} {A A' : Nat → Prop} {h h' : MH} (s : Sty p A A' h h') : Sty2 p p A A' h h' := fun n o hp ha e => ⟨hp, s n o hp ha e⟩
theorem Sty2.one {p : Option Nat} {A A' : Nat → Prop} {h h' : MH} (s : Sty2 p p A A' h h') : Sty p A A' h h' := fun n o hp ha e => (s n o hp ha e).2
mutual
theorem Rep.sty2 {p p' : Option Nat} {A A' : Nat → Prop} {h h' : MH} (s : Sty2 p p' A A' h h') : ∀ {v : V} {w : W}, p' = p ∨ noPr v = true → Rep p A h v w → Rep p' A' h' v w
  | .non, w, _, r => r
  | .bl b, w, _, r => r
  | .int i, w, _, r => r
  | .str _, w, _, r => r
  | .nm _, w, _, r => r
  | .tup vs, w, c, ⟨ws, e, r⟩ => ⟨ws, e, Reps.sty2 s (c.imp id fun c => by simpa only [noPr] using c) r⟩
  | .lst vs, w, c, ⟨n, e, hp, ha, ws, hc, r⟩ => ⟨n, e, (s n _ hp ha hc).1, (s n _ hp ha hc).2.1, ws, (s n _ hp ha hc).2.2, Reps.sty2 s (c.imp id fun c => by simpa only [noPr] using c) r⟩
  | .dct kvs, w, c, ⟨n, e, hp, ha, ws, hc, r⟩ => ⟨n, e, (s n _ hp ha hc).1, (s n _ hp ha hc).2.1, ws, (s n _ hp ha hc).2.2, Repk.sty2 s (c.imp id fun c => by simpa only [noPr] using c) r⟩
  | .fl vs, w, c, ⟨n, e, hp, ha, ws, hc, r⟩ => ⟨n, e, (s n _ hp ha hc).1, (s n _ hp ha hc).2.1, ws, (s n _ hp ha hc).2.2, Reps.sty2 s (c.imp id fun c => by simpa only [noPr] using c) r⟩
  | .prs, w, c, ⟨n, e, r⟩ => ⟨n, c.elim (fun c => c.trans e) (fun c => by simp [noPr] at c), r⟩
  | .opl _, w, _, ⟨e0, n, e, hp, ha, ws, hc⟩ => ⟨e0, n, e, (s n _ hp ha hc).1, (s n _ hp ha hc).2.1, ws, (s n _ hp ha hc).2.2⟩
theorem Reps.sty2 {p p' : Option Nat} {A A' : Nat → Prop} {h h' : MH} (s : Sty2 p p' A A' h h') : ∀ {v : List V} {w : List W}, p' = p ∨ noPrs v = true → Reps p A h v w → Reps p' A' h' v w
  | [], w, _, r => r
  | v :: vs, w, c, ⟨x, r, e, r1, r2⟩ => ⟨x, r, e, Rep.sty2 s (c.imp id fun c => by simp only [noPrs, Bool.and_eq_true] at c; exact c.1) r1, Reps.sty2 s (c.imp id fun c => by simp only [noPrs, Bool.and_eq_true] at c; exact c.2) r2⟩
theorem Repk.sty2 {p p' : Option Nat} {A A' : Nat → Prop} {h h' : MH} (s : Sty2 p p' A A' h h') : ∀ {v : List (Key × V)} {w : List (Key × W)}, p' = p ∨ noPrk v = true → Repk p A h v w → Repk p' A' h' v w
  | [], w, _, r => r
  | (k, v) :: vs, w, c, ⟨x, r, e, r1, r2⟩ => ⟨x, r, e, Rep.sty2 s (c.imp id fun c => by simp only [noPrk, Bool.and_eq_true] at c; exact c.1) r1, Repk.sty2 s (c.imp id fun c => by simp only [noPrk, Bool.and_eq_true] at c; exact c.2) r2⟩
end
theorem Repf.sty {p : Option Nat} {A A' : Nat → Prop} {h h' : MH} (s : Sty p A A' h h') : ∀ {v : List (Nat × V)} {w : List (Nat × W)}, Repf p A h v w → Repf p A' h' v w
  | [], w, r => r
  | (k, v) :: vs, w, ⟨x, r, e, r1, r2⟩ => ⟨x, r, e, Rep.sty s r1, Repf.sty s r2⟩
theorem Cont.sty {p : Option Nat} {A A' : Nat → Prop} {h h' : MH} {v : V} {n : Nat} (s : Sty p A A' h h') (hn : h'[n]? = h[n]?) (c : Cont p A h v n) : Cont p A' h' v n := by
  cases v <;> first | exact c.elim | skip
  · obtain ⟨ws, e, r⟩ := c; exact ⟨ws, hn.trans e, r.sty s⟩
  · obtain ⟨ws, e, r⟩ := c; exact ⟨ws, hn.trans e, r.sty s⟩
/-- only looked at -/
def Pk (p : Option Nat) (A : Nat → Prop) (h : MH) (v : V) (w : W) : Prop := Rep p A h v w ∨ ∃ n, w = .ref n ∧ p ≠ some n ∧ Cont p A h v n
theorem Rep.pk {p : Option Nat} {A : Nat → Prop} {h : MH} {v : V} {w : W} (r : Rep p A h v w) : Pk p A h v w := .inl r
section
variable {p : Option Nat} {A : Nat → Prop} {h : MH} {w : W}
theorem Pk.non (r : Pk p A h .non w) : w = .non := r.elim id fun ⟨_, _, _, c⟩ => c.elim
theorem Pk.bl {b : Bool} (r : Pk p A h (.bl b) w) : w = .bl b := r.elim id fun ⟨_, _, _, c⟩ => c.elim
theorem Pk.int {b : Int} (r : Pk p A h (.int b) w) : w = .int b := r.elim id fun ⟨_, _, _, c⟩ => c.elim
theorem Pk.str {b : Str} (r : Pk p A h (.str b) w) : w = .str b := r.elim id fun ⟨_, _, _, c⟩ => c.elim
theorem Pk.nm {b : Nat} (r : Pk p A h (.nm b) w) : w = .nm b := r.elim id fun ⟨_, _, _, c⟩ => c.elim
theorem Pk.tup {vs : List V} (r : Pk p A h (.tup vs) w) : ∃ ws, w = .tup ws ∧ Reps p A h vs ws := r.elim id fun ⟨_, _, _, c⟩ => c.elim
theorem Pk.lst {vs : List V} (r : Pk p A h (.lst vs) w) : ∃ n ws, w = .ref n ∧ p ≠ some n ∧ h[n]? = some (.lst ws) ∧ Reps p A h vs ws :=
  r.elim (fun ⟨n, e, hp, _, ws, hc, r⟩ => ⟨n, ws, e, hp, hc, r⟩) fun ⟨n, e, hp, ws, hc, r⟩ => ⟨n, ws, e, hp, hc, r⟩
theorem Pk.dct {vs : List (Key × V)} (r : Pk p A h (.dct vs) w) : ∃ n ws, w = .ref n ∧ p ≠ some n ∧ h[n]? = some (.dct ws) ∧ Repk p A h vs ws :=
  r.elim (fun ⟨n, e, hp, _, ws, hc, r⟩ => ⟨n, ws, e, hp, hc, r⟩) fun ⟨n, e, hp, ws, hc, r⟩ => ⟨n, ws, e, hp, hc, r⟩
theorem Pk.fl {vs : List V} (r : Pk p A h (.fl vs) w) : ∃ n ws, w = .ref n ∧ h[n]? = some (.fl ws) ∧ Reps p A h vs ws :=
  r.elim (fun ⟨n, e, hp, _, ws, hc, r⟩ => ⟨n, ws, e, hc, r⟩) fun ⟨_, _, _, c⟩ => c.elim
theorem Pk.prs (r : Pk p A h .prs w) : ∃ n, p = some n ∧ w = .ref n := r.elim id fun ⟨_, _, _, c⟩ => c.elim
theorem Pk.opl {x : W} (r : Pk p A h (.opl x) w) : ∃ n ws, w = .ref n ∧ h[n]? = some (.lst ws) := r.elim (fun ⟨_, n, e, _, _, ws, hc⟩ => ⟨n, ws, e, hc⟩) fun ⟨_, _, _, c⟩ => c.elim
theorem Reps.len : ∀ {vs : List V} {ws : List W}, Reps p A h vs ws → vs.length = ws.length
  | [], ws, r => by cases r; rfl
  | v :: vs, ws, ⟨x, r, e, _, r2⟩ => by subst e; simp [Reps.len r2]
theorem Repk.len : ∀ {vs : List (Key × V)} {ws : List (Key × W)}, Repk p A h vs ws → vs.length = ws.length
  | [], ws, r => by cases r; rfl
  | (k, v) :: vs, ws, ⟨x, r, e, _, r2⟩ => by subst e; simp [Repk.len r2]
theorem Reps.at_ : ∀ {vs : List V} {ws : List W}, Reps p A h vs ws → ∀ {i : Nat} {v : V}, vs[i]? = some v → ∃ w, ws[i]? = some w ∧ Rep p A h v w
  | [], ws, r, i, v, e => by simp at e
  | v :: vs, ws, ⟨x, r, e, r1, r2⟩, 0, v', e' => by subst e; simp at e'; subst e'; exact ⟨x, rfl, r1⟩
  | v :: vs, ws, ⟨x, r, e, r1, r2⟩, i + 1, v', e' => by subst e; simp at e'; simpa using Reps.at_ r2 e'
theorem Reps.cat : ∀ {vs vs' : List V} {ws ws' : List W}, Reps p A h vs ws → Reps p A h vs' ws' → Reps p A h (vs ++ vs') (ws ++ ws')
  | [], vs', ws, ws', r, r' => by cases r; exact r'
  | v :: vs, vs', ws, ws', ⟨x, r, e, r1, r2⟩, r' => by subst e; exact ⟨x, r ++ ws', rfl, r1, Reps.cat r2 r'⟩
theorem Reps.take : ∀ {vs : List V} {ws : List W}, Reps p A h vs ws → ∀ (i : Nat), Reps p A h (vs.take i) (ws.take i)
  | vs, ws, r, 0 => by simp only [List.take_zero]; rfl
  | [], ws, r, i + 1 => by cases r; rfl
  | v :: vs, ws, ⟨x, r, e, r1, r2⟩, i + 1 => by subst e; exact ⟨x, _, rfl, r1, Reps.take r2 i⟩
theorem Reps.drop : ∀ {vs : List V} {ws : List W}, Reps p A h vs ws → ∀ (i : Nat), Reps p A h (vs.drop i) (ws.drop i)
  | vs, ws, r, 0 => r
  | [], ws, r, i + 1 => by cases r; rfl
  | v :: vs, ws, ⟨x, r, e, r1, r2⟩, i + 1 => by subst e; exact Reps.drop r2 i
theorem Reps.set : ∀ {vs : List V} {ws : List W}, Reps p A h vs ws → ∀ (i : Nat) {v : V} {w : W}, Rep p A h v w → Reps p A h (vs.set i v) (ws.set i w)
  | [], ws, r, i, v, w, rv => by cases r; rfl
  | v :: vs, ws, ⟨x, r, e, r1, r2⟩, 0, v', w', rv => by subst e; exact ⟨w', r, rfl, rv, r2⟩
  | v :: vs, ws, ⟨x, r, e, r1, r2⟩, i + 1, v', w', rv => by subst e; exact ⟨x, _, rfl, r1, Reps.set r2 i rv⟩
theorem Reps.one {v : V} (r : Rep p A h v w) : Reps p A h [v] [w] := ⟨w, [], rfl, r, rfl⟩
theorem Reps.app1 {vs : List V} {ws : List W} {v : V} (r : Reps p A h vs ws) (r1 : Rep p A h v w) : Reps p A h (vs ++ [v]) (ws ++ [w]) := r.cat (.one r1)
mutual
theorem wv_rep : ∀ {w : W} {v : V}, wv w = some v → Rep p A h v w
  | .non, v, e => by cases e; rfl
  | .bl b, v, e => by cases e; rfl
  | .int b, v, e => by cases e; rfl
  | .str b, v, e => by cases e; rfl
  | .nm b, v, e => by cases e; rfl
  | .ref n, v, e => by cases e
  | .tup ws, v, e => by
    simp only [wv] at e
    split at e
    · rename_i vs hv; cases e; exact ⟨ws, rfl, wvs_rep hv⟩
    · cases e
theorem wvs_rep : ∀ {ws : List W} {vs : List V}, wvs ws = some vs → Reps p A h vs ws
  | [], vs, e => by cases e; rfl
  | w :: ws, vs, e => by
    simp only [wvs] at e
    split at e
    · rename_i v vs' h1 h2; cases e; exact ⟨w, ws, rfl, wv_rep h1, wvs_rep h2⟩
    · cases e
end
theorem wkv_rep : ∀ {ws : List (Str × W)} {vs : List (Str × V)}, wkv ws = some vs → ∀ {s : Str} {v : V}, kvGet vs s = some v → ∃ w, kvGet ws s = some w ∧ wv w = some v
  | [], vs, e, s, v, g => by cases e; cases g
  | (k, w) :: ws, vs, e, s, v, g => by
    simp only [wkv] at e
    split at e
    · rename_i v' vs' h1 h2
      cases e
      unfold kvGet at g ⊢
      split at g
      · rename_i hk; cases g; rw [if_pos hk]; exact ⟨w, rfl, h1⟩
      · rename_i hk; rw [if_neg hk]; exact wkv_rep h2 g
    · cases e
theorem wkv_some : ∀ {ws : List (Str × W)} {vs : List (Str × V)}, wkv ws = some vs → ∀ {s : Str}, (kvGet vs s).isSome = (kvGet ws s).isSome
  | [], vs, e, s => by cases e; rfl
  | (k, w) :: ws, vs, e, s => by
    simp only [wkv] at e
    split at e
    · rename_i v' vs' h1 h2
      cases e
      unfold kvGet
      split
      · rfl
      · exact wkv_some h2
    · cases e
end
/-! ### data -/
section
variable {p : Option Nat} {A : Nat → Prop} {h : MH}
theorem mapM_reps {n : Nat} (ih : ∀ {v : V} {w : W} {d : PyData}, Rep p A h v w → datV n v = some d → dat n h w = some d) : ∀ {vs : List V} {ws : List W} {ds : List PyData}, Reps p A h vs ws → vs.mapM (datV n) = some ds → ws.mapM (dat n h) = some ds
  | [], ws, ds, r, e => by cases r; simpa using e
  | v :: vs, ws, ds, ⟨x, r, e0, r1, r2⟩, e => by
    subst e0
    simp only [List.mapM_cons, Option.bind_eq_bind, Option.bind_eq_some_iff, Option.pure_def, Option.some.injEq] at e
    obtain ⟨d, h1, ds', h2, rfl⟩ := e
    simp only [List.mapM_cons, ih r1 h1, mapM_reps ih r2 h2]; rfl
theorem Repk.snd : ∀ {vs : List (Key × V)} {ws : List (Key × W)}, Repk p A h vs ws → Reps p A h (vs.map (·.2)) (ws.map (·.2)) ∧ vs.map (·.1) = ws.map (·.1)
  | [], ws, r => by cases r; exact ⟨rfl, rfl⟩
  | (k, v) :: vs, ws, ⟨x, r, e, r1, r2⟩ => by
    subst e
    obtain ⟨i1, i2⟩ := Repk.snd r2
    exact ⟨⟨x, _, rfl, r1, i1⟩, by simp [i2]⟩
theorem pk_dat : ∀ (n : Nat) {v : V} {w : W} {d : PyData}, Pk p A h v w → datV n v = some d → dat n h w = some d := by
  intro n
  induction n with
  | zero => intro v w d r e; simp [datV] at e
  | succ n ih =>
    intro v w d r e
    have go := fun {vs ws ds} => mapM_reps (p := p) (A := A) (h := h) (n := n) (fun r => ih r.pk) (vs := vs) (ws := ws) (ds := ds)
    cases v with
    | non => cases r.non; exact e
    | bl b => cases r.bl; exact e
    | int b => cases r.int; exact e
    | str b => cases r.str; exact e
    | tup vs =>
      obtain ⟨ws, rfl, rs⟩ := r.tup
      simp only [datV, dat, Option.map_eq_some_iff] at e ⊢
      obtain ⟨ds, e1, e2⟩ := e
      exact ⟨ds, go rs e1, e2⟩
    | lst vs =>
      obtain ⟨m, ws, rfl, _, hc, rs⟩ := r.lst
      simp only [datV, dat, hc, Option.map_eq_some_iff] at e ⊢
      obtain ⟨ds, e1, e2⟩ := e
      exact ⟨ds, go rs e1, e2⟩
    | dct vs =>
      obtain ⟨m, ws, rfl, _, hc, rs⟩ := r.dct
      simp only [datV, dat, hc, Option.map_eq_some_iff] at e ⊢
      obtain ⟨ds, e1, e2⟩ := e
      obtain ⟨q1, q2⟩ := rs.snd
      refine ⟨ds, go q1 e1, ?_⟩
      rw [← e2]
      have : (ws.map fun kv => keyD kv.1) = vs.map fun kv => keyD kv.1 := by
        have := congrArg (List.map keyD) q2
        rw [List.map_map, List.map_map] at this
        exact this.symm
      rw [this]
    | _ => simp [datV] at e
end
end Mi
set_option Elab.async false
set_option linter.all false
set_option maxRecDepth 100000
set_option maxHeartbeats 4000000
/-! Operators over plain values and in the heap. -/
namespace Mi
open PySem PySem.Spec PyProof.Rows L2
/-- a new list, of which nothing else knows -/
def Fre (p : Option Nat) (A : Nat → Prop) (l : Nat) (h : MH) (v : V) (w : W) : Prop := isLD v = true → ∃ n, w = .ref n ∧ l ≤ n ∧ p ≠ some n ∧ Cont p (fun m => A m ∨ m = n) h v n
/-- what holds of a heap in which something is told -/
structure Hw (p : Option Nat) (A : Nat → Prop) (σ : PS) (h : MH) : Prop where
  pz : Pz p σ h
  lt : ∀ n, A n → n < h.length
  pa : ∀ n, p = some n → ¬A n
theorem Hw.plt {p : Option Nat} {A : Nat → Prop} {σ : PS} {h : MH} (x : Hw p A σ h) : p ≠ some h.length := by
  intro e
  subst e
  have := x.pz
  simp only [Pz] at this
  rw [List.getElem?_eq_none (Nat.le_refl _)] at this
  cases this
theorem Hw.app {p : Option Nat} {A : Nat → Prop} {σ : PS} {h : MH} (x : Hw p A σ h) (t : MH) : Hw p A σ (h ++ t) := ⟨x.pz.app t, fun n a => by have := x.lt n a; rw [List.length_append]; omega, x.pa⟩
theorem sty_new {p : Option Nat} {A : Nat → Prop} {h t : MH} : Sty p A (fun m => A m ∨ m = h.length) h (h ++ t) := fun n o hn ha e => by
  have hl := (List.getElem?_eq_some_iff.mp e).1
  exact ⟨fun z => z.elim ha fun z => by omega, by rw [List.getElem?_append_left hl]; exact e⟩
theorem Cont.less {p : Option Nat} {A A' : Nat → Prop} {h : MH} {v : V} {n : Nat} (s : ∀ n, A' n → A n) (c : Cont p A h v n) : Cont p A' h v n :=
  c.sty (fun n o hn ha e => ⟨fun z => ha (s n z), e⟩) rfl
theorem Fre.rep {p : Option Nat} {A : Nat → Prop} {σ : PS} {h h' : MH} {v : V} {w : W} (x : Hw p A σ h) (hv : isLD v = true) (f : Fre p A h.length h' v w) : Rep p A h' v w := by
  obtain ⟨n, rfl, hl, hp, c⟩ := f hv
  have c := c.less (A' := A) fun _ => .inl
  have ha : ¬A n := fun a => by have := x.lt n a; omega
  cases v <;> simp only [isLD] at hv <;> first | cases hv | skip
  · exact ⟨n, rfl, hp, ha, c⟩
  · exact ⟨n, rfl, hp, ha, c⟩
section
variable {p : Option Nat} {A : Nat → Prop} {σ : PS} {h : MH}
theorem new_lst {vs : List V} {ws : List W} (x : Hw p A σ h) (r : Reps p A h vs ws) : Fre p A h.length (h ++ [.lst ws]) (.lst vs) (.ref h.length) := fun _ =>
  ⟨h.length, rfl, Nat.le_refl _, x.plt, ws, by rw [at_end0]; rfl, r.sty sty_new⟩
theorem new_dct {vs : List (Key × V)} {ws : List (Key × W)} (x : Hw p A σ h) (r : Repk p A h vs ws) : Fre p A h.length (h ++ [.dct ws]) (.dct vs) (.ref h.length) := fun _ =>
  ⟨h.length, rfl, Nat.le_refl _, x.plt, ws, by rw [at_end0]; rfl, r.sty sty_new⟩
theorem rep_lst {vs : List V} {ws : List W} (x : Hw p A σ h) (r : Reps p A h vs ws) : Rep p A (h ++ [.lst ws]) (.lst vs) (.ref h.length) := (new_lst x r).rep x rfl
theorem op_tru {v : V} {w : W} {b : Bool} (r : Pk p A h v w) (e : truV v = some b) : truW w h = some b := by
  cases v with
  | non => cases r.non; exact e
  | bl _ => cases r.bl; exact e
  | int _ => cases r.int; exact e
  | str _ => cases r.str; exact e
  | tup vs =>
    obtain ⟨ws, rfl, rs⟩ := r.tup
    have := rs.len
    simp only [truV, truW] at e ⊢
    rw [← e]; congr 1
    cases vs <;> cases ws <;> first | rfl | (simp at this)
  | lst vs =>
    obtain ⟨m, ws, rfl, _, hc, rs⟩ := r.lst
    have := rs.len
    simp only [truV, truW, hc] at e ⊢
    rw [← e]; congr 1
    cases vs <;> cases ws <;> first | rfl | (simp at this)
  | dct vs =>
    obtain ⟨m, ws, rfl, _, hc, rs⟩ := r.dct
    have := rs.len
    simp only [truV, truW, hc] at e ⊢
    rw [← e]; congr 1
    cases vs <;> cases ws <;> first | rfl | (simp at this)
  | _ => cases e
theorem op_isi {v : V} {w : W} {t : Ty} {b : Bool} (r : Pk p A h v w) (e : pisi v t = some b) : isiW w t h = some b := by
  cases v with
  | non => cases r.non; exact e
  | bl _ => cases r.bl; exact e
  | int _ => cases r.int; exact e
  | str _ => cases r.str; exact e
  | tup vs => obtain ⟨ws, rfl, rs⟩ := r.tup; exact e
  | lst vs => obtain ⟨m, ws, rfl, _, hc, rs⟩ := r.lst; simp only [isiW, hc]; exact e
  | dct vs => obtain ⟨m, ws, rfl, _, hc, rs⟩ := r.dct; simp only [isiW, hc]; exact e
  | opl _ => obtain ⟨m, ws, rfl, hc⟩ := r.opl; simp only [isiW, hc]; exact e
  | _ => cases e
theorem Reps.atI {vs : List V} {ws : List W} {i : Int} {v : V} (r : Reps p A h vs ws) (e : atI vs i = some v) : ∃ w, L2.atI ws i = some w ∧ Rep p A h v w := by
  unfold L2.atI at e ⊢
  rw [← r.len]
  cases hx : ixN vs.length i with
  | none => rw [hx] at e; cases e
  | some j => rw [hx] at e; exact r.at_ e
theorem Reps.cut {vs : List V} {ws : List W} {lo hi : Option Int} (r : Reps p A h vs ws) : Reps p A h (Mi.cut vs lo hi) (Mi.cut ws lo hi) := by
  unfold Mi.cut
  rw [← r.len]
  exact (r.drop _).take _
theorem Repk.get {k : Key} {v : V} : ∀ {vs : List (Key × V)} {ws : List (Key × W)}, Repk p A h vs ws → kvGet vs k = some v → ∃ w, kvGet ws k = some w ∧ Rep p A h v w
  | [], ws, r, e => by cases e
  | (k', v') :: vs, ws, ⟨x, r, e0, r1, r2⟩, e => by
    subst e0
    unfold kvGet at e ⊢
    split at e
    · rename_i hk; cases e; rw [if_pos hk]; exact ⟨x, rfl, r1⟩
    · rename_i hk; rw [if_neg hk]; exact Repk.get r2 e
theorem Repk.isS {k : Key} : ∀ {vs : List (Key × V)} {ws : List (Key × W)}, Repk p A h vs ws → (kvGet ws k).isSome = (kvGet vs k).isSome
  | [], ws, r => by cases r; rfl
  | (k', v') :: vs, ws, ⟨x, r, e0, r1, r2⟩ => by
    subst e0
    unfold kvGet
    split
    · rfl
    · exact Repk.isS r2
theorem Repk.cat : ∀ {vs vs' : List (Key × V)} {ws ws' : List (Key × W)}, Repk p A h vs ws → Repk p A h vs' ws' → Repk p A h (vs ++ vs') (ws ++ ws')
  | [], vs', ws, ws', r, r' => by cases r; exact r'
  | (k, v) :: vs, vs', ws, ws', ⟨x, r, e, r1, r2⟩, r' => by subst e; exact ⟨x, r ++ ws', rfl, r1, Repk.cat r2 r'⟩
theorem Repk.upd {k : Key} {v : V} {w : W} (rv : Rep p A h v w) : ∀ {vs : List (Key × V)} {ws : List (Key × W)}, Repk p A h vs ws → Repk p A h (vs.map (fun kv => if kv.1 = k then (kv.1, v) else kv)) (ws.map (fun kv => if kv.1 = k then (kv.1, w) else kv))
  | [], ws, r => by cases r; rfl
  | (k', v') :: vs, ws, ⟨x, r, e0, r1, r2⟩ => by
    subst e0
    have ih := Repk.upd (k := k) rv r2
    simp only [List.map_cons]
    by_cases hk : k' = k
    · simp only [hk, if_true]; exact ⟨_, _, rfl, rv, ih⟩
    · simp only [hk, if_false]; exact ⟨_, _, rfl, r1, ih⟩
theorem Repk.put {k : Key} {v : V} {w : W} {vs : List (Key × V)} {ws : List (Key × W)} (rv : Rep p A h v w) (r : Repk p A h vs ws) : Repk p A h (pput vs k v) (kvPut ws k w) := by
  unfold pput kvPut
  rw [r.isS]
  split
  · exact r.upd rv
  · exact r.cat ⟨w, [], rfl, rv, rfl⟩
theorem Repk.merge : ∀ {us : List (Key × V)} {zs : List (Key × W)} {vs : List (Key × V)} {ws : List (Key × W)}, Repk p A h vs ws → Repk p A h us zs → Repk p A h (pmerge vs us) (mergeW ws zs)
  | [], zs, vs, ws, r, r' => by cases r'; exact r
  | (k, v) :: us, zs, vs, ws, r, ⟨x, q, e, r1, r2⟩ => by
    subst e
    exact Repk.merge (us := us) (zs := q) (r.put r1) r2
theorem op_keyV {v : V} {w : W} {k : Key} (r : Pk p A h v w) (e : keyV v = some k) : keyOf w = some k := by
  cases v with
  | int _ => cases r.int; exact e
  | str _ => cases r.str; exact e
  | _ => cases e
def fwV : V → W
  | .bl b => .bl b | .int i => .int i | .str s => .str s | _ => .non
theorem flat_w {v : V} {w : W} (hf : flatV v = true) (r : Pk p A h v w) : w = fwV v := by
  cases v with
  | non => exact r.non
  | bl _ => exact r.bl
  | int _ => exact r.int
  | str _ => exact r.str
  | _ => cases hf
theorem flat_fw {v : V} : flatW (fwV v) = true := by cases v <;> rfl
theorem flat_ws : ∀ {vs : List V} {ws : List W}, vs.all flatV = true → Reps p A h vs ws → ws = vs.map fwV
  | [], ws, _, r => by cases r; rfl
  | v :: vs, ws, hf, ⟨x, r, e, r1, r2⟩ => by
    subst e
    simp only [List.all_cons, Bool.and_eq_true] at hf
    rw [flat_w hf.1 r1.pk, flat_ws hf.2 r2]; rfl
theorem eqF_fw {a b : V} (ha : flatV a = true) (hb : flatV b = true) : eqF (fwV a) (fwV b) = eqFV a b := by
  cases a <;> first | (simp [flatV] at ha; done) | (cases b <;> first | (simp [flatV] at hb; done) | rfl)
theorem inF_fw {a : V} (ha : flatV a = true) : ∀ {vs : List V}, vs.all flatV = true → inF (fwV a) (vs.map fwV) = inFV a vs
  | [], _ => rfl
  | v :: vs, h => by
    simp only [List.all_cons, Bool.and_eq_true] at h
    have ih := inF_fw ha h.2
    unfold inF inFV at ih ⊢
    simp only [List.map_cons, List.any_cons, eqF_fw h.1 ha, ih]
theorem all_fw : ∀ {vs : List V}, (vs.map fwV).all flatW = true
  | [] => rfl
  | v :: vs => by simp only [List.map_cons, List.all_cons, flat_fw, all_fw, Bool.and_self]
/-- a frame of the plain interpreter and one of the other -/
structure CR (C : PC) (C' : Cfg) : Prop where
  calm : C.calm = true → C'.calm = true
  cdt : ∀ g kvs, C.cdt g = some kvs → ∃ kws, C'.cdt g = some kws ∧ wkv kws = some kvs
  glb : ∀ g v, C.glb g = some v → ∃ w, C'.glb g = some w ∧ wv w = some v
  has : ∀ f, C.has f = true → C'.has f = true
  wf : C'.wf = C.wf
  sub : ∀ c d, C'.sub c d = C.sub c d
variable {C : PC} {C' : Cfg}
theorem op_in {x y : V} {x' y' : W} {b : Bool} (c : CR C C') (rx : Pk p A h x x') (ry : Pk p A h y y') (e : pinV C x y = some b) : inW C' x' y' h = some b := by
  have lists : ∀ {vs : List V} {ws : List W}, Reps p A h vs ws → (if flatV x && vs.all flatV then some (inFV x vs) else none) = some b → (if flatW x' && ws.all flatW then some (inF x' ws) else none) = some b := fun {vs ws} rs e => by
    split at e
    · rename_i hf
      simp only [Bool.and_eq_true] at hf
      rw [flat_w hf.1 rx, flat_ws hf.2 rs, flat_fw, all_fw, inF_fw hf.1 hf.2]
      exact e
    · cases e
  cases y with
  | str t =>
    cases ry.str
    cases x with
    | str s => cases rx.str; exact e
    | _ => simp [pinV] at e
  | tup vs => obtain ⟨ws, rfl, rs⟩ := ry.tup; exact lists rs e
  | lst vs => obtain ⟨m, ws, rfl, _, hc, rs⟩ := ry.lst; simp only [inW, hc]; exact lists rs e
  | dct vs =>
    obtain ⟨m, ws, rfl, _, hc, rs⟩ := ry.dct
    simp only [pinV] at e
    simp only [inW, hc]
    split at e
    · rename_i k hk; rw [op_keyV rx hk]; simp only [rs.isS]; exact e
    · cases e
  | nm g =>
    cases ry.nm
    simp only [pinV] at e
    split at e
    · rename_i kvs s hk
      obtain ⟨kws, h1, h2⟩ := c.cdt _ _ hk
      cases rx.str
      simp only [inW, h1, ← wkv_some h2]; exact e
    · cases e
  | _ => simp [pinV] at e
theorem op_eqE {x y : V} {x' y' : W} {b : Bool} (rx : Pk p A h x x') (ry : Pk p A h y y') (e : eqEV x y = some b) : eqE x' y' h = some b := by
  unfold eqEV at e
  split at e
  · cases rx.str; cases ry.str; exact e
  · obtain ⟨xs, rfl, r1⟩ := rx.tup
    obtain ⟨ys, rfl, r2⟩ := ry.tup
    rename_i vs us
    have h1 := r1.len
    have h2 := r2.len
    simp only [eqE]
    cases vs <;> cases xs <;> first | (simp at h1; done) | (cases us <;> cases ys <;> first | (simp at h2; done) | exact e)
  · rename_i vs us
    obtain ⟨m, xs, rfl, _, hc, r1⟩ := rx.lst
    obtain ⟨m', ys, rfl, _, hc', r2⟩ := ry.lst
    have h1 := r1.len
    have h2 := r2.len
    simp only [eqE, hc, hc', ← h1, ← h2]
    have : xs.isEmpty = vs.isEmpty := by cases vs <;> cases xs <;> first | rfl | (simp at h1)
    rw [this]; exact e
  · cases e
theorem op_eqN {x y : V} {x' y' : W} {d f : PyData} (rx : Pk p A h x x') (ry : Pk p A h y y') (hx : datV FU x = some d) (hy : datV FU y = some f) (e : eqEV x y = none) : eqE x' y' h = none := by
  cases x with
  | non => cases rx.non; cases y <;> first | (cases ry.non; rfl) | (cases ry.bl; rfl) | (cases ry.int; rfl) | (cases ry.str; rfl) | (obtain ⟨ws, rfl, rs⟩ := ry.tup; rfl) | (obtain ⟨m, ws, rfl, _⟩ := ry.lst; rfl) | (obtain ⟨m, ws, rfl, _⟩ := ry.dct; rfl) | (simp [datV, FU] at hy)
  | bl _ => cases rx.bl; cases y <;> first | (cases ry.non; rfl) | (cases ry.bl; rfl) | (cases ry.int; rfl) | (cases ry.str; rfl) | (obtain ⟨ws, rfl, rs⟩ := ry.tup; rfl) | (obtain ⟨m, ws, rfl, _⟩ := ry.lst; rfl) | (obtain ⟨m, ws, rfl, _⟩ := ry.dct; rfl) | (simp [datV, FU] at hy)
  | int _ => cases rx.int; cases y <;> first | (cases ry.non; rfl) | (cases ry.bl; rfl) | (cases ry.int; rfl) | (cases ry.str; rfl) | (obtain ⟨ws, rfl, rs⟩ := ry.tup; rfl) | (obtain ⟨m, ws, rfl, _⟩ := ry.lst; rfl) | (obtain ⟨m, ws, rfl, _⟩ := ry.dct; rfl) | (simp [datV, FU] at hy)
  | str _ => cases rx.str; cases y <;> first | (cases ry.non; rfl) | (cases ry.bl; rfl) | (cases ry.int; rfl) | (obtain ⟨ws, rfl, rs⟩ := ry.tup; rfl) | (obtain ⟨m, ws, rfl, _⟩ := ry.lst; rfl) | (obtain ⟨m, ws, rfl, _⟩ := ry.dct; rfl) | (simp [datV, FU] at hy; done) | (simp [eqEV] at e; done)
  | tup vs =>
    obtain ⟨xs, rfl, r1⟩ := rx.tup
    cases y with
    | tup us =>
      obtain ⟨ys, rfl, r2⟩ := ry.tup
      have h1 := r1.len
      have h2 := r2.len
      simp only [eqE]
      cases vs <;> cases xs <;> first | (simp at h1; done) | (cases us <;> cases ys <;> first | (simp at h2; done) | rfl | (simp [eqEV] at e))
    | non => cases ry.non; rfl
    | bl _ => cases ry.bl; rfl
    | int _ => cases ry.int; rfl
    | str _ => cases ry.str; rfl
    | lst _ => obtain ⟨m, ws, rfl, _⟩ := ry.lst; rfl
    | dct _ => obtain ⟨m, ws, rfl, _⟩ := ry.dct; rfl
    | _ => simp [datV, FU] at hy
  | lst vs =>
    obtain ⟨m, xs, rfl, _, hc, r1⟩ := rx.lst
    cases y with
    | lst us =>
      obtain ⟨m', ys, rfl, _, hc', r2⟩ := ry.lst
      have h1 := r1.len
      have h2 := r2.len
      simp only [eqE, hc, hc', ← h1, ← h2]
      have : xs.isEmpty = vs.isEmpty := by cases vs <;> cases xs <;> first | rfl | (simp at h1)
      rw [this]; exact e
    | non => cases ry.non; rfl
    | bl _ => cases ry.bl; rfl
    | int _ => cases ry.int; rfl
    | str _ => cases ry.str; rfl
    | tup _ => obtain ⟨ws, rfl, rs⟩ := ry.tup; rfl
    | dct _ => obtain ⟨m', ws, rfl, _, hc', _⟩ := ry.dct; simp only [eqE, hc, hc']
    | _ => simp [datV, FU] at hy
  | dct vs =>
    obtain ⟨m, xs, rfl, _, hc, r1⟩ := rx.dct
    cases y with
    | lst us => obtain ⟨m', ys, rfl, _, hc', r2⟩ := ry.lst; simp only [eqE, hc, hc']
    | non => cases ry.non; rfl
    | bl _ => cases ry.bl; rfl
    | int _ => cases ry.int; rfl
    | str _ => cases ry.str; rfl
    | tup _ => obtain ⟨ws, rfl, rs⟩ := ry.tup; rfl
    | dct _ => obtain ⟨m', ws, rfl, _, hc', _⟩ := ry.dct; simp only [eqE, hc, hc']
    | _ => simp [datV, FU] at hy
  | _ => simp [datV, FU] at hx
theorem op_eqD {x y : V} {x' y' : W} {b : Bool} (rx : Pk p A h x x') (ry : Pk p A h y y') (e : eqDV x y = some b) : eqD x' y' h = some b ∧ ∃ d f, datV FU x = some d ∧ datV FU y = some f := by
  unfold eqDV at e
  split at e
  · rename_i d f h1 h2
    exact ⟨by simp only [eqD, pk_dat _ rx h1, pk_dat _ ry h2]; exact e, d, f, h1, h2⟩
  · cases e
theorem op_isn {x : V} {x' : W} {b : Bool} (rx : Pk p A h x x') (e : isNonV x = some b) : cmpW C' .is x' .non h = some b ∧ cmpW C' .isn x' .non h = some (!b) := by
  cases x with
  | non => cases rx.non; cases e; exact ⟨rfl, rfl⟩
  | bl _ => cases rx.bl; cases e; exact ⟨rfl, rfl⟩
  | int _ => cases rx.int; cases e; exact ⟨rfl, rfl⟩
  | str _ => cases rx.str; cases e; exact ⟨rfl, rfl⟩
  | tup vs => obtain ⟨ws, rfl, rs⟩ := rx.tup; cases e; exact ⟨rfl, rfl⟩
  | lst vs => obtain ⟨m, ws, rfl, _⟩ := rx.lst; cases e; exact ⟨rfl, rfl⟩
  | dct vs => obtain ⟨m, ws, rfl, _⟩ := rx.dct; cases e; exact ⟨rfl, rfl⟩
  | opl _ => obtain ⟨m, ws, rfl, _⟩ := rx.opl; cases e; exact ⟨rfl, rfl⟩
  | _ => cases e
theorem op_cmp {op : COp} {x y : V} {x' y' : W} {b : Bool} (c : CR C C') (rx : Pk p A h x x') (ry : Pk p A h y y') (e : pcmpW C op x y = some b) : cmpW C' op x' y' h = some b := by
  cases op with
  | eq =>
    simp only [pcmpW] at e
    simp only [cmpW]
    cases he : eqEV x y with
    | some k => rw [he] at e; rw [op_eqE rx ry he]; exact e
    | none =>
      rw [he] at e
      obtain ⟨q, d, f, h1, h2⟩ := op_eqD rx ry e
      rw [op_eqN rx ry h1 h2 he]; exact q
  | ne =>
    simp only [pcmpW] at e
    simp only [cmpW]
    cases he : eqEV x y with
    | some k => rw [he] at e; rw [op_eqE rx ry he]; exact e
    | none =>
      rw [he] at e
      simp only [Option.map_eq_some_iff] at e
      obtain ⟨k, e, rfl⟩ := e
      obtain ⟨q, d, f, h1, h2⟩ := op_eqD rx ry e
      rw [op_eqN rx ry h1 h2 he, q]; rfl
  | lt => simp only [pcmpW] at e; split at e <;> first | (cases rx.int; cases ry.int; exact e) | (cases rx.str; cases ry.str; exact e) | cases e
  | le => simp only [pcmpW] at e; split at e <;> first | (cases rx.int; cases ry.int; exact e) | (cases rx.str; cases ry.str; exact e) | cases e
  | gt => simp only [pcmpW] at e; split at e <;> first | (cases rx.int; cases ry.int; exact e) | cases e
  | ge => simp only [pcmpW] at e; split at e <;> first | (cases rx.int; cases ry.int; exact e) | cases e
  | is =>
    simp only [pcmpW] at e
    split at e
    · split at e
      · cases rx.bl; cases ry.bl; exact e
      · cases e
    · cases ry.non; exact (op_isn (C' := C') rx e).1
    · cases e
  | isn =>
    simp only [pcmpW] at e
    split at e
    · split at e
      · cases rx.bl; cases ry.bl; exact e
      · cases e
    · cases ry.non
      simp only [Option.map_eq_some_iff] at e
      obtain ⟨k, e, rfl⟩ := e
      exact (op_isn (C' := C') rx e).2
    · cases e
  | inn => exact op_in c rx ry e
  | nin =>
    simp only [pcmpW, Option.map_eq_some_iff] at e
    obtain ⟨k, e, rfl⟩ := e
    simp only [cmpW, op_in c rx ry e, Option.map_some]
theorem op_bin {op : BOp} {x y v : V} {x' y' : W} (g : Hw p A σ h) (rx : Pk p A h x x') (ry : Pk p A h y y') (e : pbin op x y = some v) :
    ∃ w t, binW op x' y' h = some (w, h ++ t) ∧ Rep p A (h ++ t) v w ∧ (op = .add → Fre p A h.length (h ++ t) v w) := by
  cases op with
  | add =>
    simp only [pbin] at e
    unfold paddV at e
    split at e
    · cases rx.int; cases ry.int; cases e
      exact ⟨_, [], by rw [List.append_nil]; rfl, rfl, fun _ z => by cases z⟩
    · cases rx.str; cases ry.str
      split at e
      · rename_i hz; cases e; exact ⟨_, [], by rw [List.append_nil]; simp only [binW, addW, hz, if_true], rfl, fun _ z => by cases z⟩
      · cases e
    · obtain ⟨xs, rfl, r1⟩ := rx.tup
      obtain ⟨ys, rfl, r2⟩ := ry.tup
      split at e
      · rename_i hz; cases e
        rw [r1.len, r2.len] at hz
        exact ⟨.tup (xs ++ ys), [], by rw [List.append_nil]; simp only [binW, addW, hz, if_true], by rw [List.append_nil]; exact ⟨_, rfl, r1.cat r2⟩, fun _ z => by cases z⟩
      · cases e
    · obtain ⟨m, xs, rfl, _, hc, r1⟩ := rx.lst
      obtain ⟨m', ys, rfl, _, hc', r2⟩ := ry.lst
      split at e
      · rename_i hz; cases e
        rw [r1.len, r2.len] at hz
        exact ⟨_, [.lst (xs ++ ys)], by simp only [binW, addW, hc, hc', hz, if_true], rep_lst g (r1.cat r2), fun _ => new_lst g (r1.cat r2)⟩
      · cases e
    · cases e
  | sub => simp only [pbin] at e; split at e <;> first | (cases rx.int; cases ry.int; cases e; exact ⟨_, [], by rw [List.append_nil]; rfl, rfl, fun z => by cases z⟩) | cases e
  | mul =>
    simp only [pbin] at e
    split at e
    · cases rx.int; cases ry.int
      split at e
      · rename_i hz; cases e; exact ⟨_, [], by rw [List.append_nil]; simp only [binW, hz, if_true], rfl, fun z => by cases z⟩
      · cases e
    · cases e
  | fdv =>
    simp only [pbin] at e
    split at e
    · cases rx.int; cases ry.int
      split at e
      · rename_i hz; cases e; exact ⟨_, [], by rw [List.append_nil]; simp only [binW]; rw [if_pos hz], rfl, fun z => by cases z⟩
      · cases e
    · cases e
  | mod =>
    simp only [pbin] at e
    split at e
    · cases rx.int; cases ry.int
      split at e
      · rename_i hz; cases e; exact ⟨_, [], by rw [List.append_nil]; simp only [binW]; rw [if_pos hz], rfl, fun z => by cases z⟩
      · cases e
    · cases e
  | pow =>
    simp only [pbin] at e
    split at e
    · cases rx.int; cases ry.int
      split at e
      · rename_i hz; cases e; exact ⟨_, [], by rw [List.append_nil]; simp only [binW]; rw [if_pos hz], rfl, fun z => by cases z⟩
      · cases e
    · cases e
theorem op_get {x y v : V} {x' y' : W} (c : CR C C') (g : Hw p A σ h) (rx : Pk p A h x x') (ry : Pk p A h y y') (e : pget C x y σ = some v) : ∃ w, getW C' x' y' h = some w ∧ Rep p A h v w := by
  cases x with
  | tup vs =>
    obtain ⟨ws, rfl, rs⟩ := rx.tup
    simp only [pget] at e
    split at e
    · cases ry.int; exact rs.atI e
    · cases e
  | str s =>
    cases rx.str
    simp only [pget] at e
    split at e
    · cases ry.int
      simp only [getW]
      split at e
      · rename_i hz; rw [if_pos hz]
        simp only [Option.map_eq_some_iff] at e ⊢
        obtain ⟨k, e1, rfl⟩ := e
        exact ⟨_, ⟨k, e1, rfl⟩, rfl⟩
      · cases e
    · cases e
  | lst vs =>
    obtain ⟨m, ws, rfl, _, hc, rs⟩ := rx.lst
    simp only [pget] at e
    simp only [getW, hc]
    split at e
    · cases ry.int; exact rs.atI e
    · cases e
  | fl vs =>
    obtain ⟨m, ws, rfl, hc, rs⟩ := rx.fl
    simp only [pget] at e
    simp only [getW, hc]
    split at e
    · cases ry.int; exact rs.atI e
    · cases e
  | dct vs =>
    obtain ⟨m, ws, rfl, _, hc, rs⟩ := rx.dct
    simp only [pget, Option.bind_eq_some_iff] at e
    obtain ⟨k, hk, e⟩ := e
    simp only [getW, hc, op_keyV ry hk, Option.bind_some]
    exact rs.get e
  | nm gg =>
    cases rx.nm
    simp only [pget] at e
    split at e
    · rename_i kvs s hk
      obtain ⟨kws, h1, h2⟩ := c.cdt _ _ hk
      cases ry.str
      simp only [getW, h1]
      obtain ⟨w, q1, q2⟩ := wkv_rep h2 e
      exact ⟨w, q1, wv_rep q2⟩
    · cases e
  | prs =>
    obtain ⟨n, rfl, rfl⟩ := rx.prs
    have hc : h[n]? = some (.lst (σ.map .int)) := g.pz
    simp only [pget] at e
    split at e
    · cases ry.int
      simp only [Option.map_eq_some_iff] at e
      obtain ⟨i, e1, rfl⟩ := e
      refine ⟨.int i, ?_, rfl⟩
      simp only [getW, hc]
      unfold L2.atI at e1 ⊢
      rw [List.length_map]
      rename_i j
      cases hx : ixN σ.length j with
      | none => rw [hx] at e1; cases e1
      | some j => rw [hx] at e1; simp only [Option.bind_some, List.getElem?_map] at e1 ⊢; rw [e1]; rfl
    · cases e
  | _ => simp [pget] at e
theorem op_slc {x v : V} {x' : W} {lo hi : Option Int} (g : Hw p A σ h) (rx : Pk p A h x x') (e : pslc x lo hi = some v) :
    ∃ w t, slcW x' lo hi h = some (w, h ++ t) ∧ Rep p A (h ++ t) v w ∧ Fre p A h.length (h ++ t) v w := by
  cases x with
  | tup vs =>
    obtain ⟨ws, rfl, rs⟩ := rx.tup
    cases e
    exact ⟨_, [], by rw [List.append_nil]; rfl, by rw [List.append_nil]; exact ⟨_, rfl, rs.cut⟩, fun z => by cases z⟩
  | str s =>
    cases rx.str
    simp only [pslc] at e
    split at e
    · rename_i hz; cases e; exact ⟨_, [], by rw [List.append_nil]; simp only [slcW, hz, if_true], rfl, fun z => by cases z⟩
    · cases e
  | lst vs =>
    obtain ⟨m, ws, rfl, _, hc, rs⟩ := rx.lst
    cases e
    exact ⟨_, [.lst (Mi.cut ws lo hi)], by simp only [slcW, hc], rep_lst g rs.cut, new_lst g rs.cut⟩
  | _ => cases e
/-! ### built-ins -/
theorem op_seq {x : V} {x' : W} {vs : List V} (rx : Pk p A h x x') (e : pseq x = some vs) : ∃ ws, seqOf x' h = some ws ∧ Reps p A h vs ws := by
  cases x with
  | tup us => obtain ⟨ws, rfl, rs⟩ := rx.tup; cases e; exact ⟨ws, rfl, rs⟩
  | lst us => obtain ⟨m, ws, rfl, _, hc, rs⟩ := rx.lst; cases e; exact ⟨ws, by simp only [seqOf, hc], rs⟩
  | fl us => obtain ⟨m, ws, rfl, hc, rs⟩ := rx.fl; cases e; exact ⟨ws, by simp only [seqOf, hc], rs⟩
  | _ => cases e
theorem op_lst {x : V} {x' : W} {vs : List V} (rx : Pk p A h x x') (e : plst x = some vs) : ∃ ws, lstOf x' h = some ws ∧ Reps p A h vs ws := by
  cases x with
  | lst us => obtain ⟨m, ws, rfl, _, hc, rs⟩ := rx.lst; cases e; exact ⟨ws, by simp only [lstOf, hc], rs⟩
  | _ => cases e
theorem op_bls : ∀ {vs : List V} {ws : List W} {bs : List Bool}, Reps p A h vs ws → pbls vs = some bs → blsOf ws = some bs
  | [], ws, bs, r, e => by cases r; exact e
  | .bl b :: vs, ws, bs, ⟨x, r, e0, r1, r2⟩, e => by
    subst e0
    cases r1.pk.bl
    simp only [pbls, Option.map_eq_some_iff] at e
    obtain ⟨cs, e, rfl⟩ := e
    simp only [blsOf, op_bls r2 e, Option.map_some]
  | .non :: vs, ws, bs, _, e => by cases e
  | .int _ :: vs, ws, bs, _, e => by cases e
  | .str _ :: vs, ws, bs, _, e => by cases e
  | .tup _ :: vs, ws, bs, _, e => by cases e
  | .lst _ :: vs, ws, bs, _, e => by cases e
  | .dct _ :: vs, ws, bs, _, e => by cases e
  | .fl _ :: vs, ws, bs, _, e => by cases e
  | .nm _ :: vs, ws, bs, _, e => by cases e
  | .prs :: vs, ws, bs, _, e => by cases e
  | .opl _ :: vs, ws, bs, _, e => by cases e
theorem op_ints : ∀ {vs : List V} {ws : List W} {bs : List Int}, Reps p A h vs ws → pints vs = some bs → intsOf ws = some bs
  | [], ws, bs, r, e => by cases r; exact e
  | .int b :: vs, ws, bs, ⟨x, r, e0, r1, r2⟩, e => by
    subst e0
    cases r1.pk.int
    simp only [pints, Option.map_eq_some_iff] at e
    obtain ⟨cs, e, rfl⟩ := e
    simp only [intsOf, op_ints r2 e, Option.map_some]
  | .non :: vs, ws, bs, _, e => by cases e
  | .bl _ :: vs, ws, bs, _, e => by cases e
  | .str _ :: vs, ws, bs, _, e => by cases e
  | .tup _ :: vs, ws, bs, _, e => by cases e
  | .lst _ :: vs, ws, bs, _, e => by cases e
  | .dct _ :: vs, ws, bs, _, e => by cases e
  | .fl _ :: vs, ws, bs, _, e => by cases e
  | .nm _ :: vs, ws, bs, _, e => by cases e
  | .prs :: vs, ws, bs, _, e => by cases e
  | .opl _ :: vs, ws, bs, _, e => by cases e
theorem op_ints2 : ∀ {vs : List V} {ws : List W} {bs : List Int}, Reps p A h vs ws → pints vs = some bs → ws = bs.map .int
  | [], ws, bs, r, e => by cases r; cases e; rfl
  | .int b :: vs, ws, bs, ⟨x, r, e0, r1, r2⟩, e => by
    subst e0
    cases r1.pk.int
    simp only [pints, Option.map_eq_some_iff] at e
    obtain ⟨cs, e, rfl⟩ := e
    rw [op_ints2 r2 e]; rfl
  | .non :: vs, ws, bs, _, e => by cases e
  | .bl _ :: vs, ws, bs, _, e => by cases e
  | .str _ :: vs, ws, bs, _, e => by cases e
  | .tup _ :: vs, ws, bs, _, e => by cases e
  | .lst _ :: vs, ws, bs, _, e => by cases e
  | .dct _ :: vs, ws, bs, _, e => by cases e
  | .fl _ :: vs, ws, bs, _, e => by cases e
  | .nm _ :: vs, ws, bs, _, e => by cases e
  | .prs :: vs, ws, bs, _, e => by cases e
  | .opl _ :: vs, ws, bs, _, e => by cases e
theorem op_strs : ∀ {vs : List V} {ws : List W} {bs : List Str}, Reps p A h vs ws → pstrs vs = some bs → strsOf ws = some bs
  | [], ws, bs, r, e => by cases r; exact e
  | .str b :: vs, ws, bs, ⟨x, r, e0, r1, r2⟩, e => by
    subst e0
    cases r1.pk.str
    simp only [pstrs, Option.map_eq_some_iff] at e
    obtain ⟨cs, e, rfl⟩ := e
    simp only [strsOf, op_strs r2 e, Option.map_some]
  | .non :: vs, ws, bs, _, e => by cases e
  | .bl _ :: vs, ws, bs, _, e => by cases e
  | .int _ :: vs, ws, bs, _, e => by cases e
  | .tup _ :: vs, ws, bs, _, e => by cases e
  | .lst _ :: vs, ws, bs, _, e => by cases e
  | .dct _ :: vs, ws, bs, _, e => by cases e
  | .fl _ :: vs, ws, bs, _, e => by cases e
  | .nm _ :: vs, ws, bs, _, e => by cases e
  | .prs :: vs, ws, bs, _, e => by cases e
  | .opl _ :: vs, ws, bs, _, e => by cases e
theorem op_pairs : ∀ {vs : List V} {ws : List W} {bs : List (Key × V)}, Reps p A h vs ws → ppairs vs = some bs → ∃ cs, Mi.pairsOf ws = some cs ∧ Repk p A h bs cs
  | [], ws, bs, r, e => by cases r; cases e; exact ⟨[], rfl, rfl⟩
  | v :: vs, ws, bs, ⟨x, r, e0, r1, r2⟩, e => by
    subst e0
    unfold ppairs at e
    split at e
    · rename_i h0; cases h0
    · rename_i k u rest hq
      cases hq
      obtain ⟨us, rfl, q⟩ := r1
      obtain ⟨k', q1, rfl, rk, q2⟩ := q
      obtain ⟨u', q3, rfl, ru, q4⟩ := q2
      cases q4
      split at e
      · rename_i k2 r3 hk hr
        cases e
        obtain ⟨cs, e1, e2⟩ := op_pairs r2 hr
        exact ⟨(k2, u') :: cs, by simp only [Mi.pairsOf, op_keyV rk.pk hk, e1], u', cs, rfl, ru, e2⟩
      · cases e
    · cases e
theorem op_blt {b : Blt} {vs : List V} {ws : List W} {v : V} (c : CR C C') (g : Hw p A σ h) (r : vs.length = ws.length ∧ ∀ (i : Nat) (x : V), vs[i]? = some x → ∃ w, ws[i]? = some w ∧ Pk p A h x w) (e : pblt C b vs = some v) :
    ∃ w t, bltW C' b ws h = some (w, h ++ t) ∧ Rep p A (h ++ t) v w ∧ (b = .list ∨ b = .dict → Fre p A h.length (h ++ t) v w) := by
  have one : ∀ {x : V}, vs = [x] → ∃ w, ws = [w] ∧ Pk p A h x w := fun {x} hx => by
    subst hx
    obtain ⟨w, h1, h2⟩ := r.2 0 x rfl
    have := r.1
    match ws, this with
    | [w'], _ => simp at h1; subst h1; exact ⟨w', rfl, h2⟩
  have two : ∀ {x y : V}, vs = [x, y] → ∃ w z, ws = [w, z] ∧ Pk p A h x w ∧ Pk p A h y z := fun {x y} hx => by
    subst hx
    obtain ⟨w, h1, h2⟩ := r.2 0 x rfl
    obtain ⟨z, h3, h4⟩ := r.2 1 y rfl
    have := r.1
    match ws, this with
    | [w', z'], _ => simp at h1 h3; subst h1; subst h3; exact ⟨w', z', rfl, h2, h4⟩
  cases b with
  | len =>
    simp only [pblt] at e
    split at e
    · rename_i s
      obtain ⟨w, rfl, rw'⟩ := one rfl
      cases rw'.str
      split at e
      · rename_i hz; cases e; exact ⟨_, [], by rw [List.append_nil]; simp only [bltW, hz, if_true], rfl, fun z => by simp at z⟩
      · cases e
    · rename_i x hx
      obtain ⟨w, rfl, rw'⟩ := one rfl
      split at e
      · rename_i ys hy
        cases e
        obtain ⟨zs, h1, h2⟩ := op_seq rw' hy
        refine ⟨.int ys.length, [], ?_, rfl, fun z => by simp at z⟩
        rw [List.append_nil, h2.len]
        cases w with
        | str s => simp [seqOf] at h1
        | _ => simp only [bltW, h1]
      · cases e
    · cases e
  | max =>
    simp only [pblt] at e
    split at e
    · rename_i hc
      split at e
      · obtain ⟨w, z, rfl, r1, r2⟩ := two rfl
        cases r1.int; cases r2.int; cases e
        exact ⟨_, [], by rw [List.append_nil]; simp only [bltW, c.calm hc, if_true], rfl, fun z => by simp at z⟩
      · cases e
    · cases e
  | min =>
    simp only [pblt] at e
    split at e
    · rename_i hc
      split at e
      · obtain ⟨w, z, rfl, r1, r2⟩ := two rfl
        cases r1.int; cases r2.int; cases e
        exact ⟨_, [], by rw [List.append_nil]; simp only [bltW, c.calm hc, if_true], rfl, fun z => by simp at z⟩
      · cases e
    · cases e
  | repr =>
    simp only [pblt] at e
    split at e
    · obtain ⟨w, rfl, rw'⟩ := one rfl
      split at e
      · rename_i d hd
        split at e
        · rename_i hz; cases e; exact ⟨_, [], by rw [List.append_nil]; simp only [bltW, pk_dat _ rw' hd]; rw [if_pos hz], rfl, fun z => by simp at z⟩
        · cases e
      · cases e
    · cases e
  | all =>
    simp only [pblt] at e
    split at e
    · rename_i hc
      split at e
      · obtain ⟨w, rfl, rw'⟩ := one rfl
        simp only [Option.map_eq_some_iff, Option.bind_eq_some_iff] at e
        obtain ⟨bs, ⟨us, h1, h2⟩, rfl⟩ := e
        obtain ⟨zs, h3, h4⟩ := op_lst rw' h1
        exact ⟨_, [], by rw [List.append_nil]; simp only [bltW, c.calm hc, if_true, h3, Option.bind_some, op_bls h4 h2, Option.map_some], rfl, fun z => by simp at z⟩
      · cases e
    · cases e
  | any =>
    simp only [pblt] at e
    split at e
    · rename_i hc
      split at e
      · obtain ⟨w, rfl, rw'⟩ := one rfl
        simp only [Option.map_eq_some_iff, Option.bind_eq_some_iff] at e
        obtain ⟨bs, ⟨us, h1, h2⟩, rfl⟩ := e
        obtain ⟨zs, h3, h4⟩ := op_lst rw' h1
        exact ⟨_, [], by rw [List.append_nil]; simp only [bltW, c.calm hc, if_true, h3, Option.bind_some, op_bls h4 h2, Option.map_some], rfl, fun z => by simp at z⟩
      · cases e
    · cases e
  | sum =>
    simp only [pblt] at e
    split at e
    · rename_i hc
      split at e
      · obtain ⟨w, rfl, rw'⟩ := one rfl
        simp only [Option.map_eq_some_iff, Option.bind_eq_some_iff] at e
        obtain ⟨bs, ⟨us, h1, h2⟩, rfl⟩ := e
        obtain ⟨zs, h3, h4⟩ := op_lst rw' h1
        exact ⟨_, [], by rw [List.append_nil]; simp only [bltW, c.calm hc, if_true, h3, Option.bind_some, op_ints h4 h2, Option.map_some], rfl, fun z => by simp at z⟩
      · cases e
    · cases e
  | int =>
    simp only [pblt] at e
    split at e
    · obtain ⟨w, rfl, rw'⟩ := one rfl
      cases rw'.int; cases e
      exact ⟨_, [], by rw [List.append_nil]; rfl, rfl, fun z => by simp at z⟩
    · obtain ⟨w, rfl, rw'⟩ := one rfl
      cases rw'.bl; cases e
      exact ⟨_, [], by rw [List.append_nil]; rfl, rfl, fun z => by simp at z⟩
    · cases e
  | list =>
    simp only [pblt] at e
    split at e
    · obtain ⟨w, rfl, rw'⟩ := one rfl
      simp only [Option.map_eq_some_iff] at e
      obtain ⟨us, h1, rfl⟩ := e
      obtain ⟨zs, h3, h4⟩ := op_seq rw' h1
      exact ⟨_, [.lst zs], by simp only [bltW, h3, Option.map_some], rep_lst g h4, fun _ => new_lst g h4⟩
    · cases e
  | tuple =>
    simp only [pblt] at e
    split at e
    · obtain ⟨w, rfl, rw'⟩ := one rfl
      simp only [Option.map_eq_some_iff] at e
      obtain ⟨us, h1, rfl⟩ := e
      obtain ⟨zs, h3, h4⟩ := op_seq rw' h1
      exact ⟨.tup zs, [], by rw [List.append_nil]; simp only [bltW, h3, Option.map_some], by rw [List.append_nil]; exact ⟨zs, rfl, h4⟩, fun z => by simp at z⟩
    · cases e
  | dict =>
    simp only [pblt] at e
    split at e
    · rename_i hc
      split at e
      · obtain ⟨w, rfl, rw'⟩ := one rfl
        simp only [Option.map_eq_some_iff, Option.bind_eq_some_iff] at e
        obtain ⟨kvs, ⟨us, h1, h2⟩, rfl⟩ := e
        obtain ⟨zs, h3, h4⟩ := op_lst rw' h1
        obtain ⟨cs, h5, h6⟩ := op_pairs h4 h2
        have m := Repk.merge (p := p) (A := A) (h := h) (vs := []) (ws := []) rfl h6
        exact ⟨_, [.dct (mergeW [] cs)], by simp only [bltW, c.calm hc, if_true, h3, Option.bind_some, h5, Option.map_some], (new_dct g m).rep g rfl, fun _ => new_dct g m⟩
      · cases e
    · cases e
theorem strs_reps : ∀ {l : List Str}, Reps p A h (l.map .str) (l.map .str)
  | [] => rfl
  | s :: l => ⟨_, _, rfl, rfl, strs_reps⟩
theorem op_mth {m : Mth} {o v : V} {o' : W} {vs : List V} {ws : List W} (g : Hw p A σ h) (ro : Pk p A h o o') (r : vs.length = ws.length ∧ ∀ (i : Nat) (x : V), vs[i]? = some x → ∃ w, ws[i]? = some w ∧ Pk p A h x w) (e : pmth m o vs = some v) :
    ∃ w t, mthW m o' ws h = some (w, h ++ t) ∧ Rep p A (h ++ t) v w ∧ (m = .split → Fre p A h.length (h ++ t) v w) := by
  have one : ∀ {x : V}, vs = [x] → ∃ w, ws = [w] ∧ Pk p A h x w := fun {x} hx => by
    subst hx
    obtain ⟨w, h1, h2⟩ := r.2 0 x rfl
    have := r.1
    match ws, this with
    | [w'], _ => simp at h1; subst h1; exact ⟨w', rfl, h2⟩
  cases m with
  | split =>
    simp only [pmth] at e
    split at e
    · obtain ⟨w, rfl, rw'⟩ := one rfl
      cases ro.str; cases rw'.str
      split at e
      · rename_i hz; cases e
        exact ⟨_, [.lst _], by simp only [mthW]; rw [if_pos hz], rep_lst g strs_reps, fun _ => new_lst g strs_reps⟩
      · cases e
    · cases e
  | join =>
    simp only [pmth] at e
    split at e
    · obtain ⟨w, rfl, rw'⟩ := one rfl
      cases ro.str
      split at e
      · rename_i ys hy
        simp only [Option.bind_eq_some_iff] at hy
        obtain ⟨us, h1, h2⟩ := hy
        obtain ⟨zs, h3, h4⟩ := op_seq rw' h1
        split at e
        · rename_i hz; cases e
          exact ⟨_, [], by rw [List.append_nil]; simp only [mthW, h3, Option.bind_some, op_strs h4 h2]; rw [if_pos hz], rfl, fun z => by cases z⟩
        · cases e
      · cases e
    · cases e
  | _ => cases e
end
end Mi
set_option Elab.async false
set_option linter.all false
set_option maxRecDepth 100000
set_option maxHeartbeats 4000000
/-! Expressions: what the plain interpreter tells lies in the heap. -/
namespace Mi
open PySem PySem.Spec PyProof.Rows L2
structure REn (p : Option Nat) (A : Nat → Prop) (own : Nat → Bool) (h : MH) (ρv : LV) (ρ : Lo) : Prop where
  len : ρv.length = ρ.length
  at_ : ∀ i v, ρv[i]? = some (some v) → ∃ w, ρ[i]? = some (some w) ∧ (own i = false → Rep p A h v w) ∧ (own i = true → ∃ n, w = .ref n ∧ A n ∧ p ≠ some n ∧ Cont p A h v n)
def XR (p : Option Nat) (A : Nat → Prop) (h : MH) (C : PC) (C' : Cfg) : Prop := match C.exn with
  | none => C'.exn = none
  | some (j, fs) => ∃ n fw, C'.exn = some (j, n) ∧ p ≠ some n ∧ ¬A n ∧ h[n]? = some (.xd fw) ∧ Repf p A h fs fw
structure SR (p : Option Nat) (A : Nat → Prop) (σ : PS) (h : MH) (C : PC) (C' : Cfg) (ρv : LV) (ρ : Lo) : Prop where
  g : Hw p A σ h
  e : REn p A C.own h ρv ρ
  x : XR p A h C C'
  c : CR C C'
def Snd (p : Option Nat) (A : Nat → Prop) {α β : Type} (x : Po α) (y : Mo β) (h : MH) (Q : MH → α → β → Prop) : Prop :=
  ∀ r, x = some r → match r with
    | .ok a σ' => ∃ b h', y = rt b h' ∧ XE p h h' ∧ Pz p σ' h' ∧ Q h' a b
    | .ex c fs σ' => ∃ fw h', y = some (.ex c fw h') ∧ XE p h h' ∧ Pz p σ' h' ∧ Repf p A h' fs fw
def CallR (C : PC) (C' : Cfg) : Prop := ∀ (p : Option Nat) (A : Nat → Prop) (f : Nat) (vs : List V) (σ : PS) (h : MH) (ws : List W), Hw p A σ h → Reps p A h vs ws →
  Snd p A (C.call f vs σ) (C'.call f ws h) h (fun h' v w => Rep p A h' v w ∧ (C.fr f = true → Fre p A h.length h' v w))
section
variable {p : Option Nat} {A : Nat → Prop} {σ : PS} {h : MH}
theorem Snd.none {α β : Type} {y : Mo β} {Q : MH → α → β → Prop} : Snd p A (none : Po α) y h Q := fun r e => by cases e
theorem Snd.pure {α β : Type} {a : α} {b : β} {Q : MH → α → β → Prop} (z : Pz p σ h) (q : Q h a b) : Snd p A (prt a σ) (rt b h) h Q := fun r e => by
  cases e
  exact ⟨b, h, rfl, .refl, z, q⟩
theorem Snd.bind {α β γ δ : Type} {x : Po α} {y : Mo β} {f : α → PS → Po γ} {g : β → MH → Mo δ} {Q : MH → α → β → Prop} {Q' : MH → γ → δ → Prop} (s : Snd p A x y h Q)
    (k : ∀ a b σ1 h1, XE p h h1 → Pz p σ1 h1 → Q h1 a b → Snd p A (f a σ1) (g b h1) h1 Q') : Snd p A (pbd x f) (bd y g) h Q' := fun r e => by
  cases x with
  | none => cases e
  | some x =>
    cases x with
    | ok a σ1 =>
      obtain ⟨b, h1, rfl, x1, z1, q⟩ := s _ rfl
      have := k a b σ1 h1 x1 z1 q r e
      cases r with
      | ok c σ2 => obtain ⟨d, h2, e2, x2, r2⟩ := this; exact ⟨d, h2, e2, x1.trans x2, r2⟩
      | ex c fs σ2 => obtain ⟨d, h2, e2, x2, r2⟩ := this; exact ⟨d, h2, e2, x1.trans x2, r2⟩
    | ex c fs σ1 =>
      obtain ⟨fw, h1, rfl, x1, z1, q⟩ := s _ rfl
      cases e
      exact ⟨fw, h1, rfl, x1, z1, q⟩
theorem Snd.imp {α β : Type} {x : Po α} {y : Mo β} {Q Q' : MH → α → β → Prop} (s : Snd p A x y h Q) (i : ∀ h' a b, XE p h h' → Q h' a b → Q' h' a b) : Snd p A x y h Q' := fun r e => by
  have := s r e
  cases r with
  | ok a σ1 => obtain ⟨b, h1, e1, x1, z1, q⟩ := this; exact ⟨b, h1, e1, x1, z1, i _ _ _ x1 q⟩
  | ex c fs σ1 => exact this
/-- something that cannot fail -/
theorem Snd.up {α β : Type} {o : Option α} {o' : Option (β × MH)} {Q : MH → α → β → Prop} (z : Pz p σ h) (k : ∀ a, o = some a → ∃ b t, o' = some (b, h ++ t) ∧ Q (h ++ t) a b) : Snd p A (pup o σ) (up o') h Q := fun r e => by
  cases o with
  | none => cases e
  | some a =>
    cases e
    obtain ⟨b, t, rfl, q⟩ := k a rfl
    exact ⟨b, h ++ t, rfl, .app _ _, z.app t, q⟩
theorem Snd.up0 {α β : Type} {o : Option α} {o' : Option β} {Q : MH → α → β → Prop} (z : Pz p σ h) (k : ∀ a, o = some a → ∃ b, o' = some b ∧ Q h a b) : Snd p A (pup o σ) (Mi.up (o'.map fun r => (r, h))) h Q :=
  .up z fun a e => by
    obtain ⟨b, rfl, q⟩ := k a e
    exact ⟨b, [], by rw [List.append_nil]; rfl, by rw [List.append_nil]; exact q⟩
theorem Snd.upB {α β γ : Type} {o : Option α} {o' : Option β} {f : β → γ} {Q : MH → α → γ → Prop} (z : Pz p σ h) (k : ∀ a, o = some a → ∃ b, o' = some b ∧ Q h a (f b)) : Snd p A (pup o σ) (Mi.up (o'.map fun r => (f r, h))) h Q :=
  .up z fun a e => by
    obtain ⟨b, rfl, q⟩ := k a e
    exact ⟨f b, [], by rw [List.append_nil]; rfl, by rw [List.append_nil]; exact q⟩
theorem Cont.mono {h' : MH} {v : V} {n : Nat} (x : XE p h h') (hp : p ≠ some n) (c : Cont p A h v n) : Cont p A h' v n := by
  cases v <;> first | exact c.elim | skip
  · obtain ⟨ws, e, r⟩ := c; exact ⟨ws, x.at_ n _ hp e, r.sty x.sty⟩
  · obtain ⟨ws, e, r⟩ := c; exact ⟨ws, x.at_ n _ hp e, r.sty x.sty⟩
theorem Pk.mono {h' : MH} {v : V} {w : W} (x : XE p h h') (r : Pk p A h v w) : Pk p A h' v w := r.elim (fun r => .inl (r.sty x.sty)) fun ⟨n, e, hp, c⟩ => .inr ⟨n, e, hp, c.mono x hp⟩
theorem Hw.mono {σ' : PS} {h' : MH} (g : Hw p A σ h) (x : XE p h h') (z : Pz p σ' h') : Hw p A σ' h' := ⟨z, fun n a => Nat.lt_of_lt_of_le (g.lt n a) x.len, g.pa⟩
theorem REn.mono {own : Nat → Bool} {ρv : LV} {ρ : Lo} {h' : MH} (e : REn p A own h ρv ρ) (x : XE p h h') : REn p A own h' ρv ρ := ⟨e.len, fun i v hi => by
  obtain ⟨w, h1, h2, h3⟩ := e.at_ i v hi
  exact ⟨w, h1, fun o => (h2 o).sty x.sty, fun o => let ⟨n, q1, q2, q3, q4⟩ := h3 o; ⟨n, q1, q2, q3, q4.mono x q3⟩⟩⟩
theorem XR.mono {C : PC} {C' : Cfg} {h' : MH} (r : XR p A h C C') (x : XE p h h') : XR p A h' C C' := by
  unfold XR at r ⊢
  split <;> rename_i he
  · rw [he] at r; exact r
  · rw [he] at r
    obtain ⟨n, fw, h1, h2, h3, h4, h5⟩ := r
    exact ⟨n, fw, h1, h2, h3, x.at_ n _ h2 h4, h5.sty x.sty⟩
variable {C : PC} {C' : Cfg} {ρv : LV} {ρ : Lo}
theorem SR.mono {σ' : PS} {h' : MH} (s : SR p A σ h C C' ρv ρ) (x : XE p h h') (z : Pz p σ' h') : SR p A σ' h' C C' ρv ρ := ⟨s.g.mono x z, s.e.mono x, s.x.mono x, s.c⟩
theorem Fre.le {l l' : Nat} {v : V} {w : W} (hl : l ≤ l') (f : Fre p A l' h v w) : Fre p A l h v w := fun hv => let ⟨n, e, h1, h2⟩ := f hv; ⟨n, e, Nat.le_trans hl h1, h2⟩
theorem look_ok {i : Nat} (s : SR p A σ h C C' ρv ρ) : Snd p A (plook ρv i σ) (ev C' (.var i) ρ h) h (fun h' v w => Pk p A h' v w ∧ (C.own i = false → Rep p A h' v w)) := fun r e => by
  unfold plook at e
  split at e
  · rename_i v hv
    cases e
    obtain ⟨w, h1, h2, h3⟩ := s.e.at_ i v hv
    refine ⟨w, h, by simp only [ev, h1], .refl, s.g.pz, ?_, h2⟩
    cases ho : C.own i with
    | false => exact (h2 ho).pk
    | true => obtain ⟨n, q1, q2, q3, q4⟩ := h3 ho; exact .inr ⟨n, q1, q3, q4⟩
  · cases e
/-- the sound ones -/
def EOk (e : ME) : Prop := ∀ {p : Option Nat} {A : Nat → Prop} {σ : PS} {h : MH} {C : PC} {C' : Cfg} {ρv : LV} {ρ : Lo}, SR p A σ h C C' ρv ρ → CallR C C' → Snd p A (pev C e ρv σ) (ev C' e ρ h) h (fun h' v w => Rep p A h' v w ∧ (frE C e = true → Fre p A h.length h' v w))
def TOk (e : ME) : Prop := ∀ {p : Option Nat} {A : Nat → Prop} {σ : PS} {h : MH} {C : PC} {C' : Cfg} {ρv : LV} {ρ : Lo}, SR p A σ h C C' ρv ρ → CallR C C' → Snd p A (ptst C e ρv σ) (tst C' e ρ h) h (fun _ v w => v = w)
theorem pk_ok {e : ME} (ih : EOk e) (s : SR p A σ h C C' ρv ρ) (k : CallR C C') : Snd p A (match isV e with | some i => plook ρv i σ | none => pev C e ρv σ) (ev C' e ρ h) h (fun h' v w => Pk p A h' v w) := by
  cases e with
  | var i => exact (look_ok s).imp fun _ _ _ _ q => q.1
  | _ => exact (ih s k).imp fun _ _ _ _ q => q.1.pk
/-- lists of things that are looked at -/
def Pks (p : Option Nat) (A : Nat → Prop) (h : MH) (vs : List V) (ws : List W) : Prop := vs.length = ws.length ∧ ∀ (i : Nat) (x : V), vs[i]? = some x → ∃ w, ws[i]? = some w ∧ Pk p A h x w
def Repp (p : Option Nat) (A : Nat → Prop) (h : MH) : List (V × V) → List (W × W) → Prop
  | [], ws => ws = []
  | (a, b) :: vs, ws => ∃ a' b' r, ws = (a', b') :: r ∧ Rep p A h a a' ∧ Rep p A h b b' ∧ Repp p A h vs r
theorem Repp.keys : ∀ {vs : List (V × V)} {ws : List (W × W)} {kvs : List (Key × V)}, Repp p A h vs ws → pkeys vs = some kvs → ∃ kws, keysOf ws = some kws ∧ Repk p A h kvs kws
  | [], ws, kvs, r, e => by cases r; cases e; exact ⟨[], rfl, rfl⟩
  | (a, b) :: vs, ws, kvs, ⟨a', b', r, e0, r1, r2, r3⟩, e => by
    subst e0
    simp only [pkeys] at e
    split at e
    · rename_i k rs hk hr
      cases e
      obtain ⟨kws, h1, h2⟩ := Repp.keys r3 hr
      exact ⟨(k, b') :: kws, by simp only [keysOf, op_keyV r1.pk hk, h1], b', kws, rfl, r2, h2⟩
    · cases e
/-- what is walked -/
def SrcR (u : Bool) (p : Option Nat) (A : Nat → Prop) (h : MH) (s : List V) (src : Src) : Prop := ∀ p' A' h', p' = p ∨ (u = true ∧ noPrs s = true) → Sty2 p p' A A' h h' → src.len h' = s.length ∧ ∀ i, i ≤ s.length → ∃ r, src.item h' i = some r ∧ (match s[i]? with
  | some v => ∃ w, r = some w ∧ Rep p' A' h' v w
  | none => r = none)
theorem Reps.nth {vs : List V} {ws : List W} (r : Reps p A h vs ws) (i : Nat) : match vs[i]? with
    | some v => ∃ w, ws[i]? = some w ∧ Rep p A h v w
    | none => ws[i]? = none := by
  split
  · rename_i v hv; exact r.at_ hv
  · rename_i hv
    rw [List.getElem?_eq_none_iff] at hv ⊢
    rw [← r.len]; exact hv
def BsR (p : Option Nat) (A : Nat → Prop) (h : MH) (s : List V) (b : Bs) : Prop := ∀ p' A' h', p' = p ∨ noPrs s = true → Sty2 p p' A A' h h' → ∃ ws, b.items h' = some ws ∧ Reps p' A' h' s ws
theorem fix_bs {vs : List V} {ws : List W} (r : Reps p A h vs ws) : BsR p A h vs (.fix ws) := fun p' A' h' c s => ⟨ws, rfl, r.sty2 s c⟩
theorem lst_bs {vs : List V} {n : Nat} (r : Rep p A h (.lst vs) (.ref n)) : BsR p A h vs (.lst n) := fun p' A' h' c s => by
  obtain ⟨m, e, hp, ha, ws, hc, rs⟩ := r
  cases e
  exact ⟨ws, by simp only [Bs.items, (s _ _ hp ha hc).2.2], rs.sty2 s c⟩
theorem BsR.src {u : Bool} {vs : List V} {b : Bs} (r : BsR p A h vs b) : SrcR u p A h vs (.one b) := fun p' A' h' c s => by
  obtain ⟨ws, e, rs⟩ := r p' A' h' (c.imp id And.right) s
  refine ⟨by simp only [Src.len, Bs.len, e, rs.len], fun i _ => ⟨ws[i]?, by simp only [Src.item, e, Option.map_some], ?_⟩⟩
  have := rs.nth i
  split <;> rename_i he <;> rw [he] at this <;> exact this
theorem psrc_ok {x : V} {w : W} {vs : List V} (r : Rep p A h x w) (e : psrcV x = some vs) : ∃ b, srcOf w h = some b ∧ BsR p A h vs b := by
  cases x with
  | tup us => obtain ⟨ws, rfl, rs⟩ := r; cases e; exact ⟨_, rfl, fix_bs rs⟩
  | str s =>
    cases r; cases e
    refine ⟨_, rfl, fix_bs ?_⟩
    have : ∀ l : List Nat, Reps p A h (l.map fun c => V.str ⟨#[c]⟩) (l.map fun c => W.str ⟨#[c]⟩) := by
      intro l
      induction l with
      | nil => rfl
      | cons c l ih => exact ⟨_, _, rfl, rfl, ih⟩
    exact this _
  | lst us =>
    have r0 := r
    obtain ⟨n, rfl, hp, ha, ws, hc, rs⟩ := r
    cases e
    exact ⟨.lst n, by simp only [srcOf, hc], lst_bs r0⟩
  | _ => cases e
theorem penm_len : ∀ (i : Nat) (vs : List V), (penm i vs).length = vs.length
  | _, [] => rfl
  | i, v :: vs => by simp [penm, penm_len (i + 1) vs]
theorem penm_at : ∀ (vs : List V) (k i : Nat), (penm k vs)[i]? = (vs[i]?).map fun v => V.tup [.int ((k + i : Nat) : Int), v]
  | [], k, i => by simp [penm]
  | v :: vs, k, 0 => by simp [penm]
  | v :: vs, k, i + 1 => by
    simp only [penm, List.getElem?_cons_succ, penm_at vs (k + 1) i]
    have : k + 1 + i = k + (i + 1) := by omega
    rw [this]
theorem pzip_at : ∀ (xs ys : List V) (i : Nat), (pzip xs ys)[i]? = match xs[i]?, ys[i]? with
    | some a, some b => some (.tup [a, b])
    | _, _ => none
  | [], ys, i => by simp [pzip]
  | x :: xs, [], i => by
    simp only [pzip, List.getElem?_nil]
    split <;> simp_all
  | x :: xs, y :: ys, 0 => by simp [pzip]
  | x :: xs, y :: ys, i + 1 => by simp only [pzip, List.getElem?_cons_succ, pzip_at xs ys i]
theorem pzip_len : ∀ (xs ys : List V), (pzip xs ys).length = min xs.length ys.length
  | [], ys => by simp [pzip]
  | x :: xs, [] => by simp [pzip]
  | x :: xs, y :: ys => by simp only [pzip, List.length_cons, pzip_len xs ys]; omega
theorem penm_no : ∀ (vs : List V) (k : Nat), noPrs (penm k vs) = noPrs vs
  | [], k => rfl
  | v :: vs, k => by simp only [penm, noPrs, noPr, penm_no vs (k + 1), Bool.true_and, Bool.and_true]
theorem pzip_no : ∀ (xs ys : List V), xs.length ≤ ys.length → noPrs (pzip xs ys) = true → noPrs xs = true
  | [], ys, _, _ => rfl
  | x :: xs, [], h, _ => by simp at h
  | x :: xs, y :: ys, h, e => by
    simp only [pzip, noPrs, noPr, Bool.and_eq_true] at e ⊢
    exact ⟨e.1.1, pzip_no xs ys (by simpa using h) e.2⟩
theorem BsR.enm {u : Bool} {vs : List V} {b : Bs} (r : BsR p A h vs b) : SrcR u p A h (penm 0 vs) (.enm b) := fun p' A' h' c s => by
  obtain ⟨ws, e, rs⟩ := r p' A' h' (c.imp id fun c => by rw [penm_no] at c; exact c.2) s
  refine ⟨by simp only [Src.len, Bs.len, e, rs.len, penm_len], fun i _ => ⟨(ws[i]?).map fun w => .tup [.int i, w], by simp only [Src.item, e, Option.map_some], ?_⟩⟩
  have := rs.nth i
  rw [penm_at]
  cases hv : vs[i]? with
  | none => rw [hv] at this; simp only at this; simp only [Option.map_none, this]
  | some v =>
    rw [hv] at this
    obtain ⟨w, h1, h2⟩ := this
    simp only [Option.map_some, h1]
    exact ⟨_, rfl, _, rfl, _, _, rfl, by simp only [Nat.zero_add]; rfl, _, _, rfl, h2, rfl⟩
theorem BsR.zip {u : Bool} {vs us : List V} {b c : Bs} (r : BsR p A h vs b) (q : BsR p A h us c) (hn : u = false ∨ (noPrs vs = true ∧ noPrs us = true)) : SrcR u p A h (pzip vs us) (.zip b c) := fun p' A' h' cc s => by
  have cc : p' = p ∨ (noPrs vs = true ∧ noPrs us = true) := cc.elim .inl fun cc => hn.elim (fun z => by rw [z] at cc; cases cc.1) .inr
  obtain ⟨ws, e, rs⟩ := r p' A' h' (cc.imp id And.left) s
  obtain ⟨zs, e', qs⟩ := q p' A' h' (cc.imp id And.right) s
  refine ⟨by simp only [Src.len, Bs.len, e, e', ← rs.len, ← qs.len, pzip_len], fun i hi => ?_⟩
  rw [pzip_len] at hi
  have h1 := rs.nth i
  have h2 := qs.nth i
  rw [pzip_at]
  simp only [Src.item, e, e']
  have l1 := rs.len
  have l2 := qs.len
  cases hv : vs[i]? with
  | none =>
    rw [hv] at h1
    simp only at h1
    simp only [h1]
    rw [List.getElem?_eq_none_iff] at hv
    exact ⟨none, by rw [if_pos (by omega)], rfl⟩
  | some v =>
    rw [hv] at h1
    obtain ⟨w, h3, h4⟩ := h1
    cases hu : us[i]? with
    | none =>
      rw [hu] at h2
      simp only at h2
      simp only [h2, h3]
      rw [List.getElem?_eq_none_iff] at hu
      exact ⟨none, by rw [if_pos (by omega)], rfl⟩
    | some u =>
      rw [hu] at h2
      obtain ⟨z, h5, h6⟩ := h2
      simp only [h3, h5]
      exact ⟨_, rfl, _, rfl, _, rfl, _, _, rfl, h4, _, _, rfl, h6, rfl⟩
theorem prng_ok {u : Bool} {lo hi : Int} {vs : List V} (e : prng lo hi = some vs) : ∃ s, rngW lo hi = some s ∧ SrcR u p A h vs s := by
  unfold prng at e
  unfold rngW
  split at e
  · rename_i hz
    cases e
    rw [if_pos hz]
    refine ⟨_, rfl, fun p' A' h' _ s => ⟨by simp only [Src.len, List.length_map, List.length_range], fun i hi' => ?_⟩⟩
    rw [List.length_map, List.length_range] at hi'
    refine ⟨_, rfl, ?_⟩
    rw [List.getElem?_map]
    by_cases hi2 : i < (hi - lo).toNat
    · rw [List.getElem?_range hi2, if_pos hi2]
      exact ⟨_, rfl, rfl⟩
    · rw [List.getElem?_eq_none (by simpa using Nat.le_of_not_lt hi2), if_neg hi2]
      rfl
  · cases e
/-! ### targets -/
theorem REn.set {own : Nat → Bool} {i : Nat} {v : V} {w : W} (e : REn p A own h ρv ρ) (ho : own i = false) (r : Rep p A h v w) : REn p A own h (ρv.set i (some v)) (ρ.set i (some w)) := ⟨by simp [e.len], fun j u hj => by
  rw [List.getElem?_set] at hj ⊢
  by_cases hij : i = j
  · subst hij
    rw [if_pos rfl] at hj ⊢
    rw [← e.len]
    split at hj
    · rename_i hl
      cases hj
      rw [if_pos hl]
      exact ⟨w, rfl, fun _ => r, fun q => by rw [ho] at q; cases q⟩
    · cases hj
  · rw [if_neg hij] at hj ⊢
    exact e.at_ j u hj⟩
theorem REn.wipe1 {own : Nat → Bool} {i : Nat} (e : REn p A own h ρv ρ) : REn p A own h (ρv.set i none) (ρ.set i none) := ⟨by simp [e.len], fun j u hj => by
  rw [List.getElem?_set] at hj ⊢
  by_cases hij : i = j
  · subst hij
    rw [if_pos rfl] at hj
    split at hj <;> cases hj
  · rw [if_neg hij] at hj ⊢
    exact e.at_ j u hj⟩
theorem REn.wipe {own : Nat → Bool} (e : REn p A own h ρv ρ) : ∀ is : List Nat, REn p A own h (pwipe ρv is) (wipeW ρ is)
  | [] => e
  | i :: is => (e.wipe is).wipe1
theorem REn.sets {own : Nat → Bool} : ∀ {is : List Nat} {vs : List V} {ws : List W} {ρv : LV} {ρ : Lo}, REn p A own h ρv ρ → is.all (fun i => !own i) = true → Reps p A h vs ws → vs.length = is.length →
    REn p A own h (pSet ρv is vs) ((is.zip ws).foldl (fun r q => r.set q.1 (some q.2)) ρ)
  | [], vs, ws, ρv, ρ, e, _, r, hl => by
    cases vs with
    | nil => cases r; exact e
    | cons _ _ => simp at hl
  | i :: is, [], ws, ρv, ρ, e, _, r, hl => by simp at hl
  | i :: is, v :: vs, ws, ρv, ρ, e, ho, ⟨w, q, e0, r1, r2⟩, hl => by
    subst e0
    simp only [List.all_cons, Bool.and_eq_true, Bool.not_eq_true'] at ho
    simp only [pSet, List.zip_cons_cons, List.foldl_cons]
    exact REn.sets (e.set ho.1 r1) ho.2 r2 (by simpa using hl)
theorem ptg_ok {tg : MG} {v : V} {w : W} {ρv' : LV} (e : REn p A C.own h ρv ρ) (r : Rep p A h v w) (k : ptg C tg v ρv = some ρv') : ∃ ρ', tgW tg w ρ h = some ρ' ∧ REn p A C.own h ρv' ρ' := by
  cases tg with
  | nm i =>
    simp only [ptg] at k
    split at k
    · cases k
    · rename_i ho
      cases k
      exact ⟨_, rfl, e.set (by simpa using ho) r⟩
  | tp is =>
    simp only [ptg] at k
    split at k
    · rename_i xs
      obtain ⟨ws, rfl, rs⟩ := r
      split at k
      · rename_i hz
        cases k
        refine ⟨_, by simp only [tgW]; rw [if_pos (by rw [← rs.len]; exact hz.1)], e.sets hz.2 rs hz.1⟩
      · cases k
    · cases k
theorem SR.env {ρv' : LV} {ρ' : Lo} (s : SR p A σ h C C' ρv ρ) (e : REn p A C.own h ρv' ρ') : SR p A σ h C C' ρv' ρ' := ⟨s.g, e, s.x, s.c⟩
/-! ### comprehensions -/
theorem XE.set {h' : MH} {n : Nat} {o : O} (x : XE p h h') (hn : h.length ≤ n) : XE p h (h'.set n o) := ⟨by rw [List.length_set]; exact x.len, fun m o' hp e => by
  have := (List.getElem?_eq_some_iff.mp e).1
  rw [List.getElem?_set_ne (by omega)]
  exact x.at_ m o' hp e⟩
theorem Pz.set {h' : MH} {n : Nat} {o : O} (z : Pz p σ h') (hn : p ≠ some n) : Pz p σ (h'.set n o) := by
  cases p with
  | none => exact z
  | some m =>
    simp only [Pz] at z ⊢
    rw [List.getElem?_set_ne (fun q => hn (by rw [q]))]
    exact z
def A1 (A : Nat → Prop) (n : Nat) : Nat → Prop := fun m => A m ∨ m = n
theorem SR.app {C : PC} {C' : Cfg} {h' : MH} {σ' : PS} (s : SR p A σ h C C' ρv ρ) (x : XE p h h') (z : Pz p σ' h') (hl : h.length < h'.length) : SR p (A1 A h.length) σ' h' C C' ρv ρ := by
  have st : Sty p A (A1 A h.length) h h' := fun n o hp ha e => by
    have := (List.getElem?_eq_some_iff.mp e).1
    exact ⟨fun q => q.elim ha fun q => by omega, x.at_ n o hp e⟩
  refine ⟨⟨z, fun n a => a.elim (fun a => Nat.lt_of_lt_of_le (s.g.lt n a) x.len) (fun a => by omega), fun n e a => a.elim (s.g.pa n e) fun q => s.g.plt (by rw [e, q])⟩, ⟨s.e.len, fun i v hi => ?_⟩, ?_, s.c⟩
  · obtain ⟨w, h1, h2, h3⟩ := s.e.at_ i v hi
    refine ⟨w, h1, fun o => (h2 o).sty st, fun o => ?_⟩
    obtain ⟨n, q1, q2, q3, q4⟩ := h3 o
    refine ⟨n, q1, .inl q2, q3, ?_⟩
    cases v <;> first | exact q4.elim | skip
    · obtain ⟨ws, e, r⟩ := q4; exact ⟨ws, x.at_ n _ q3 e, r.sty st⟩
    · obtain ⟨ws, e, r⟩ := q4; exact ⟨ws, x.at_ n _ q3 e, r.sty st⟩
  · have r := s.x
    unfold XR at r ⊢
    split <;> rename_i he
    · rw [he] at r; exact r
    · rw [he] at r
      obtain ⟨n, fw, h1, h2, h3, h4, h5⟩ := r
      exact ⟨n, fw, h1, h2, (st n _ h2 h3 h4).1, x.at_ n _ h2 h4, h5.sty st⟩
theorem comp_ok {u : Bool} {F : V → PS → Po (Option V)} {F' : W → MH → Mo (Option W)} {src : Src} {h1 : MH} {s0 : List V} (hs : SrcR u p A h1 s0 src) (hp : p ≠ some h1.length)
    (step : ∀ v w σ h', XE p h1 h' → Pz p σ h' → h1.length < h'.length → Rep p (A1 A h1.length) h' v w → Snd p (A1 A h1.length) (F v σ) (F' w h') h' (fun h2 a b => match a with
      | none => b = none
      | some y => ∃ w, b = some w ∧ Rep p (A1 A h1.length) h2 y w) ∧ (∀ c fs σ2, F v σ ≠ some (.ex c fs σ2))) :
    ∀ (xs : List V) (i : Nat) (accv : List V) (σ : PS) (h' : MH), xs = s0.drop i → i ≤ s0.length → XE p h1 h' → Pz p σ h' → h1.length < h'.length → (∃ acc, h'[h1.length]? = some (.lst acc) ∧ Reps p (A1 A h1.length) h' accv acc) →
      ∀ r, pcomp F accv.length xs σ = some r → ∃ ys σ2 h2, r = .ok ys σ2 ∧ cmpLp F' h1.length src (xs.length + 1) i h' = rt () h2 ∧ XE p h1 h2 ∧ Pz p σ2 h2 ∧ ∃ acc, h2[h1.length]? = some (.lst acc) ∧ Reps p (A1 A h1.length) h2 (accv ++ ys) acc := by
  have sty : ∀ {h' : MH}, XE p h1 h' → Sty p A (A1 A h1.length) h1 h' := fun {h'} x n o hp ha e => by
    have := (List.getElem?_eq_some_iff.mp e).1
    exact ⟨fun q => q.elim ha fun q => by omega, x.at_ n o hp e⟩
  intro xs
  induction xs with
  | nil =>
    intro i accv σ h' hx hi x z hl hacc r e
    cases e
    have hi2 : s0.length ≤ i := by
      have := congrArg List.length hx
      simp at this; omega
    obtain ⟨r, e1, e2⟩ := (hs _ _ _ (.inl rfl) (sty x).two).2 i hi
    rw [List.getElem?_eq_none hi2] at e2
    simp only at e2
    subst e2
    refine ⟨[], σ, h', rfl, ?_, x, z, ?_⟩
    · simp only [List.length_nil, cmpLp, e1]
    · simpa using hacc
  | cons v xs ih =>
    intro i accv σ h' hx hi x z hl hacc r e
    have hi2 : i < s0.length := by
      have := congrArg List.length hx
      simp at this; omega
    have hd : s0[i]? = some v := by
      have := congrArg (·[0]?) hx
      simpa using this.symm
    have hx2 : xs = s0.drop (i + 1) := by
      have := congrArg (List.drop 1) hx
      simpa using this
    obtain ⟨r1, e1, e2⟩ := (hs _ _ _ (.inl rfl) (sty x).two).2 i hi
    rw [hd] at e2
    obtain ⟨w, rfl, rw'⟩ := e2
    obtain ⟨st, nex⟩ := step v w σ h' x z hl rw'
    simp only [pcomp] at e
    obtain ⟨acc, hc, ra⟩ := hacc
    cases hF : F v σ with
    | none => rw [hF] at e; cases e
    | some q =>
      cases q with
      | ex c fs σ2 => exact absurd hF (nex c fs σ2)
      | ok a σ1 =>
        obtain ⟨b, h2, e3, x2, z2, q⟩ := st _ hF
        rw [hF, pbd_ok] at e
        have hc2 : h2[h1.length]? = some (.lst acc) := x2.at_ _ _ hp hc
        have hl2 : h1.length < h2.length := Nat.lt_of_lt_of_le hl x2.len
        have ra2 := ra.sty x2.sty
        rw [List.length_cons, cmpLp]
        simp only [e1, e3, bd_rt]
        cases a with
        | none =>
          simp only at q
          subst q
          exact ih (i + 1) accv σ1 h2 hx2 (by omega) (x.trans x2) z2 hl2 ⟨acc, hc2, ra2⟩ r e
        | some y =>
          obtain ⟨w', rfl, ry⟩ := q
          simp only at e
          split at e
          · rename_i hz
            simp only [hc2]
            rw [if_pos (by rw [← ra.len]; exact hz)]
            have stn : Sty p (A1 A h1.length) (A1 A h1.length) h2 (h2.set h1.length (.lst (acc ++ [w']))) := fun n o hp ha e => by
              refine ⟨ha, ?_⟩
              rw [List.getElem?_set_ne (fun q => ha (.inr q.symm))]
              exact e
            cases hR : pcomp F (accv.length + 1) xs σ1 with
            | none => rw [hR] at e; cases e
            | some r0 =>
              obtain ⟨ys, σ2, h3, rfl, e4, x4, z4, acc', hc4, ra4⟩ := ih (i + 1) (accv ++ [y]) σ1 (h2.set h1.length (.lst (acc ++ [w']))) hx2 (by omega) ((x.trans x2).set (Nat.le_refl _)) (z2.set hp) (by rw [List.length_set]; exact hl2)
                ⟨acc ++ [w'], List.getElem?_set_self hl2, (ra2.sty stn).app1 (ry.sty stn)⟩ r0 (by simpa using hR)
              rw [hR, pbd_ok] at e
              cases e
              exact ⟨y :: ys, σ2, h3, rfl, e4, x4, z4, acc', hc4, by simpa using ra4⟩
          · cases e
end
end Mi
set_option Elab.async false
set_option linter.all false
set_option maxRecDepth 100000
set_option maxHeartbeats 4000000
/-! All expressions. -/
namespace Mi
open PySem PySem.Spec PyProof.Rows L2
section
variable {p : Option Nat} {A : Nat → Prop} {σ : PS} {h : MH} {C : PC} {C' : Cfg} {ρv : LV} {ρ : Lo}
theorem mthK_ok {m : Mth} {o : V} {o' : W} (ro : Pk p A h o o') (e : pmthK m o = true) : mthK m o' h = true := by
  unfold pmthK at e
  split at e <;> first | (cases ro.str; rfl) | cases e
theorem Repp.sty {A' : Nat → Prop} {h' : MH} (s : Sty p A A' h h') : ∀ {v : List (V × V)} {w : List (W × W)}, Repp p A h v w → Repp p A' h' v w
  | [], w, r => r
  | (a, b) :: vs, w, ⟨a', b', r, e, r1, r2, r3⟩ => ⟨a', b', r, e, r1.sty s, r2.sty s, Repp.sty s r3⟩
theorem Pks.cons {v : V} {w : W} {vs : List V} {ws : List W} (r : Pk p A h v w) (rs : Pks p A h vs ws) : Pks p A h (v :: vs) (w :: ws) := ⟨by simp [rs.1], fun i x hi => by
  cases i with
  | zero => simp at hi; subst hi; exact ⟨w, rfl, r⟩
  | succ i => simp at hi; simpa using rs.2 i x hi⟩
theorem itl_reps : ∀ {kvs : List (Key × V)} {kws : List (Key × W)}, Repk p A h kvs kws → Reps p A h (kvs.map fun kv => .tup [kV kv.1, kv.2]) (kws.map fun kv => .tup [kW kv.1, kv.2])
  | [], kws, r => by cases r; rfl
  | (k, v) :: kvs, kws, ⟨w, r, e, r1, r2⟩ => by
    subst e
    refine ⟨_, _, rfl, ⟨_, rfl, kW k, [w], rfl, ?_, w, [], rfl, r1, rfl⟩, itl_reps r2⟩
    cases k <;> rfl
end
def pcmpF (C : PC) (elt : ME) (tg : MG) (cnd : Option ME) (ρw : LV) (w : V) (σ2 : PS) : Po (Option V) := match ptg C tg w ρw with
  | none => none
  | some ρ2 => match cnd with
    | none => pbd (pnoex (pev C elt ρ2 σ2)) fun y σ3 => prt (some y) σ3
    | some c => pbd (pnoex (ptst C c ρ2 σ2)) fun k σ3 => if k = true then pbd (pnoex (pev C elt ρ2 σ3)) fun y σ4 => prt (some y) σ4 else prt none σ3
theorem pev_comp (C : PC) (elt : ME) (tg : MG) (it : MI) (cnd : Option ME) (vs : List Nat) (ρ : LV) (σ : PS) : pev C (.comp elt tg it cnd vs) ρ σ = if C.calm && vs.all (fun i => !C.own i) then pbd (pevi C it ρ σ) fun s σ1 => pbd (pcomp (pcmpF C elt tg cnd (pwipe ρ vs)) 0 s σ1) fun ys σ2 => prt (.lst ys) σ2 else none := by
  have hF : pcmpF C elt tg cnd (pwipe ρ vs) = fun w σ2 => match ptg C tg w (pwipe ρ vs) with
      | none => none
      | some ρ2 => match cnd with
        | none => pbd (pnoex (pev C elt ρ2 σ2)) fun y σ3 => prt (some y) σ3
        | some c => pbd (pnoex (ptst C c ρ2 σ2)) fun k σ3 => if k = true then pbd (pnoex (pev C elt ρ2 σ3)) fun y σ4 => prt (some y) σ4 else prt none σ3 := by
    funext w σ2
    unfold pcmpF
    cases ptg C tg w (pwipe ρ vs) with
    | none => rfl
    | some ρ2 => cases cnd <;> rfl
  rw [hF]
  cases cnd with
  | none =>
    simp only [pev]
    all_goals (split <;> first | (congr 1; done) | rfl)
  | some c =>
    simp only [pev]
    all_goals (split <;> first | (congr 1; done) | rfl)
mutual
theorem pev_ok : ∀ e : ME, EOk e
  | .var i => fun s k => by
    rename_i p A σ h C C' ρv ρ
    simp only [pev]
    split
    · exact .none
    · rename_i ho
      exact (look_ok s).imp fun _ _ _ _ q => ⟨q.2 (by simpa using ho), fun hf => by simp [frE] at hf⟩
  | .int i => fun s k => by
    rename_i p A σ h C C' ρv ρ
    simp only [pev, ev]
    exact .pure s.g.pz ⟨rfl, fun hf => by simp [frE] at hf⟩
  | .str i => fun s k => by
    rename_i p A σ h C C' ρv ρ
    simp only [pev, ev]
    exact .pure s.g.pz ⟨rfl, fun hf => by simp [frE] at hf⟩
  | .bl i => fun s k => by
    rename_i p A σ h C C' ρv ρ
    simp only [pev, ev]
    exact .pure s.g.pz ⟨rfl, fun hf => by simp [frE] at hf⟩
  | .non => fun s k => by
    rename_i p A σ h C C' ρv ρ
    simp only [pev, ev]
    exact .pure s.g.pz ⟨rfl, fun hf => by simp [frE] at hf⟩
  | .glb x => fun s k => by
    rename_i p A σ h C C' ρv ρ
    simp only [pev, ev]
    cases hx : C.glb x with
    | none => exact .none
    | some v =>
      obtain ⟨w, h1, h2⟩ := s.c.glb x v hx
      simp only [h1]
      exact .pure s.g.pz ⟨wv_rep h2, fun hf => by simp [frE] at hf⟩
  | .tup es => fun s k => by
    rename_i p A σ h C C' ρv ρ
    simp only [pev, ev]
    refine (pevs_ok es s k).bind fun vs ws σ1 h1 x1 z1 r1 => ?_
    rw [← r1.len]
    split
    · exact .pure z1 ⟨⟨ws, rfl, r1⟩, fun hf => by simp [frE] at hf⟩
    · exact .none
  | .lst es => fun s k => by
    rename_i p A σ h C C' ρv ρ
    simp only [pev, ev]
    refine (pevs_ok es s k).bind fun vs ws σ1 h1 x1 z1 r1 => ?_
    rw [← r1.len]
    have g1 := s.g.mono x1 z1
    split
    · intro r e
      cases e
      exact ⟨_, _, rfl, .app _ _, z1.app _, rep_lst g1 r1, fun _ => (new_lst g1 r1).le x1.len⟩
    · exact .none
  | .bin op a b => fun s k => by
    rename_i p A σ h C C' ρv ρ
    simp only [pev, ev]
    refine (pk_ok (pev_ok a) s k).bind fun x x' σ1 h1 x1 z1 r1 => (pk_ok (pev_ok b) (s.mono x1 z1) k).bind fun y y' σ2 h2 x2 z2 r2 => ?_
    have g2 := (s.g.mono x1 z1).mono x2 z2
    refine .up z2 fun v e => ?_
    obtain ⟨w, t, e1, e2, e3⟩ := op_bin g2 (r1.mono x2) r2 e
    refine ⟨w, t, e1, e2, fun hf => ?_⟩
    cases op <;> simp [frE] at hf
    exact (e3 rfl).le (x1.trans x2).len
  | .neg a => fun s k => by
    rename_i p A σ h C C' ρv ρ
    simp only [pev, ev]
    refine (pev_ok a s k).bind fun x x' σ1 h1 x1 z1 r1 => ?_
    cases x with
    | int i => cases r1.1.pk.int; exact .pure z1 ⟨rfl, fun hf => by simp [frE] at hf⟩
    | _ => exact .none
  | .cmp op a b => fun s k => by
    rename_i p A σ h C C' ρv ρ
    simp only [pev, ev]
    refine (pk_ok (pev_ok a) s k).bind fun x x' σ1 h1 x1 z1 r1 => (pk_ok (pev_ok b) (s.mono x1 z1) k).bind fun y y' σ2 h2 x2 z2 r2 => ?_
    refine .upB z2 fun v e => ?_
    simp only [Option.map_eq_some_iff] at e
    obtain ⟨q, e, rfl⟩ := e
    exact ⟨q, op_cmp s.c (r1.mono x2) r2 e, rfl, fun hf => by simp [frE] at hf⟩
  | .chn op op' a b c => fun s k => by
    rename_i p A σ h C C' ρv ρ
    simp only [pev, ev]
    refine (pev_ok a s k).bind fun x x' σ1 h1 x1 z1 r1 => (pev_ok b (s.mono x1 z1) k).bind fun y y' σ2 h2 x2 z2 r2 => ?_
    have s2 := (s.mono x1 z1).mono x2 z2
    cases hc : pcmpW C op x y with
    | none => exact .none
    | some q =>
      rw [op_cmp s.c (r1.1.pk.mono x2) r2.1.pk hc]
      cases q with
      | false => exact .pure z2 ⟨rfl, fun hf => by simp [frE] at hf⟩
      | true =>
        refine (pev_ok c s2 k).bind fun u u' σ3 h3 x3 z3 r3 => ?_
        refine .upB z3 fun v e => ?_
        simp only [Option.map_eq_some_iff] at e
        obtain ⟨q, e, rfl⟩ := e
        exact ⟨q, op_cmp s.c (r2.1.pk.mono x3) r3.1.pk e, rfl, fun hf => by simp [frE] at hf⟩
  | .and a b => fun s k => by
    rename_i p A σ h C C' ρv ρ
    simp only [pev, ev]
    refine (pev_ok a s k).bind fun x x' σ1 h1 x1 z1 r1 => ?_
    cases x with
    | bl q =>
      cases r1.1.pk.bl
      cases q with
      | true => exact (pev_ok b (s.mono x1 z1) k).imp fun _ _ _ _ q => ⟨q.1, fun hf => by simp [frE] at hf⟩
      | false => exact .pure z1 ⟨rfl, fun hf => by simp [frE] at hf⟩
    | _ => exact .none
  | .or a b => fun s k => by
    rename_i p A σ h C C' ρv ρ
    simp only [pev, ev]
    refine (pev_ok a s k).bind fun x x' σ1 h1 x1 z1 r1 => ?_
    cases x with
    | bl q =>
      cases r1.1.pk.bl
      cases q with
      | false => exact (pev_ok b (s.mono x1 z1) k).imp fun _ _ _ _ q => ⟨q.1, fun hf => by simp [frE] at hf⟩
      | true => exact .pure z1 ⟨rfl, fun hf => by simp [frE] at hf⟩
    | _ => exact .none
  | .not a => fun s k => by
    rename_i p A σ h C C' ρv ρ
    simp only [pev, ev]
    refine (pev_ok a s k).bind fun x x' σ1 h1 x1 z1 r1 => ?_
    cases x with
    | bl q => cases r1.1.pk.bl; exact .pure z1 ⟨rfl, fun hf => by simp [frE] at hf⟩
    | _ => exact .none
  | .ite c a b => fun s k => by
    rename_i p A σ h C C' ρv ρ
    simp only [pev, ev]
    refine (ptst_ok c s k).bind fun q q' σ1 h1 x1 z1 r1 => ?_
    subst r1
    split
    · exact (pev_ok a (s.mono x1 z1) k).imp fun _ _ _ _ q => ⟨q.1, fun hf => by
        simp only [frE, Bool.and_eq_true] at hf
        exact (q.2 hf.1).le x1.len⟩
    · exact (pev_ok b (s.mono x1 z1) k).imp fun _ _ _ _ q => ⟨q.1, fun hf => by
        simp only [frE, Bool.and_eq_true] at hf
        exact (q.2 hf.2).le x1.len⟩
  | .idx a b => fun s k => by
    rename_i p A σ h C C' ρv ρ
    simp only [pev, ev]
    refine (pk_ok (pev_ok a) s k).bind fun x x' σ1 h1 x1 z1 r1 => (pev_ok b (s.mono x1 z1) k).bind fun y y' σ2 h2 x2 z2 r2 => ?_
    refine .up0 z2 fun v e => ?_
    obtain ⟨w, e1, e2⟩ := op_get s.c ((s.g.mono x1 z1).mono x2 z2) (r1.mono x2) r2.1.pk e
    exact ⟨w, e1, e2, fun hf => by simp [frE] at hf⟩
  | .slc a lo hi => fun s k => by
    rename_i p A σ h C C' ρv ρ
    simp only [pev, ev]
    refine (pk_ok (pev_ok a) s k).bind fun x x' σ1 h1 x1 z1 r1 => (pevo_ok lo (s.mono x1 z1) k).bind fun y y' σ2 h2 x2 z2 r2 => (pevo_ok hi ((s.mono x1 z1).mono x2 z2) k).bind fun u u' σ3 h3 x3 z3 r3 => ?_
    subst r2
    subst r3
    refine .up z3 fun v e => ?_
    obtain ⟨w, t, e1, e2, e3⟩ := op_slc (((s.g.mono x1 z1).mono x2 z2).mono x3 z3) ((r1.mono x2).mono x3) e
    exact ⟨w, t, e1, e2, fun _ => e3.le ((x1.trans x2).trans x3).len⟩
  | .call f es => fun s k => by
    rename_i p A σ h C C' ρv ρ
    simp only [pev, ev]
    split
    · rename_i hf
      rw [if_pos (s.c.has f hf)]
      refine (pevs_ok es s k).bind fun vs ws σ1 h1 x1 z1 r1 => ?_
      exact (k p A f vs σ1 h1 ws (s.g.mono x1 z1) r1).imp fun _ _ _ _ q => ⟨q.1, fun hf => by
        simp only [frE] at hf
        exact (q.2 hf).le x1.len⟩
    · exact .none
  | .blt b es => fun s k => by
    rename_i p A σ h C C' ρv ρ
    simp only [pev, ev]
    refine (ppks_ok es s k).bind fun vs ws σ1 h1 x1 z1 r1 => ?_
    refine .up z1 fun v e => ?_
    obtain ⟨w, t, e1, e2, e3⟩ := op_blt s.c (s.g.mono x1 z1) r1 e
    refine ⟨w, t, e1, e2, fun hf => ?_⟩
    cases b <;> simp [frE] at hf
    · exact (e3 (.inl rfl)).le x1.len
    · exact (e3 (.inr rfl)).le x1.len
  | .isi a t => fun s k => by
    rename_i p A σ h C C' ρv ρ
    simp only [pev, ev]
    refine (pk_ok (pev_ok a) s k).bind fun x x' σ1 h1 x1 z1 r1 => ?_
    refine .upB z1 fun v e => ?_
    simp only [Option.map_eq_some_iff] at e
    obtain ⟨q, e, rfl⟩ := e
    exact ⟨q, op_isi r1 e, rfl, fun hf => by simp [frE] at hf⟩
  | .mth m o es => fun s k => by
    rename_i p A σ h C C' ρv ρ
    simp only [pev, ev]
    refine (pev_ok o s k).bind fun x x' σ1 h1 x1 z1 r1 => ?_
    split
    · rename_i hm
      rw [if_pos (mthK_ok r1.1.pk hm)]
      refine (ppks_ok es (s.mono x1 z1) k).bind fun vs ws σ2 h2 x2 z2 r2 => .up z2 fun v e => ?_
      obtain ⟨w, t, e1, e2, e3⟩ := op_mth ((s.g.mono x1 z1).mono x2 z2) (r1.1.pk.mono x2) r2 e
      refine ⟨w, t, e1, e2, fun hf => ?_⟩
      cases m <;> simp [frE] at hf
      exact (e3 rfl).le (x1.trans x2).len
    · exact .none
  | .exf i f => fun s k => by
    rename_i p A σ h C C' ρv ρ
    simp only [pev, ev]
    have sx := s.x
    unfold XR at sx
    cases he : C.exn with
    | none => exact .none
    | some q =>
      obtain ⟨j, fs⟩ := q
      rw [he] at sx
      obtain ⟨n, fw, h1, h2, h3, h4, h5⟩ := sx
      simp only [h1]
      split
      · rename_i hij
        simp only [h4]
        have : ∀ {fs : List (Nat × V)} {fw : List (Nat × W)} {v : V}, Repf p A h fs fw → kvGet fs f = some v → ∃ w, kvGet fw f = some w ∧ Rep p A h v w := by
          intro fs
          induction fs with
          | nil => intro fw v r e; cases e
          | cons q fs ih =>
            obtain ⟨g, u⟩ := q
            rintro fw v ⟨w, r, rfl, r1, r2⟩ e
            unfold kvGet at e ⊢
            split at e
            · rename_i hk; cases e; rw [if_pos hk]; exact ⟨w, rfl, r1⟩
            · rename_i hk; rw [if_neg hk]; exact ih r2 e
        cases hg : kvGet fs f with
        | none => exact .none
        | some v =>
          obtain ⟨w, q1, q2⟩ := this h5 hg
          simp only [q1]
          exact .pure s.g.pz ⟨q2, fun hf => by simp [frE] at hf⟩
      · exact .none
  | .comp elt tg it cnd vs => fun s k => by
    rename_i p A σ h C C' ρv ρ
    rw [pev_comp, ev_comp]
    split
    · rename_i hc
      simp only [Bool.and_eq_true] at hc
      rw [if_pos (s.c.calm hc.1)]
      refine (pevi_ok it s k).bind fun xs src σ1 h1 x1 z1 r1 => ?_
      have s1 := s.mono x1 z1
      have hp := s1.g.plt
      have wip : ∀ h', XE p h1 h' → ∀ σ', Pz p σ' h' → h1.length < h'.length → SR p (A1 A h1.length) σ' h' C C' (pwipe ρv vs) (wipeW ρ vs) := fun h' x' σ' z' hl => (s1.app x' z' hl).env ((s1.app x' z' hl).e.wipe vs)
      have key := comp_ok (A := A) (F := pcmpF C elt tg cnd (pwipe ρv vs)) (F' := cmpF C' elt tg cnd (wipeW ρ vs))
        r1 hp (fun v w σ2 h2 x2 z2 hl rw' => by
          have sn := wip h2 x2 σ2 z2 hl
          have nx : ∀ {α β : Type} {x : Po α} {y : Mo β} {h : MH} {Q : MH → α → β → Prop}, Snd p (A1 A h1.length) x y h Q → Snd p (A1 A h1.length) (pnoex x) (noex y) h Q := fun {α β x y h Q} sd r e => by
            cases x with
            | none => cases e
            | some x =>
              cases x with
              | ok a σ => cases e; obtain ⟨b, h', e1, rest⟩ := sd _ rfl; exact ⟨b, h', by rw [e1]; rfl, rest⟩
              | ex c fs σ => cases e
          have ne : ∀ {α : Type} {x : Po α} {c : Nat} {fs : List (Nat × V)} {σ2 : PS}, pnoex x ≠ some (.ex c fs σ2) := fun {α x c fs σ2} e => by
            cases x with
            | none => cases e
            | some x => cases x <;> cases e
          simp only [pcmpF, cmpF]
          cases ht : ptg C tg v (pwipe ρv vs) with
          | none => exact ⟨.none, fun _ _ _ e => by simp at e⟩
          | some ρ2 =>
            obtain ⟨ρ', e1, e2⟩ := ptg_ok sn.e rw' ht
            have s2 := sn.env e2
            simp only [e1]
            cases cnd with
            | none =>
              refine ⟨(nx (pev_ok elt s2 k)).bind fun y y' σ3 h3 x3 z3 r3 => .pure z3 ⟨y', rfl, r3.1⟩, fun c fs σ3 e => ?_⟩
              cases hq : pnoex (pev C elt ρ2 σ2) with
              | none => simp [hq] at e
              | some q => cases q with
                | ok a σ => simp [hq, prt] at e
                | ex c fs σ => exact ne hq
            | some c =>
              refine ⟨(nx (ptst_ok c s2 k)).bind fun q q' σ3 h3 x3 z3 r3 => ?_, fun c' fs σ3 e => ?_⟩
              · subst r3
                split
                · exact (nx (pev_ok elt (s2.mono x3 z3) k)).bind fun y y' σ4 h4 x4 z4 r4 => .pure z4 ⟨y', rfl, r4.1⟩
                · exact .pure z3 rfl
              · simp only at e
                cases hq : pnoex (ptst C c ρ2 σ2) with
                | none => simp [hq] at e
                | some q => cases q with
                  | ex c fs σ => exact ne hq
                  | ok a σ =>
                    rw [hq, pbd_ok] at e
                    split at e
                    · cases hq2 : pnoex (pev C elt ρ2 σ) with
                      | none => simp [hq2] at e
                      | some q => cases q with
                        | ok a σ => simp [hq2, prt] at e
                        | ex c fs σ => exact ne hq2
                    · simp [prt] at e)
        xs 0 [] σ1 (h1 ++ [.lst []]) rfl (Nat.zero_le _) (.app _ _) (z1.app _) (by simp) ⟨[], by rw [at_end0]; rfl, rfl⟩
      intro r e
      generalize hX : pcomp (pcmpF C elt tg cnd (pwipe ρv vs)) 0 xs σ1 = X at e
      cases X with
      | none => cases e
      | some q =>
        obtain ⟨ys, σ2, h2, rfl, e2, x2, z2, acc, hc2, ra⟩ := key _ hX
        rw [pbd_ok] at e
        cases e
        rw [(r1 _ _ _ (.inl rfl) (XE.refl (p := p) (h := h1)).sty.two).1, e2, bd_rt]
        simp only [List.nil_append] at ra
        have fr : Fre p A h1.length h2 (.lst ys) (.ref h1.length) := fun _ => ⟨_, rfl, Nat.le_refl _, hp, acc, hc2, ra⟩
        exact ⟨_, h2, rfl, x2, z2, fr.rep s1.g rfl, fun _ => fr.le x1.len⟩
    · exact .none
  | .dct .nil => fun s k => by
    rename_i p A σ h C C' ρv ρ
    simp only [pev, ev]
    have n := new_dct (vs := []) (ws := []) s.g rfl
    intro r e
    cases e
    exact ⟨_, _, rfl, .app _ _, s.g.pz.app _, n.rep s.g rfl, fun _ => n⟩
  | .dct (.cons ka va r0) => fun s k => by
    rename_i p A σ h C C' ρv ρ
    simp only [pev, ev]
    have s1 : SR p (A1 A h.length) σ (h ++ [.dct []]) C C' ρv ρ := s.app (.app _ _) (s.g.pz.app _) (by simp)
    have hp := s.g.plt
    intro r e
    have key := pevp_ok (.cons ka va r0) s1 k
    simp only [pevp] at key e
    generalize hX : pbd (pev C ka ρv σ) _ = X at e key
    cases X with
    | none => cases e
    | some q =>
      cases q with
      | ex c fs σ2 =>
        rw [pbd_ex] at e
        cases e
        obtain ⟨fw, h2, e1, x2, z2, r2⟩ := key _ rfl
        rw [e1, bd_ex]
        have st : Sty p (A1 A h.length) A h2 h2 := fun n o hp ha e => ⟨fun a => ha (.inl a), e⟩
        exact ⟨fw, h2, rfl, (XE.app _ _).trans x2, z2, r2.sty st⟩
      | ok xs σ2 =>
        obtain ⟨ws, h2, e1, x2, z2, r2⟩ := key _ rfl
        rw [pbd_ok] at e
        rw [e1, bd_rt]
        cases hk : pkeys xs with
        | none => simp [hk] at e
        | some kvs =>
          simp only [hk] at e
          obtain ⟨kws, q1, q2⟩ := r2.keys hk
          have hc : h2[h.length]? = some (.dct []) := x2.at_ _ _ hp (by rw [at_end0]; rfl)
          have hl := (List.getElem?_eq_some_iff.mp hc).1
          simp only [hc, q1, ← q2.len]
          split at e
          · rename_i hz
            cases e
            rw [if_pos hz]
            have x3 : XE p h (h2.set h.length (.dct (mergeW [] kws))) := ((XE.app _ _).trans x2).set (Nat.le_refl _)
            have stn : Sty p (A1 A h.length) (A1 A h.length) h2 (h2.set h.length (.dct (mergeW [] kws))) := fun n o hp ha e => by
              refine ⟨ha, ?_⟩
              rw [List.getElem?_set_ne (fun q => ha (.inr q.symm))]
              exact e
            have m := Repk.merge (p := p) (A := A1 A h.length) (h := h2.set h.length (.dct (mergeW [] kws))) (vs := []) (ws := []) rfl ((Repk.sty stn) q2)
            have fr : Fre p A h.length (h2.set h.length (.dct (mergeW [] kws))) (.dct (pmerge [] kvs)) (.ref h.length) := fun _ => ⟨_, rfl, Nat.le_refl _, hp, _, List.getElem?_set_self hl, m⟩
            exact ⟨_, _, rfl, x3, z2.set hp, fr.rep s.g rfl, fun _ => fr⟩
          · cases e
  | .itl a => fun s k => by
    rename_i p A σ h C C' ρv ρ
    simp only [pev, ev]
    split
    · rename_i hc
      rw [if_pos (s.c.calm hc)]
      refine (pk_ok (pev_ok a) s k).bind fun x x' σ1 h1 x1 z1 r1 => ?_
      cases x with
      | dct kvs =>
        obtain ⟨m, ws, rfl, _, hcell, rs⟩ := r1.dct
        have g1 := s.g.mono x1 z1
        have l := itl_reps rs
        intro r e
        cases e
        simp only [hcell]
        exact ⟨_, _, rfl, .app _ _, z1.app _, rep_lst g1 l, fun _ => (new_lst g1 l).le x1.len⟩
      | _ => exact .none
    · exact .none
theorem pevp_ok : ∀ (ps : MPs) {p : Option Nat} {A : Nat → Prop} {σ : PS} {h : MH} {C : PC} {C' : Cfg} {ρv : LV} {ρ : Lo}, SR p A σ h C C' ρv ρ → CallR C C' → Snd p A (pevp C ps ρv σ) (evp C' ps ρ h) h (fun h' v w => Repp p A h' v w)
  | .nil => fun s k => by
    rename_i p A σ h C C' ρv ρ
    simp only [pevp, evp]
    exact .pure s.g.pz rfl
  | .cons a b r => fun s k => by
    rename_i p A σ h C C' ρv ρ
    simp only [pevp, evp]
    refine (pev_ok a s k).bind fun x x' σ1 h1 x1 z1 r1 => (pev_ok b (s.mono x1 z1) k).bind fun y y' σ2 h2 x2 z2 r2 => (pevp_ok r ((s.mono x1 z1).mono x2 z2) k).bind fun u u' σ3 h3 x3 z3 r3 => ?_
    exact .pure z3 ⟨_, _, _, rfl, r1.1.sty (x2.trans x3).sty, r2.1.sty x3.sty, r3⟩
theorem ptst_ok : ∀ e : ME, TOk e
  | .and a b => fun s k => by
    rename_i p A σ h C C' ρv ρ
    simp only [ptst, tst]
    refine (ptst_ok a s k).bind fun q q' σ1 h1 x1 z1 r1 => ?_
    subst r1
    split
    · exact ptst_ok b (s.mono x1 z1) k
    · exact .pure z1 rfl
  | .or a b => fun s k => by
    rename_i p A σ h C C' ρv ρ
    simp only [ptst, tst]
    refine (ptst_ok a s k).bind fun q q' σ1 h1 x1 z1 r1 => ?_
    subst r1
    split
    · exact .pure z1 rfl
    · exact ptst_ok b (s.mono x1 z1) k
  | .not a => fun s k => by
    rename_i p A σ h C C' ρv ρ
    simp only [ptst, tst]
    refine (ptst_ok a s k).bind fun q q' σ1 h1 x1 z1 r1 => ?_
    subst r1
    exact .pure z1 rfl
  | .cmp op a b => fun s k => by
    rename_i p A σ h C C' ρv ρ
    simp only [ptst, tst]
    refine (pk_ok (pev_ok a) s k).bind fun x x' σ1 h1 x1 z1 r1 => (pk_ok (pev_ok b) (s.mono x1 z1) k).bind fun y y' σ2 h2 x2 z2 r2 => ?_
    refine .up0 z2 fun v e => ?_
    exact ⟨v, op_cmp s.c (r1.mono x2) r2 e, rfl⟩
  | .chn op op' a b c => fun s k => by
    rename_i p A σ h C C' ρv ρ
    simp only [ptst, tst]
    refine (pev_ok a s k).bind fun x x' σ1 h1 x1 z1 r1 => (pev_ok b (s.mono x1 z1) k).bind fun y y' σ2 h2 x2 z2 r2 => ?_
    have s2 := (s.mono x1 z1).mono x2 z2
    cases hc : pcmpW C op x y with
    | none => exact .none
    | some q =>
      rw [op_cmp s.c (r1.1.pk.mono x2) r2.1.pk hc]
      cases q with
      | false => exact .pure z2 rfl
      | true =>
        refine (pev_ok c s2 k).bind fun u u' σ3 h3 x3 z3 r3 => ?_
        refine .up0 z3 fun v e => ?_
        exact ⟨v, op_cmp s.c (r2.1.pk.mono x3) r3.1.pk e, rfl⟩
  | .var i => fun s k => by
    rename_i p A σ h C C' ρv ρ
    have := (look_ok (i := i) s)
    simp only [ev] at this
    simp only [ptst, tst]
    refine this.bind fun x x' σ1 h1 x1 z1 r1 => ?_
    refine .up0 z1 fun v e => ?_
    exact ⟨v, op_tru r1.1 e, rfl⟩
  | .call f es => fun s k => by
    rename_i p A σ h C C' ρv ρ
    simp only [ptst, tst]
    split
    · rename_i hf
      rw [if_pos (s.c.has f hf)]
      refine Snd.bind (Q := fun h' v w => Rep p A h' v w) ((pevs_ok es s k).bind fun vs ws σ1 h1 x1 z1 r1 => (k p A f vs σ1 h1 ws (s.g.mono x1 z1) r1).imp fun _ _ _ _ q => q.1) fun x x' σ1 h1 x1 z1 r1 => ?_
      refine .up0 z1 fun v e => ?_
      exact ⟨v, op_tru r1.pk e, rfl⟩
    · exact .none
  | .blt b es => fun s k => by
    rename_i p A σ h C C' ρv ρ
    simp only [ptst, tst]
    refine Snd.bind (Q := fun h' v w => Rep p A h' v w) ((ppks_ok es s k).bind fun vs ws σ1 h1 x1 z1 r1 => .up z1 fun v e => ?_) fun x x' σ1 h1 x1 z1 r1 => ?_
    · obtain ⟨w, t, e1, e2, e3⟩ := op_blt s.c (s.g.mono x1 z1) r1 e
      exact ⟨w, t, e1, e2⟩
    · refine .up0 z1 fun v e => ?_
      exact ⟨v, op_tru r1.pk e, rfl⟩
  | .isi a t => fun s k => by
    rename_i p A σ h C C' ρv ρ
    simp only [ptst, tst]
    intro r e
    have := (pk_ok (pev_ok a) s k).bind (f := fun x σ1 => pup (pisi x t) σ1) (g := fun x h1 => Mi.up ((isiW x t h1).map fun r => (r, h1))) (Q' := fun _ (v w : Bool) => v = w) fun x x' σ1 h1 x1 z1 r1 => .up0 z1 fun v e => ⟨v, op_isi r1 e, rfl⟩
    have := this r e
    have conv : bd (bd (ev C' a ρ h) fun x h1 => up ((isiW x t h1).map fun r => (W.bl r, h1))) (fun x h2 => up ((truW x h2).map fun k => (k, h2))) = bd (ev C' a ρ h) fun x h1 => Mi.up ((isiW x t h1).map fun r => (r, h1)) := by
      cases hx : ev C' a ρ h with
      | none => rfl
      | some q =>
        cases q with
        | ex c fs h1 => rfl
        | ok w h1 =>
          simp only [bd_ok]
          cases isiW w t h1 <;> rfl
    rw [conv]
    exact this
  | .idx a b => fun s k => by
    rename_i p A σ h C C' ρv ρ
    simp only [ptst, tst]
    refine Snd.bind (Q := fun h' v w => Rep p A h' v w) ((pk_ok (pev_ok a) s k).bind fun x x' σ1 h1 x1 z1 r1 => (pev_ok b (s.mono x1 z1) k).bind fun y y' σ2 h2 x2 z2 r2 => .up0 z2 fun v e => ?_) fun x x' σ1 h1 x1 z1 r1 => ?_
    · exact op_get s.c ((s.g.mono x1 z1).mono x2 z2) (r1.mono x2) r2.1.pk e
    · refine .up0 z1 fun v e => ?_
      exact ⟨v, op_tru r1.pk e, rfl⟩
  | .int _ => fun s k => by simp only [ptst]; exact .none
  | .str _ => fun s k => by simp only [ptst]; exact .none
  | .bl _ => fun s k => by simp only [ptst]; exact .none
  | .non => fun s k => by simp only [ptst]; exact .none
  | .glb _ => fun s k => by simp only [ptst]; exact .none
  | .tup _ => fun s k => by simp only [ptst]; exact .none
  | .lst _ => fun s k => by simp only [ptst]; exact .none
  | .bin _ _ _ => fun s k => by simp only [ptst]; exact .none
  | .neg _ => fun s k => by simp only [ptst]; exact .none
  | .ite _ _ _ => fun s k => by simp only [ptst]; exact .none
  | .slc _ _ _ => fun s k => by simp only [ptst]; exact .none
  | .mth _ _ _ => fun s k => by simp only [ptst]; exact .none
  | .exf _ _ => fun s k => by simp only [ptst]; exact .none
  | .comp _ _ _ _ _ => fun s k => by simp only [ptst]; exact .none
  | .dct _ => fun s k => by simp only [ptst]; exact .none
  | .itl _ => fun s k => by simp only [ptst]; exact .none
theorem pevs_ok : ∀ (es : MEs) {p : Option Nat} {A : Nat → Prop} {σ : PS} {h : MH} {C : PC} {C' : Cfg} {ρv : LV} {ρ : Lo}, SR p A σ h C C' ρv ρ → CallR C C' → Snd p A (pevs C es ρv σ) (evs C' es ρ h) h (fun h' v w => Reps p A h' v w)
  | .nil => fun s k => by
    rename_i p A σ h C C' ρv ρ
    simp only [pevs, evs]
    exact .pure s.g.pz rfl
  | .cons a r => fun s k => by
    rename_i p A σ h C C' ρv ρ
    simp only [pevs, evs]
    refine (pev_ok a s k).bind fun x x' σ1 h1 x1 z1 r1 => (pevs_ok r (s.mono x1 z1) k).bind fun y y' σ2 h2 x2 z2 r2 => ?_
    exact .pure z2 ⟨_, _, rfl, r1.1.sty x2.sty, r2⟩
theorem ppks_ok : ∀ (es : MEs) {p : Option Nat} {A : Nat → Prop} {σ : PS} {h : MH} {C : PC} {C' : Cfg} {ρv : LV} {ρ : Lo}, SR p A σ h C C' ρv ρ → CallR C C' → Snd p A (ppks C es ρv σ) (evs C' es ρ h) h (fun h' v w => Pks p A h' v w)
  | .nil => fun s k => by
    rename_i p A σ h C C' ρv ρ
    simp only [ppks, evs]
    exact .pure s.g.pz ⟨rfl, fun i x e => by simp at e⟩
  | .cons a r => fun s k => by
    rename_i p A σ h C C' ρv ρ
    simp only [ppks, evs]
    refine (pk_ok (pev_ok a) s k).bind fun x x' σ1 h1 x1 z1 r1 => (ppks_ok r (s.mono x1 z1) k).bind fun y y' σ2 h2 x2 z2 r2 => ?_
    exact .pure z2 (Pks.cons (r1.mono x2) r2)
theorem pevo_ok : ∀ (es : MO) {p : Option Nat} {A : Nat → Prop} {σ : PS} {h : MH} {C : PC} {C' : Cfg} {ρv : LV} {ρ : Lo}, SR p A σ h C C' ρv ρ → CallR C C' → Snd p A (pevo C es ρv σ) (evo C' es ρ h) h (fun h' v w => v = w)
  | .no => fun s k => by
    rename_i p A σ h C C' ρv ρ
    simp only [pevo, evo]
    exact .pure s.g.pz rfl
  | .so e => fun s k => by
    rename_i p A σ h C C' ρv ρ
    simp only [pevo, evo]
    refine (pev_ok e s k).bind fun x x' σ1 h1 x1 z1 r1 => ?_
    cases x with
    | int i => cases r1.1.pk.int; exact .pure z1 rfl
    | _ => exact .none
theorem pevi_ok : ∀ (es : MI) {p : Option Nat} {A : Nat → Prop} {σ : PS} {h : MH} {C : PC} {C' : Cfg} {ρv : LV} {ρ : Lo}, SR p A σ h C C' ρv ρ → CallR C C' → Snd p A (pevi C es ρv σ) (evi C' es ρ h) h (fun h' v w => SrcR C.pu.isSome p A h' v w)
  | .pl e => fun s k => by
    rename_i p A σ h C C' ρv ρ
    simp only [pevi, evi]
    refine (pev_ok e s k).bind fun x x' σ1 h1 x1 z1 r1 => ?_
    refine .upB z1 fun v e => ?_
    obtain ⟨b, q1, q2⟩ := psrc_ok r1.1 e
    exact ⟨b, q1, q2.src⟩
  | .rg1 a => fun s k => by
    rename_i p A σ h C C' ρv ρ
    simp only [pevi, evi]
    refine (pev_ok a s k).bind fun x x' σ1 h1 x1 z1 r1 => ?_
    cases x with
    | int i =>
      cases r1.1.pk.int
      refine .up0 z1 fun v e => ?_
      exact prng_ok e
    | _ => exact .none
  | .rg2 a b => fun s k => by
    rename_i p A σ h C C' ρv ρ
    simp only [pevi, evi]
    refine (pev_ok a s k).bind fun x x' σ1 h1 x1 z1 r1 => (pev_ok b (s.mono x1 z1) k).bind fun y y' σ2 h2 x2 z2 r2 => ?_
    cases x with
    | int i =>
      cases y with
      | int j =>
        cases r1.1.pk.int
        cases r2.1.pk.int
        refine .up0 z2 fun v e => ?_
        exact prng_ok e
      | _ => exact .none
    | _ => exact .none
  | .enm a => fun s k => by
    rename_i p A σ h C C' ρv ρ
    simp only [pevi, evi]
    refine (pev_ok a s k).bind fun x x' σ1 h1 x1 z1 r1 => ?_
    cases x with
    | lst us =>
      obtain ⟨n, rfl, hp, ha, ws, hc, rs⟩ := r1.1
      intro r e
      cases e
      exact ⟨_, h1, by simp only [lsrcOf, hc, Option.map_some]; rfl, .refl, z1, (lst_bs r1.1).enm⟩
    | _ => exact .none
  | .zip a b => fun s k => by
    rename_i p A σ h C C' ρv ρ
    simp only [pevi, evi]
    refine (pev_ok a s k).bind fun x x' σ1 h1 x1 z1 r1 => (pev_ok b (s.mono x1 z1) k).bind fun y y' σ2 h2 x2 z2 r2 => ?_
    cases hx : psrcV x with
    | none => exact .none
    | some xs =>
      cases hy : psrcV y with
      | none => exact .none
      | some ys =>
        obtain ⟨b1, q1, q2⟩ := psrc_ok (r1.1.sty x2.sty) hx
        obtain ⟨b2, q3, q4⟩ := psrc_ok r2.1 hy
        simp only [q1, q3, Option.bind_some, Option.map_some, up_some]
        split
        · rename_i hn
          simp only [Bool.and_eq_true, Bool.or_eq_true] at hn
          exact .pure z2 (q2.zip q4 (hn.imp (fun z => by cases hh : C.pu <;> simp [hh] at z ⊢) id))
        · exact .none
end
end Mi
set_option Elab.async false
set_option linter.all false
set_option maxRecDepth 100000
set_option maxHeartbeats 4000000
/-! Statements: what the plain interpreter tells lies in the heap. -/
namespace Mi
open PySem PySem.Spec PyProof.Rows L2
structure OI (b : Nat) (own : Nat → Bool) (ρv : LV) (ρ : Lo) : Prop where
  ob : ∀ i n v, own i = true → ρv[i]? = some (some v) → ρ[i]? = some (some (.ref n)) → b ≤ n
  inj : ∀ i j n u v, own i = true → own j = true → ρv[i]? = some (some u) → ρv[j]? = some (some v) → ρ[i]? = some (some (.ref n)) → ρ[j]? = some (some (.ref n)) → i = j
structure TR (p : Option Nat) (A : Nat → Prop) (b : Nat) (F : Nat → Prop) (σ : PS) (h : MH) (C : PC) (C' : Cfg) (ρv : LV) (ρ : Lo) : Prop where
  s : SR p A σ h C C' ρv ρ
  o : OI b C.own ρv ρ
  fA : ∀ n, F n → A n
  fb : ∀ n, F n → n < b
  bh : b ≤ h.length
  px : C.pu = none ∨ C.exn = none
structure Ste (u : Bool) (b : Nat) (p : Option Nat) (A : Nat → Prop) (h : MH) (p' : Option Nat) (A' : Nat → Prop) (h' : MH) : Prop where
  len : h.length ≤ h'.length
  up : ∀ n, A n → A' n
  dn : ∀ n, A' n → A n ∨ h.length ≤ n
  pp : p' = p ∨ (u = true ∧ ∃ m, p' = some m ∧ h.length ≤ m)
  cl : ∀ n o, p ≠ some n → ¬A n → h[n]? = some o → h'[n]? = some o
  bs : ∀ n o, n < b → p ≠ some n → h[n]? = some o → h'[n]? = some o
section
variable {p p' p1 : Option Nat} {A A' A2 : Nat → Prop} {h h' h1 : MH} {u : Bool} {b : Nat} {F : Nat → Prop} {σ σ' σ1 : PS} {C : PC} {C' : Cfg} {ρv : LV} {ρ : Lo}
theorem Ste.ofXE (x : XE p h h') : Ste u b p A h p A h' := ⟨x.len, fun _ a => a, fun _ a => .inl a, .inl rfl, fun n o hp _ e => x.at_ n o hp e, fun n o _ hp e => x.at_ n o hp e⟩
theorem Ste.ne (s : Ste u b p A h p' A' h') {n : Nat} {o : O} (hp : p ≠ some n) (e : h[n]? = some o) : p' ≠ some n := by
  have := (List.getElem?_eq_some_iff.mp e).1
  rcases s.pp with q | ⟨_, m, q, hm⟩
  · rw [q]; exact hp
  · rw [q]; intro z; cases z; omega
theorem Ste.trans (s : Ste u b p A h p1 A2 h1) (t : Ste u b p1 A2 h1 p' A' h') : Ste u b p A h p' A' h' := by
  have na : ∀ {n : Nat} {o : O}, ¬A n → h[n]? = some o → ¬A2 n := fun {n o} ha e a => by
    have := (List.getElem?_eq_some_iff.mp e).1
    exact (s.dn n a).elim ha fun z => by omega
  refine ⟨Nat.le_trans s.len t.len, fun n a => t.up n (s.up n a), fun n a => ?_, ?_, fun n o hp ha e => t.cl n o (s.ne hp e) (na ha e) (s.cl n o hp ha e), fun n o hb hp e => t.bs n o hb (s.ne hp e) (s.bs n o hb hp e)⟩
  · rcases t.dn n a with q | q
    · exact s.dn n q
    · exact .inr (Nat.le_trans s.len q)
  · rcases t.pp with q | ⟨hu, m, q, hm⟩
    · rw [q]; exact s.pp
    · exact .inr ⟨hu, m, q, Nat.le_trans s.len hm⟩
theorem Ste.sty2 (s : Ste u b p A h p' A' h') : Sty2 p p' A A' h h' := fun n o hp ha e => ⟨s.ne hp e, fun a => by
  have := (List.getElem?_eq_some_iff.mp e).1
  exact (s.dn n a).elim ha fun z => by omega, s.cl n o hp ha e⟩
theorem Ste.weak (s : Ste false b p A h p' A' h') : Ste u b p A h p' A' h' := ⟨s.len, s.up, s.dn, s.pp.elim .inl (fun z => by cases z.1), s.cl, s.bs⟩
theorem XR.ste (r : XR p A h C C') (s : Ste C.pu.isSome b p A h p' A' h') (px : C.pu = none ∨ C.exn = none) : XR p' A' h' C C' := by
  unfold XR at r ⊢
  split <;> rename_i he
  · rw [he] at r; exact r
  · rw [he] at r
    obtain ⟨n, fw, q1, q2, q3, q4, q5⟩ := r
    have hp : p' = p := by
      rcases px with q | q
      · rcases s.pp with z | z
        · exact z
        · rw [q] at z; cases z.1
      · rw [he] at q; cases q
    subst hp
    exact ⟨n, fw, q1, q2, (s.sty2.one n _ q2 q3 q4).1, s.cl n _ q2 q3 q4, q5.sty s.sty2.one⟩
theorem free_ok (r : XR p A h C C') (i : Nat) : free C' i = pfree C i := by
  unfold XR at r
  unfold free pfree
  split at r <;> rename_i he
  · rw [r, he]
  · obtain ⟨n, fw, q1, _⟩ := r
    rw [q1, he]
theorem free_all (r : XR p A h C C') (is : List Nat) : is.all (free C') = is.all (pfree C) := by
  have : free C' = pfree C := funext fun i => free_ok r i
  rw [this]
def SOut (b : Nat) (F : Nat → Prop) (C : PC) (C' : Cfg) (p : Option Nat) (A : Nat → Prop) (h : MH) (y : Sm) : PSo → Prop
  | .nx ρv' σ' => ∃ ρ' h' p' A', y = some (.nx ρ' h') ∧ Ste C.pu.isSome b p A h p' A' h' ∧ TR p' A' b F σ' h' C C' ρv' ρ'
  | .bk ρv' σ' => ∃ ρ' h' p' A', y = some (.bk ρ' h') ∧ Ste C.pu.isSome b p A h p' A' h' ∧ TR p' A' b F σ' h' C C' ρv' ρ'
  | .ct ρv' σ' => ∃ ρ' h' p' A', y = some (.ct ρ' h') ∧ Ste C.pu.isSome b p A h p' A' h' ∧ TR p' A' b F σ' h' C C' ρv' ρ'
  | .rt v σ' => ∃ w h' p' A', y = some (.rt w h') ∧ Ste C.pu.isSome b p A h p' A' h' ∧ Pz p' σ' h' ∧ Rep p' F h' v w ∧ (C.mf = true → Fre p' F b h' v w)
  | .ex c fs ρv' σ' => ∃ fw ρ' h' p' A', y = some (.ex c fw ρ' h') ∧ Ste C.pu.isSome b p A h p' A' h' ∧ TR p' A' b F σ' h' C C' ρv' ρ' ∧ Repf p' A' h' fs fw
def SSnd (b : Nat) (F : Nat → Prop) (C : PC) (C' : Cfg) (p : Option Nat) (A : Nat → Prop) (h : MH) (x : Psm) (y : Sm) : Prop := ∀ r, x = some r → SOut b F C C' p A h y r
theorem SOut.pre {y : Sm} {r : PSo} (s : Ste C.pu.isSome b p A h p1 A2 h1) (o : SOut b F C C' p1 A2 h1 y r) : SOut b F C C' p A h y r := by
  cases r with
  | nx ρv' σ' => obtain ⟨ρ', h', p', A', e, t, r⟩ := o; exact ⟨ρ', h', p', A', e, s.trans t, r⟩
  | bk ρv' σ' => obtain ⟨ρ', h', p', A', e, t, r⟩ := o; exact ⟨ρ', h', p', A', e, s.trans t, r⟩
  | ct ρv' σ' => obtain ⟨ρ', h', p', A', e, t, r⟩ := o; exact ⟨ρ', h', p', A', e, s.trans t, r⟩
  | rt v σ' => obtain ⟨ρ', h', p', A', e, t, r⟩ := o; exact ⟨ρ', h', p', A', e, s.trans t, r⟩
  | ex c fs ρv' σ' => obtain ⟨fw, ρ', h', p', A', e, t, r⟩ := o; exact ⟨fw, ρ', h', p', A', e, s.trans t, r⟩
theorem SSnd.none {y : Sm} : SSnd b F C C' p A h (none : Psm) y := fun r e => by cases e
theorem SSnd.pre {x : Psm} {y : Sm} (s : Ste C.pu.isSome b p A h p1 A2 h1) (o : SSnd b F C C' p1 A2 h1 x y) : SSnd b F C C' p A h x y := fun r e => (o r e).pre s
theorem TR.mono (t : TR p A b F σ h C C' ρv ρ) (x : XE p h h1) (z : Pz p σ1 h1) : TR p A b F σ1 h1 C C' ρv ρ := ⟨t.s.mono x z, t.o, t.fA, t.fb, Nat.le_trans t.bh x.len, t.px⟩
theorem SSnd.sE {α β : Type} {x : Po α} {y : Mo β} {Q : MH → α → β → Prop} {f : α → PS → Psm} {g : β → MH → Sm} (t : TR p A b F σ h C C' ρv ρ) (s : Snd p A x y h Q)
    (k : ∀ a c σ1 h1, XE p h h1 → Pz p σ1 h1 → Q h1 a c → SSnd b F C C' p A h1 (f a σ1) (g c h1)) : SSnd b F C C' p A h (psE ρv x f) (Mi.sE ρ y g) := fun r e => by
  cases x with
  | none => cases e
  | some x =>
    cases x with
    | ok a σ1 =>
      obtain ⟨c, h1, rfl, x1, z1, q⟩ := s _ rfl
      exact (k a c σ1 h1 x1 z1 q r e).pre (.ofXE x1)
    | ex c fs σ1 =>
      obtain ⟨fw, h1, rfl, x1, z1, q⟩ := s _ rfl
      cases e
      exact ⟨fw, ρ, h1, p, A, rfl, .ofXE x1, t.mono x1 z1, q⟩
/-- the same, told from the start -/
theorem SSnd.sE2 {α β : Type} {x : Po α} {y : Mo β} {Q : MH → α → β → Prop} {f : α → PS → Psm} {g : β → MH → Sm} (t : TR p A b F σ h C C' ρv ρ) (s : Snd p A x y h Q)
    (k : ∀ a c σ1 h1, XE p h h1 → Pz p σ1 h1 → Q h1 a c → SSnd b F C C' p A h (f a σ1) (g c h1)) : SSnd b F C C' p A h (psE ρv x f) (Mi.sE ρ y g) := fun r e => by
  cases x with
  | none => cases e
  | some x =>
    cases x with
    | ok a σ1 =>
      obtain ⟨c, h1, rfl, x1, z1, q⟩ := s _ rfl
      exact k a c σ1 h1 x1 z1 q r e
    | ex c fs σ1 =>
      obtain ⟨fw, h1, rfl, x1, z1, q⟩ := s _ rfl
      cases e
      exact ⟨fw, ρ, h1, p, A, rfl, .ofXE x1, t.mono x1 z1, q⟩
theorem SSnd.sQ {x : Psm} {y : Sm} {f : LV → PS → Psm} {g : Lo → MH → Sm} (s : SSnd b F C C' p A h x y)
    (k : ∀ ρv1 σ1 ρ1 h1 p1 A1, TR p1 A1 b F σ1 h1 C C' ρv1 ρ1 → SSnd b F C C' p1 A1 h1 (f ρv1 σ1) (g ρ1 h1)) : SSnd b F C C' p A h (psQ x f) (Mi.sQ y g) := fun r e => by
  cases x with
  | none => cases e
  | some x =>
    cases x with
    | nx ρv1 σ1 =>
      obtain ⟨ρ1, h1, p1, A1, rfl, t, q⟩ := s _ rfl
      exact (k _ _ _ _ _ _ q r e).pre t
    | rt v σ1 => cases e; obtain ⟨w, h1, p1, A1, rfl, q⟩ := s _ rfl; exact ⟨w, h1, p1, A1, rfl, q⟩
    | bk ρv1 σ1 => cases e; obtain ⟨w, h1, p1, A1, rfl, q⟩ := s _ rfl; exact ⟨w, h1, p1, A1, rfl, q⟩
    | ct ρv1 σ1 => cases e; obtain ⟨w, h1, p1, A1, rfl, q⟩ := s _ rfl; exact ⟨w, h1, p1, A1, rfl, q⟩
    | ex c fs ρv1 σ1 => cases e; obtain ⟨fw, w, h1, p1, A1, rfl, q⟩ := s _ rfl; exact ⟨fw, w, h1, p1, A1, rfl, q⟩
theorem SSnd.nx {ρv1 : LV} {ρ1 : Lo} {σ1 : PS} (s : Ste C.pu.isSome b p A h p1 A2 h1) (t : TR p1 A2 b F σ1 h1 C C' ρv1 ρ1) : SSnd b F C C' p A h (some (.nx ρv1 σ1)) (some (.nx ρ1 h1)) := fun r e => by
  cases e
  exact ⟨ρ1, h1, p1, A2, rfl, s, t⟩
/-! ### slots -/
theorem set_at {α : Type} {l : List α} {i j : Nat} {x y : α} (hj : (l.set i x)[j]? = some y) (hij : i ≠ j) : l[j]? = some y := by rwa [List.getElem?_set_ne hij] at hj
theorem OI.set {own : Nat → Bool} {i : Nat} {x : Option V} {y : Option W} (o : OI b own ρv ρ) (ho : own i = false) : OI b own (ρv.set i x) (ρ.set i y) := by
  have ne : ∀ {j : Nat}, own j = true → i ≠ j := fun {j} hj z => by subst z; rw [ho] at hj; cases hj
  exact ⟨fun j n v hj h1 h2 => o.ob j n v hj (set_at h1 (ne hj)) (set_at h2 (ne hj)), fun j k n u v hj hk h1 h2 h3 h4 => o.inj j k n u v hj hk (set_at h1 (ne hj)) (set_at h2 (ne hk)) (set_at h3 (ne hj)) (set_at h4 (ne hk))⟩
theorem OI.sets {own : Nat → Bool} : ∀ {is : List Nat} {vs : List V} {ws : List W} {ρv : LV} {ρ : Lo}, OI b own ρv ρ → is.all (fun i => !own i) = true → vs.length = is.length → ws.length = is.length → OI b own (pSet ρv is vs) ((is.zip ws).foldl (fun r q => r.set q.1 (some q.2)) ρ)
  | [], vs, ws, ρv, ρ, o, _, hv, hw => by
    cases vs <;> cases ws <;> first | exact o | (simp at hv; done) | (simp at hw; done)
  | i :: is, [], ws, ρv, ρ, o, _, hv, hw => by simp at hv
  | i :: is, v :: vs, [], ρv, ρ, o, _, hv, hw => by simp at hw
  | i :: is, v :: vs, w :: ws, ρv, ρ, o, ho, hv, hw => by
    simp only [List.all_cons, Bool.and_eq_true, Bool.not_eq_true'] at ho
    simp only [pSet, List.zip_cons_cons, List.foldl_cons]
    exact OI.sets (o.set ho.1) ho.2 (by simpa using hv) (by simpa using hw)
theorem TR.env {ρv' : LV} {ρ' : Lo} (t : TR p A b F σ h C C' ρv ρ) (e : REn p A C.own h ρv' ρ') (o : OI b C.own ρv' ρ') : TR p A b F σ h C C' ρv' ρ' := ⟨t.s.env e, o, t.fA, t.fb, t.bh, t.px⟩
theorem TR.set {i : Nat} {v : V} {w : W} (t : TR p A b F σ h C C' ρv ρ) (ho : C.own i = false) (r : Rep p A h v w) : TR p A b F σ h C C' (ρv.set i (some v)) (ρ.set i (some w)) := t.env (t.s.e.set ho r) (t.o.set ho)
theorem TR.wipe {i : Nat} (t : TR p A b F σ h C C' ρv ρ) (ho : C.own i = false) : TR p A b F σ h C C' (ρv.set i none) (ρ.set i none) := t.env t.s.e.wipe1 (t.o.set ho)
theorem TR.tg {tg : MG} {v : V} {w : W} {ρv' : LV} (t : TR p A b F σ h C C' ρv ρ) (r : Rep p A h v w) (k : ptg C tg v ρv = some ρv') : ∃ ρ', tgW tg w ρ h = some ρ' ∧ TR p A b F σ h C C' ρv' ρ' := by
  obtain ⟨ρ', e1, e2⟩ := ptg_ok t.s.e r k
  refine ⟨ρ', e1, t.env e2 ?_⟩
  cases tg with
  | nm i =>
    simp only [ptg] at k
    split at k
    · cases k
    · rename_i ho
      cases k
      simp only [tgW] at e1
      cases e1
      exact t.o.set (by simpa using ho)
  | tp is =>
    simp only [ptg] at k
    split at k
    · rename_i xs
      obtain ⟨ws, rfl, rs⟩ := r
      split at k
      · rename_i hz
        cases k
        simp only [tgW] at e1
        split at e1
        · rename_i hl; cases e1; exact t.o.sets hz.2 hz.1 hl
        · cases e1
      · cases k
    · cases k
theorem REn.cell {own : Nat → Bool} {i : Nat} {v : V} (e : REn p A own h ρv ρ) (ho : own i = true) (hv : ρv[i]? = some (some v)) : ∃ n, ρ[i]? = some (some (.ref n)) ∧ A n ∧ p ≠ some n ∧ Cont p A h v n := by
  obtain ⟨w, h1, _, h3⟩ := e.at_ i v hv
  obtain ⟨n, rfl, q⟩ := h3 ho
  exact ⟨n, h1, q⟩
/-- a new list comes into a slot of its own -/
theorem TR.own {i : Nat} {v : V} {w : W} (t : TR p A b F σ h C C' ρv ρ) (ho : C.own i = true) (x : XE p h h1) (z : Pz p σ1 h1) (f : Fre p A h.length h1 v w) (hv : isLD v = true) :
    ∃ n, TR p (A1 A n) b F σ1 h1 C C' (ρv.set i (some v)) (ρ.set i (some w)) ∧ Ste u b p A h p (A1 A n) h1 := by
  obtain ⟨n, rfl, hn, hp, c⟩ := f hv
  have st : Sty p A (A1 A n) h h1 := fun m o hpm ha e => by
    have := (List.getElem?_eq_some_iff.mp e).1
    exact ⟨fun q => q.elim ha fun q => by omega, x.at_ m o hpm e⟩
  have hnl : n < h1.length := by
    cases v <;> first | exact c.elim | skip
    · obtain ⟨ws, e, _⟩ := c; exact (List.getElem?_eq_some_iff.mp e).1
    · obtain ⟨ws, e, _⟩ := c; exact (List.getElem?_eq_some_iff.mp e).1
  have ste : ∀ u, Ste u b p A h p (A1 A n) h1 := fun u => ⟨x.len, fun _ a => .inl a, fun m a => a.imp id fun q => by rw [q]; exact hn, .inl rfl, fun m o hpm _ e => x.at_ m o hpm e, fun m o _ hpm e => x.at_ m o hpm e⟩
  have old : ∀ {j m : Nat} {v' : V}, C.own j = true → ρv[j]? = some (some v') → ρ[j]? = some (some (.ref m)) → m < h.length := fun {j m v'} hj h1 h2 => by
    obtain ⟨m', q1, q2, _⟩ := t.s.e.cell hj h1
    rw [h2] at q1
    cases q1
    exact t.s.g.lt _ q2
  refine ⟨n, ⟨⟨⟨z, fun m a => a.elim (fun a => Nat.lt_of_lt_of_le (t.s.g.lt m a) x.len) (fun q => by omega), fun m e a => a.elim (t.s.g.pa m e) fun q => hp (by rw [e, q])⟩, ⟨by simp [t.s.e.len], fun j v' hj => ?_⟩, t.s.x.ste (ste _) t.px, t.s.c⟩, ⟨fun j m v' ho g1 g2 => ?_, fun j k m v1 v2 hj hk g1 g2 g3 g4 => ?_⟩, fun m q => .inl (t.fA m q), t.fb, Nat.le_trans t.bh x.len, t.px⟩, ste u⟩
  · rw [List.getElem?_set] at hj ⊢
    by_cases hij : i = j
    · subst hij
      rw [if_pos rfl] at hj ⊢
      rw [← t.s.e.len]
      split at hj
      · rename_i hl
        cases hj
        rw [if_pos hl]
        exact ⟨_, rfl, fun q => (by rw [ho] at q; cases q), fun _ => ⟨n, rfl, .inr rfl, hp, c⟩⟩
      · cases hj
    · rw [if_neg hij] at hj ⊢
      obtain ⟨w', q1, q2, q3⟩ := t.s.e.at_ j v' hj
      refine ⟨w', q1, fun o => (q2 o).sty st, fun o => ?_⟩
      obtain ⟨m, r1, r2, r3, r4⟩ := q3 o
      refine ⟨m, r1, .inl r2, r3, ?_⟩
      cases v' <;> first | exact r4.elim | skip
      · obtain ⟨ws, e, r⟩ := r4; exact ⟨ws, x.at_ m _ r3 e, r.sty st⟩
      · obtain ⟨ws, e, r⟩ := r4; exact ⟨ws, x.at_ m _ r3 e, r.sty st⟩
  · by_cases hij : i = j
    · subst hij
      rw [List.getElem?_set] at g2
      rw [if_pos rfl] at g2
      split at g2
      · cases g2; exact Nat.le_trans t.bh hn
      · cases g2
    · exact t.o.ob j m v' ho (set_at g1 hij) (set_at g2 hij)
  · by_cases hij : i = j
    · by_cases hik : i = k
      · omega
      · have := old hk (set_at g2 hik) (set_at g4 hik)
        subst hij
        rw [List.getElem?_set, if_pos rfl] at g3
        split at g3
        · cases g3; omega
        · cases g3
    · by_cases hik : i = k
      · have := old hj (set_at g1 hij) (set_at g3 hij)
        subst hik
        rw [List.getElem?_set, if_pos rfl] at g4
        split at g4
        · cases g4; omega
        · cases g4
      · exact t.o.inj j k m v1 v2 hj hk (set_at g1 hij) (set_at g2 hik) (set_at g3 hij) (set_at g4 hik)
/-- a list of a slot's own is changed -/
theorem TR.mut {i n : Nat} {v v' : V} {o' : O} (t : TR p A b F σ h C C' ρv ρ) (ho : C.own i = true) (hv : ρv[i]? = some (some v)) (hn : ρ[i]? = some (some (.ref n))) (c : Cont p A (h.set n o') v' n) :
    TR p A b F σ (h.set n o') C C' (ρv.set i (some v')) ρ ∧ Ste u b p A h p A (h.set n o') := by
  obtain ⟨n', q1, ha, hp, c0⟩ := t.s.e.cell ho hv
  rw [hn] at q1
  cases q1
  have hb := t.o.ob i n v ho hv hn
  have st : Sty p A A h (h.set n o') := fun m o hpm hna e => ⟨hna, by
    rw [List.getElem?_set_ne (fun q => hna (by rw [← q]; exact ha))]; exact e⟩
  have ste : ∀ u, Ste u b p A h p A (h.set n o') := fun u => ⟨by simp, fun _ a => a, fun _ a => .inl a, .inl rfl, fun m o hpm hna e => (st m o hpm hna e).2, fun m o hmb hpm e => by
    rw [List.getElem?_set_ne (by omega)]; exact e⟩
  refine ⟨⟨⟨⟨t.s.g.pz.set hp, fun m a => by rw [List.length_set]; exact t.s.g.lt m a, t.s.g.pa⟩, ⟨by simp [t.s.e.len], fun j u hj => ?_⟩, t.s.x.ste (ste _) t.px, t.s.c⟩, ⟨fun j m u oj g1 g2 => ?_, fun j k m u1 u2 oj ok g1 g2 g3 g4 => ?_⟩, t.fA, t.fb, by rw [List.length_set]; exact t.bh, t.px⟩, ste u⟩
  · by_cases hij : i = j
    · subst hij
      rw [List.getElem?_set, if_pos rfl] at hj
      split at hj
      · cases hj
        exact ⟨.ref n, hn, fun z => (by rw [ho] at z; cases z), fun _ => ⟨n, rfl, ha, hp, c⟩⟩
      · cases hj
    · obtain ⟨w, r1, r2, r3⟩ := t.s.e.at_ j u (set_at hj hij)
      refine ⟨w, r1, fun o => (r2 o).sty st, fun o => ?_⟩
      obtain ⟨m, e1, e2, e3, e4⟩ := r3 o
      subst e1
      have hne : n ≠ m := fun z => hij (t.o.inj i j n v u ho o hv (set_at hj hij) hn (by rw [z]; exact r1))
      exact ⟨m, rfl, e2, e3, e4.sty st (List.getElem?_set_ne hne)⟩
  · by_cases hij : i = j
    · subst hij; exact t.o.ob i m v ho hv g2
    · exact t.o.ob j m u oj (set_at g1 hij) g2
  · have f : ∀ {j : Nat} {u1 : V}, (ρv.set i (some v'))[j]? = some (some u1) → ∃ u2, ρv[j]? = some (some u2) := fun {j u1} g => by
      by_cases hij : i = j
      · subst hij; exact ⟨v, hv⟩
      · exact ⟨u1, set_at g hij⟩
    obtain ⟨x1, y1⟩ := f g1
    obtain ⟨x2, y2⟩ := f g2
    exact t.o.inj j k m x1 x2 oj ok y1 y2 g3 g4
end
end Mi
set_option Elab.async false
set_option linter.all false
set_option maxRecDepth 100000
set_option maxHeartbeats 4000000
/-! All statements. -/
namespace Mi
open PySem PySem.Spec PyProof.Rows L2
section
variable {p p' p1 : Option Nat} {A A' A2 : Nat → Prop} {h h' h1 : MH} {u : Bool} {b : Nat} {F : Nat → Prop} {σ σ' σ1 : PS} {C : PC} {C' : Cfg} {ρv : LV} {ρ : Lo} {K : Nat → Option (List Nat)}
theorem TR.less (t : TR p A b F σ h C C' ρv ρ) {h' : MH} : Sty p A F h' h' := fun n o _ ha e => ⟨fun f => ha (t.fA n f), e⟩
theorem TR.look {i : Nat} {r : PR V} (t : TR p A b F σ h C C' ρv ρ) (e : plook ρv i σ = some r) : ∃ v w, r = .ok v σ ∧ ev C' (.var i) ρ h = rt w h ∧ Rep p F h v w ∧ (C.own i = true → Fre p F b h v w) := by
  unfold plook at e
  split at e
  · rename_i v hv
    cases e
    obtain ⟨w, h1, h2, h3⟩ := t.s.e.at_ i v hv
    refine ⟨v, w, rfl, by simp only [ev, h1], ?_⟩
    cases ho : C.own i with
    | false => exact ⟨(h2 ho).sty t.less, fun z => by cases z⟩
    | true =>
      obtain ⟨n, rfl, ha, hp, c⟩ := h3 ho
      have hb := t.o.ob i n v ho hv h1
      have hf : ¬F n := fun f => by have := t.fb n f; omega
      refine ⟨?_, fun _ _ => ⟨n, rfl, hb, hp, c.less fun m z => z.elim (t.fA m) fun z => by rw [z]; exact ha⟩⟩
      have c := c.less (A' := F) t.fA
      cases v <;> first | exact c.elim | exact ⟨n, rfl, hp, hf, c⟩
  · cases e
theorem ret_ppks : ∀ (es : MEs) {p : Option Nat} {A : Nat → Prop} {σ : PS} {h : MH}, TR p A b F σ h C C' ρv ρ → CallR C C' → Snd p A (ppks C es ρv σ) (evs C' es ρ h) h (fun h' vs ws => Reps p F h' vs ws)
  | .nil, p, A, σ, h, t, k => by
    simp only [ppks, evs]
    exact .pure t.s.g.pz rfl
  | .cons e es, p, A, σ, h, t, k => by
    simp only [ppks, evs]
    have one : Snd p A (match isV e with | some i => plook ρv i σ | none => pev C e ρv σ) (ev C' e ρ h) h (fun h' v w => Rep p F h' v w) := by
      cases hi : isV e with
      | some i =>
        obtain ⟨j, rfl⟩ : ∃ j, e = .var j := by cases e <;> simp [isV] at hi; exact ⟨_, rfl⟩
        simp only [isV, Option.some.injEq] at hi
        subst hi
        intro r er
        obtain ⟨v, w, rfl, e1, e2, _⟩ := t.look er
        exact ⟨w, h, e1, .refl, t.s.g.pz, e2⟩
      | none => exact (pev_ok e t.s k).imp fun h' v w _ q => q.1.sty t.less
    refine one.bind fun x x' σ1 h1 x1 z1 r1 => (ret_ppks es (t.mono x1 z1) k).bind fun y y' σ2 h2 x2 z2 r2 => ?_
    exact .pure z2 ⟨_, _, rfl, r1.sty x2.sty, r2⟩
theorem Repf.zip : ∀ {ps : List Nat} {vs : List V} {ws : List W}, Reps p A h vs ws → Repf p A h (ps.zip vs) (ps.zip ws)
  | [], vs, ws, r => by simp only [List.zip_nil_left]; rfl
  | i :: ps, [], ws, r => by cases r; rfl
  | i :: ps, v :: vs, ws, ⟨w, r, e, r1, r2⟩ => by subst e; exact ⟨w, _, rfl, r1, Repf.zip r2⟩
theorem Repf.cat : ∀ {vs vs' : List (Nat × V)} {ws ws' : List (Nat × W)}, Repf p A h vs ws → Repf p A h vs' ws' → Repf p A h (vs ++ vs') (ws ++ ws')
  | [], vs', ws, ws', r, r' => by cases r; exact r'
  | (k, v) :: vs, vs', ws, ws', ⟨x, r, e, r1, r2⟩, r' => by subst e; exact ⟨x, r ++ ws', rfl, r1, Repf.cat r2 r'⟩
theorem Repf.rev : ∀ {vs : List (Nat × V)} {ws : List (Nat × W)}, Repf p A h vs ws → Repf p A h vs.reverse ws.reverse
  | [], ws, r => by cases r; rfl
  | (k, v) :: vs, ws, ⟨x, r, e, r1, r2⟩ => by
    subst e
    simp only [List.reverse_cons]
    exact (Repf.rev r2).cat ⟨x, [], rfl, r1, rfl⟩
theorem pfor_ok {tg : MG} {f : LV → PS → Psm} {g : Lo → MH → Sm} (hf : ∀ {p : Option Nat} {A : Nat → Prop} {σ : PS} {h : MH} {ρv : LV} {ρ : Lo}, TR p A b F σ h C C' ρv ρ → SSnd b F C C' p A h (f ρv σ) (g ρ h))
    {src : Src} {xs0 : List V} {p0 : Option Nat} {A0 : Nat → Prop} {h0 : MH} (hs : SrcR C.pu.isSome p0 A0 h0 xs0 src) (hn : C.pu = none ∨ noPrs xs0 = true) :
    ∀ (xs : List V) (i : Nat) (p : Option Nat) (A : Nat → Prop) (σ : PS) (h : MH) (ρv : LV) (ρ : Lo), xs = xs0.drop i → i ≤ xs0.length → Ste C.pu.isSome b p0 A0 h0 p A h → TR p A b F σ h C C' ρv ρ →
      SSnd b F C C' p A h (pfor (ptg C tg) f xs ρv σ) (forLp tg g src (xs.length + 1) i ρ h) := by
  intro xs
  have src_at : ∀ {p : Option Nat} {A : Nat → Prop} {h : MH}, Ste C.pu.isSome b p0 A0 h0 p A h → _ := fun {p A h} st => hs p A h (st.pp.imp id fun z => ⟨z.1, hn.elim (fun q => by rw [q] at z; cases z.1) id⟩) st.sty2
  induction xs with
  | nil =>
    intro i p A σ h ρv ρ hx hi st t
    have hi2 : xs0.length ≤ i := by
      have := congrArg List.length hx
      simp at this; omega
    obtain ⟨r, e1, e2⟩ := (src_at st).2 i hi
    rw [List.getElem?_eq_none hi2] at e2
    simp only at e2
    subst e2
    simp only [pfor, List.length_nil, forLp, e1]
    exact .nx (.ofXE .refl) t
  | cons v xs ih =>
    intro i p A σ h ρv ρ hx hi st t
    have hi2 : i < xs0.length := by
      have := congrArg List.length hx
      simp at this; omega
    have hd : xs0[i]? = some v := by
      have := congrArg (·[0]?) hx
      simpa using this.symm
    have hx2 : xs = xs0.drop (i + 1) := by
      have := congrArg (List.drop 1) hx
      simpa using this
    obtain ⟨r1, e1, e2⟩ := (src_at st).2 i hi
    rw [hd] at e2
    obtain ⟨w, rfl, rw'⟩ := e2
    rw [List.length_cons, forLp, pfor]
    simp only [e1]
    cases ht : ptg C tg v ρv with
    | none => exact .none
    | some ρv1 =>
      obtain ⟨ρ1, q1, t1⟩ := t.tg rw' ht
      simp only [q1]
      intro r e
      cases hF : f ρv1 σ with
      | none => simp only [hF] at e; cases e
      | some y =>
        have := hf t1 _ hF
        cases y with
        | nx ρv2 σ2 =>
          simp only [hF] at e
          obtain ⟨ρ2, h2, p2, A2, g1, g2, g3⟩ := this
          simp only [g1]
          exact (ih (i + 1) p2 A2 σ2 h2 ρv2 ρ2 hx2 (by omega) (st.trans g2) g3 r e).pre g2
        | ct ρv2 σ2 =>
          simp only [hF] at e
          obtain ⟨ρ2, h2, p2, A2, g1, g2, g3⟩ := this
          simp only [g1]
          exact (ih (i + 1) p2 A2 σ2 h2 ρv2 ρ2 hx2 (by omega) (st.trans g2) g3 r e).pre g2
        | bk ρv2 σ2 =>
          simp only [hF] at e
          cases e
          obtain ⟨ρ2, h2, p2, A2, g1, g2, g3⟩ := this
          simp only [g1]
          exact ⟨ρ2, h2, p2, A2, rfl, g2, g3⟩
        | rt v σ2 =>
          simp only [hF] at e
          cases e
          obtain ⟨w2, h2, p2, A2, g1, g2⟩ := this
          simp only [g1]
          exact ⟨w2, h2, p2, A2, rfl, g2⟩
        | ex c fs ρv2 σ2 =>
          simp only [hF] at e
          cases e
          obtain ⟨fw, ρ2, h2, p2, A2, g1, g2⟩ := this
          simp only [g1]
          exact ⟨fw, ρ2, h2, p2, A2, rfl, g2⟩
theorem pwhl_ok {c : LV → PS → Po Bool} {c' : Lo → MH → Mo Bool} {f : LV → PS → Psm} {g : Lo → MH → Sm} (hc : ∀ {p : Option Nat} {A : Nat → Prop} {σ : PS} {h : MH} {ρv : LV} {ρ : Lo}, TR p A b F σ h C C' ρv ρ → Snd p A (c ρv σ) (c' ρ h) h (fun _ v w => v = w))
    (hf : ∀ {p : Option Nat} {A : Nat → Prop} {σ : PS} {h : MH} {ρv : LV} {ρ : Lo}, TR p A b F σ h C C' ρv ρ → SSnd b F C C' p A h (f ρv σ) (g ρ h)) :
    ∀ (fu : Nat) (p : Option Nat) (A : Nat → Prop) (σ : PS) (h : MH) (ρv : LV) (ρ : Lo), TR p A b F σ h C C' ρv ρ → SSnd b F C C' p A h (pwhl c f fu ρv σ) (whlLp c' g fu ρ h) := by
  intro fu
  induction fu with
  | zero => intro p A σ h ρv ρ t; exact .none
  | succ fu ih =>
    intro p A σ h ρv ρ t
    simp only [pwhl, whlLp]
    refine SSnd.sE t (hc t) fun k k' σ1 h1 x1 z1 r1 => ?_
    subst r1
    have t1 := t.mono x1 z1
    split
    · intro r e
      cases hF : f ρv σ1 with
      | none => simp only [hF] at e; cases e
      | some y =>
        have := hf t1 _ hF
        cases y with
        | nx ρv2 σ2 =>
          simp only [hF] at e
          obtain ⟨ρ2, h2, p2, A2, g1, g2, g3⟩ := this
          simp only [g1]
          exact (ih p2 A2 σ2 h2 ρv2 ρ2 g3 r e).pre g2
        | ct ρv2 σ2 =>
          simp only [hF] at e
          obtain ⟨ρ2, h2, p2, A2, g1, g2, g3⟩ := this
          simp only [g1]
          exact (ih p2 A2 σ2 h2 ρv2 ρ2 g3 r e).pre g2
        | bk ρv2 σ2 =>
          simp only [hF] at e
          cases e
          obtain ⟨ρ2, h2, p2, A2, g1, g2, g3⟩ := this
          simp only [g1]
          exact ⟨ρ2, h2, p2, A2, rfl, g2, g3⟩
        | rt v σ2 =>
          simp only [hF] at e
          cases e
          obtain ⟨w2, h2, p2, A2, g1, g2⟩ := this
          simp only [g1]
          exact ⟨w2, h2, p2, A2, rfl, g2⟩
        | ex c fs ρv2 σ2 =>
          simp only [hF] at e
          cases e
          obtain ⟨fw, ρ2, h2, p2, A2, g1, g2⟩ := this
          simp only [g1]
          exact ⟨fw, ρ2, h2, p2, A2, rfl, g2⟩
    · exact .nx (.ofXE .refl) t1
theorem pmutE_inv {e : ME} {m : Mth} {s : Nat} {es : MEs} (h : pmutE e = some (m, s, es)) : e = .mth m (.var s) es := by
  unfold pmutE at h
  split at h <;> first | (cases h; rfl) | cases h
theorem pmut_ok {m : Mth} {n : Nat} {ys : List V} {vs : List V} {ws : List W} {v' : V} (rs : Reps p A h vs ws) (hA : A n) (c : Cont p A h (.lst ys) n) (e : pmut m (.lst ys) vs = some v') : ∃ o', mthW m (.ref n) ws h = some (.non, h.set n o') ∧ Cont p A (h.set n o') v' n := by
  obtain ⟨zs, hc, r⟩ := c
  have hl := (List.getElem?_eq_some_iff.mp hc).1
  have st : ∀ o', Sty p A A h (h.set n o') := fun o' m o hpm hna e => ⟨hna, by
    rw [List.getElem?_set_ne (fun q => hna (by rw [← q]; exact hA))]; exact e⟩
  have fin : ∀ {us : List V} {xs : List W}, Reps p A h us xs → Cont p A (h.set n (.lst xs)) (.lst us) n := fun {us xs} q => ⟨xs, List.getElem?_set_self hl, q.sty (st _)⟩
  cases m with
  | append =>
    simp only [pmut] at e
    split at e
    · rename_i us x hu
      cases hu
      obtain ⟨w, q, rfl, r1, r2⟩ := rs
      cases r2
      split at e
      · rename_i hz
        cases e
        exact ⟨.lst (zs ++ [w]), by simp only [mthW, hc]; rw [if_pos (by rw [← r.len]; exact hz)], fin (r.app1 r1)⟩
      · cases e
    · cases e
  | extend =>
    simp only [pmut] at e
    split at e
    · rename_i us x hu
      cases hu
      obtain ⟨w, q, rfl, r1, r2⟩ := rs
      cases r2
      obtain ⟨m', ws', rfl, _, hc', rs'⟩ := r1.pk.lst
      split at e
      · rename_i hz
        cases e
        exact ⟨.lst (zs ++ ws'), by simp only [mthW, hc, hc']; rw [if_pos (by rw [← r.len, ← rs'.len]; exact hz)], fin (r.cat rs')⟩
      · cases e
    · cases e
  | insert =>
    simp only [pmut] at e
    split at e
    · rename_i us i x hu
      cases hu
      obtain ⟨w, q, rfl, r1, r2⟩ := rs
      obtain ⟨w2, q2, rfl, r3, r4⟩ := r2
      cases r4
      cases r1.pk.int
      split at e
      · rename_i hz
        cases e
        exact ⟨.lst (zs.take i.toNat ++ [w2] ++ zs.drop i.toNat), by simp only [mthW, hc]; rw [if_pos (by rw [← r.len]; exact hz)], fin (((r.take _).cat (.one r3)).cat (r.drop _))⟩
      · cases e
    · cases e
  | clear =>
    simp only [pmut] at e
    split at e
    · rename_i us hu
      cases hu
      cases rs
      cases e
      exact ⟨.lst [], by simp only [mthW, hc], fin rfl⟩
    · cases e
  | _ => cases e
theorem pset_ok {n : Nat} {x y v v' : V} {y' w : W} (ry : Pk p A h y y') (rv : Rep p A h v w) (hA : A n) (c : Cont p A h x n) (e : pset x y v = some v') : ∃ o', setW (.ref n) y' w h = some (h.set n o') ∧ Cont p A (h.set n o') v' n := by
  have st : ∀ o', Sty p A A h (h.set n o') := fun o' m o hpm hna e => ⟨hna, by
    rw [List.getElem?_set_ne (fun q => hna (by rw [← q]; exact hA))]; exact e⟩
  cases x with
  | lst us =>
    obtain ⟨zs, hc, r⟩ := c
    have hl := (List.getElem?_eq_some_iff.mp hc).1
    simp only [pset] at e
    split at e
    · cases ry.int
      simp only [Option.map_eq_some_iff] at e
      obtain ⟨j, e, rfl⟩ := e
      exact ⟨.lst (zs.set j w), by simp only [setW, hc, ← r.len, e, Option.map_some], zs.set j w, List.getElem?_set_self hl, (r.set j rv).sty (st _)⟩
    · cases e
  | dct us =>
    obtain ⟨zs, hc, r⟩ := c
    have hl := (List.getElem?_eq_some_iff.mp hc).1
    simp only [pset] at e
    split at e
    · rename_i k hk
      split at e
      · rename_i hz
        cases e
        exact ⟨.dct (kvPut zs k w), by simp only [setW, hc, op_keyV ry hk]; rw [if_pos (by rw [← r.len]; exact hz)], kvPut zs k w, List.getElem?_set_self hl, (r.put rv).sty (st _)⟩
      · cases e
    · cases e
  | _ => cases e
/-- the purse is changed -/
theorem TR.purse {i : Nat} {z : PS} (t : TR p A b F σ h C C' ρv ρ) (e : p = some i) (hA : ¬A i) (hb : True) : TR p A b F z (h.set i (.lst (z.map .int))) C C' ρv ρ ∧ Ste u b p A h p A (h.set i (.lst (z.map .int))) := by
  subst e
  have hl : i < h.length := by
    have := t.s.g.pz
    simp only [Pz] at this
    exact (List.getElem?_eq_some_iff.mp this).1
  have x : XE (some i) h (h.set i (.lst (z.map .int))) := ⟨by simp, fun n o hn e => by rw [List.getElem?_set_ne (fun q => hn (by rw [q]))]; exact e⟩
  exact ⟨t.mono x (by simp only [Pz]; exact List.getElem?_set_self hl), .ofXE x⟩
theorem pkeep_flat {o : Option V} {v : V} (e : pkeep o = some v) : o = some v ∧ noPr v = true ∧ isLD v = false ∧ ∀ {p : Option Nat} {A : Nat → Prop} {h : MH} {n : Nat}, ¬Cont p A h v n := by
  unfold pkeep at e
  split at e <;> first | (cases e; done) | (cases e; exact ⟨rfl, rfl, rfl, fun c => c⟩) | skip
  split at e
  · rename_i hn; cases e; exact ⟨rfl, by simpa only [noPr] using hn, rfl, fun c => c⟩
  · cases e
/-- another purse comes -/
theorem TR.newPurse {i n : Nat} {is : List Int} (t : TR p A b F σ h C C' ρv ρ) (x : XE p h h1) (hn : h.length ≤ n) (hc : h1[n]? = some (.lst (is.map .int))) (ho : C.own i = false) (hx : C.exn = none) :
    TR (some n) A b F is h1 C C' ((ρv.map pkeep).set i (some .prs)) (ρ.set i (some (.ref n))) := by
  have old : ∀ {j : Nat} {v : V}, (ρv.map pkeep)[j]? = some (some v) → ρv[j]? = some (some v) ∧ pkeep (some v) = some v := fun {j v} e => by
    rw [List.getElem?_map, Option.map_eq_some_iff] at e
    obtain ⟨o, e1, e2⟩ := e
    have := (pkeep_flat e2).1
    subst this
    exact ⟨e1, e2⟩
  have noown : ∀ {j : Nat} {v : V}, C.own j = true → ((ρv.map pkeep).set i (some .prs))[j]? = some (some v) → False := fun {j v} oj e => by
    have hij : i ≠ j := fun z => by subst z; rw [ho] at oj; cases oj
    obtain ⟨e1, e2⟩ := old (set_at e hij)
    obtain ⟨m, _, _, _, c⟩ := t.s.e.cell oj e1
    exact (pkeep_flat e2).2.2.2 c
  refine ⟨⟨⟨hc, fun m a => Nat.lt_of_lt_of_le (t.s.g.lt m a) x.len, fun m e a => ?_⟩, ⟨by simp [t.s.e.len], fun j v hj => ?_⟩, ?_, t.s.c⟩, ⟨fun j m v oj g1 _ => (noown oj g1).elim, fun j k m u v oj _ g1 _ _ _ => (noown oj g1).elim⟩, t.fA, t.fb, Nat.le_trans t.bh x.len, .inr hx⟩
  · cases e
    have := t.s.g.lt _ a
    omega
  · by_cases hij : i = j
    · subst hij
      rw [List.getElem?_set, if_pos rfl] at hj ⊢
      rw [List.length_map] at hj
      rw [← t.s.e.len]
      split at hj
      · rename_i hl
        cases hj
        rw [if_pos hl]
        exact ⟨_, rfl, fun _ => ⟨n, rfl, rfl⟩, fun z => (by rw [ho] at z; cases z)⟩
      · cases hj
    · obtain ⟨e1, e2⟩ := old (set_at hj hij)
      obtain ⟨w, q1, q2, q3⟩ := t.s.e.at_ j v e1
      rw [List.getElem?_set_ne hij]
      have st : Sty2 p (some n) A A h h1 := fun m o hpm ha e => by
        have := (List.getElem?_eq_some_iff.mp e).1
        exact ⟨by simp; omega, ha, x.at_ m o hpm e⟩
      refine ⟨w, q1, fun o => (q2 o).sty2 st (.inr (pkeep_flat e2).2.1), fun o => ?_⟩
      obtain ⟨m, _, _, _, c⟩ := q3 o
      exact ((pkeep_flat e2).2.2.2 c).elim
  · have := t.s.x
    unfold XR at this ⊢
    rw [hx] at this ⊢
    exact this
theorem TR.mono2 {C2 : PC} {C2' : Cfg} (t : TR p A b F σ h C2 C2' ρv ρ) (ho : C2.own = C.own) (x : XR p A h C C') (c : CR C C') (px : C.pu = none ∨ C.exn = none) : TR p A b F σ h C C' ρv ρ :=
  ⟨⟨t.s.g, by rw [← ho]; exact t.s.e, x, c⟩, by rw [← ho]; exact t.o, t.fA, t.fb, t.bh, px⟩
end
theorem nil_no {body : MSs} : isNilS body = false → ¬((match body with | .nil => true | _ => false) = true) := by
  intro h
  cases body with
  | nil => simp [isNilS] at h
  | cons s ss => exact Bool.false_ne_true
def StOk (m : MS) : Prop := ∀ {p : Option Nat} {A : Nat → Prop} {b : Nat} {F : Nat → Prop} {σ : PS} {h : MH} {C : PC} {C' : Cfg} {K : Nat → Option (List Nat)} {ρv : LV} {ρ : Lo}, TR p A b F σ h C C' ρv ρ → CallR C C' → SSnd b F C C' p A h (pex C K m ρv σ) (ex C' K m ρ h)
def SsOk (m : MSs) : Prop := ∀ {p : Option Nat} {A : Nat → Prop} {b : Nat} {F : Nat → Prop} {σ : PS} {h : MH} {C : PC} {C' : Cfg} {K : Nat → Option (List Nat)} {ρv : LV} {ρ : Lo}, TR p A b F σ h C C' ρv ρ → CallR C C' → SSnd b F C C' p A h (pexs C K m ρv σ) (exs C' K m ρ h)
def HdOk (m : MHs) : Prop := ∀ {p : Option Nat} {A : Nat → Prop} {b : Nat} {F : Nat → Prop} {σ : PS} {h : MH} {C : PC} {C' : Cfg} {K : Nat → Option (List Nat)} {ρv : LV} {ρ : Lo} {c : Nat} {fs : List (Nat × V)} {fw : List (Nat × W)}, TR p A b F σ h C C' ρv ρ → Repf p A h fs fw → SSnd b F C C' p A h (phdl C K m c fs ρv σ) (hdl C' K m c fw ρ h)
mutual
theorem pex_ok : ∀ m : MS, StOk m
  | .asg i e => fun t k => by
    rename_i p A b F σ h C C' K ρv ρ
    simp only [pex, ex, free_ok t.s.x]
    split
    · split
      · rename_i hpu
        split
        · rename_i hfr
          simp only [Bool.and_eq_true, Option.isNone_iff_eq_none, Bool.not_eq_true'] at hfr
          refine SSnd.sE2 t (pev_ok e t.s k) fun v w σ1 h1 x1 z1 r1 => ?_
          cases v with
          | lst xs =>
            simp only
            cases hi : pints xs with
            | none => exact .none
            | some is =>
              obtain ⟨n, rfl, hn, hp, ws, hc, rs⟩ := r1.2 hfr.1.1 rfl
              have hws := op_ints2 rs hi
              subst hws
              exact .nx ⟨x1.len, fun _ a => a, fun _ a => .inl a, .inr ⟨by rw [hpu]; rfl, n, rfl, hn⟩, fun m o hpm _ e => x1.at_ m o hpm e, fun m o _ hpm e => x1.at_ m o hpm e⟩ (t.newPurse x1 hn hc hfr.2 hfr.1.2)
          | _ => exact .none
        · exact .none
      · split
        · rename_i hpu ho
          split
          · rename_i hfr
            refine SSnd.sE2 t (pev_ok e t.s k) fun v w σ1 h1 x1 z1 r1 => ?_
            split
            · rename_i hld
              obtain ⟨n, t2, s2⟩ := t.own (u := C.pu.isSome) (i := i) ho x1 z1 (r1.2 hfr) hld
              exact .nx s2 t2
            · exact .none
          · exact .none
        · rename_i hpu ho
          refine SSnd.sE t (pev_ok e t.s k) fun v w σ1 h1 x1 z1 r1 => ?_
          exact .nx (.ofXE .refl) ((t.mono x1 z1).set (by simpa using ho) r1.1)
    · exact .none
  | .asgT is e => fun t k => by
    rename_i p A b F σ h C C' K ρv ρ
    simp only [pex, ex, free_all t.s.x]
    split
    · rename_i hc
      simp only [Bool.and_eq_true] at hc
      rw [if_pos (by simp only [Bool.and_eq_true]; exact ⟨t.s.c.calm hc.1.1, hc.1.2⟩)]
      refine SSnd.sE t (pev_ok e t.s k) fun v w σ1 h1 x1 z1 r1 => ?_
      split
      · rename_i xs hxs
        obtain ⟨ws, q1, q2⟩ := op_seq r1.1.pk hxs
        simp only [q1]
        split
        · rename_i hl
          rw [if_pos (by rw [← q2.len]; exact hl)]
          have t1 := t.mono x1 z1
          exact .nx (.ofXE .refl) (t1.env (t1.s.e.sets hc.2 q2 hl) (t1.o.sets hc.2 hl (by rw [← q2.len]; exact hl)))
        · exact .none
      · exact .none
    · exact .none
  | .par2 i j a c => fun t k => by
    rename_i p A b F σ h C C' K ρv ρ
    simp only [pex, ex, free_ok t.s.x]
    split
    · rename_i hc
      simp only [Bool.and_eq_true, Bool.not_eq_true'] at hc
      rw [if_pos (by simp only [Bool.and_eq_true, Bool.not_eq_true']; exact ⟨⟨⟨t.s.c.calm hc.1.1.1.1.1, hc.1.1.1.1.2⟩, hc.1.1.1.2⟩, hc.1.1.2⟩)]
      refine SSnd.sE t (pev_ok a t.s k) fun v w σ1 h1 x1 z1 r1 => SSnd.sE (t.mono x1 z1) (pev_ok c (t.mono x1 z1).s k) fun v2 w2 σ2 h2 x2 z2 r2 => ?_
      exact .nx (.ofXE .refl) ((((t.mono x1 z1).mono x2 z2).set hc.1.2 (r1.1.sty x2.sty)).set hc.2 r2.1)
    · exact .none
  | .setI o i e => fun t k => by
    rename_i p A b F σ h C C' K ρv ρ
    simp only [pex, ex]
    refine SSnd.sE t (pev_ok e t.s k) fun v w σ1 h1 x1 z1 r1 => ?_
    cases hs : isV o with
    | none => exact .none
    | some s =>
      obtain ⟨j, rfl⟩ : ∃ j, o = .var j := by cases o <;> simp [isV] at hs; exact ⟨_, rfl⟩
      simp only [isV, Option.some.injEq] at hs
      subst hs
      have t1 := t.mono x1 z1
      simp only
      split
      · rename_i hv
        obtain ⟨w0, g1, g2, g3⟩ := t1.s.e.at_ j _ hv
        have ho : C.own j = false := by
          cases ho : C.own j with
          | false => rfl
          | true => obtain ⟨_, _, _, _, c⟩ := g3 ho; exact c.elim
        obtain ⟨n, rfl, rfl⟩ := g2 ho
        simp only [ev, g1, sE_rt]
        refine SSnd.sE t1 (pev_ok i t1.s k) fun y y' σ2 h2 x2 z2 r2 => ?_
        have t2 := t1.mono x2 z2
        split
        · rename_i kk z
          cases r2.1.pk.int
          cases r1.1.pk.int
          split
          · rename_i jj hj
            have hc : h2[n]? = some (.lst (σ2.map .int)) := z2
            have hA : ¬A n := t2.s.g.pa n rfl
            obtain ⟨t3, s3⟩ := t2.purse (u := C.pu.isSome) (i := n) (z := σ2.set jj z) rfl hA trivial
            have e1 : setW (.ref n) (.int kk) (.int z) h2 = some (h2.set n (.lst ((σ2.set jj z).map .int))) := by
              simp only [setW, hc, List.length_map, hj, Option.map_some]
              rw [List.map_set]
            simp only [e1]
            exact .nx s3 t3
          · exact .none
        · exact .none
      · rename_i x hv hx
        split
        · rename_i ho
          obtain ⟨n, g1, g2, g3, g4⟩ := t1.s.e.cell ho hx
          simp only [ev, g1, sE_rt]
          refine SSnd.sE t1 (pev_ok i t1.s k) fun y y' σ2 h2 x2 z2 r2 => ?_
          have t2 := t1.mono x2 z2
          cases hp : pset x y v with
          | none => exact .none
          | some x' =>
            obtain ⟨o', e1, c'⟩ := pset_ok r2.1.pk (r1.1.sty x2.sty) g2 (g4.mono x2 g3) hp
            simp only [e1]
            obtain ⟨t3, s3⟩ := t2.mut (u := C.pu.isSome) ho hx g1 c'
            exact .nx s3 t3
        · exact .none
      · exact .none
  | .aug i op e => fun t k => by
    rename_i p A b F σ h C C' K ρv ρ
    simp only [pex, ex, free_ok t.s.x]
    split
    · rename_i hc
      simp only [Bool.and_eq_true, Bool.not_eq_true'] at hc
      rw [if_pos hc.1]
      split
      · rename_i x hx
        obtain ⟨w0, g1, g2, g3⟩ := t.s.e.at_ i _ hx
        cases (g2 hc.2).pk.int
        simp only [g1]
        refine SSnd.sE t (pev_ok e t.s k) fun v w σ1 h1 x1 z1 r1 => ?_
        split
        · cases r1.1.pk.int
          exact .nx (.ofXE .refl) ((t.mono x1 z1).set hc.2 rfl)
        · cases r1.1.pk.int
          exact .nx (.ofXE .refl) ((t.mono x1 z1).set hc.2 rfl)
        · exact .none
      · exact .none
    · exact .none
  | .expr e => fun t k => by
    rename_i p A b F σ h C C' K ρv ρ
    simp only [pex, ex]
    cases hm : pmutE e with
    | none =>
      simp only
      refine SSnd.sE t (pev_ok e t.s k) fun v w σ1 h1 x1 z1 r1 => ?_
      exact .nx (.ofXE .refl) (t.mono x1 z1)
    | some q =>
      obtain ⟨m, s, es⟩ := q
      have := pmutE_inv hm
      subst this
      simp only
      split
      · rename_i ho
        split
        · rename_i ys hv
          obtain ⟨n, g1, g2, g3, g4⟩ := t.s.e.cell ho hv
          have hk : mthK m (.ref n) h = true := by
            obtain ⟨zs, hc, _⟩ := g4
            cases m <;> first | (simp only [mthK, lstOf, hc, Option.isSome_some]; done) | (simp [pmutE] at hm; done)
          simp only [ev, g1, bd_rt, hk, if_true]
          intro r er
          cases hE : pevs C es ρv σ with
          | none => rw [hE] at er; cases er
          | some q =>
            have := pevs_ok es t.s k _ hE
            cases q with
            | ex c fs σ1 =>
              rw [hE] at er
              cases er
              obtain ⟨fw, h1, e1, x1, z1, r1⟩ := this
              rw [e1, bd_ex]
              exact ⟨fw, ρ, h1, p, A, rfl, .ofXE x1, t.mono x1 z1, r1⟩
            | ok vs σ1 =>
              rw [hE] at er
              simp only [psE_ok] at er
              obtain ⟨ws, h1, e1, x1, z1, r1⟩ := this
              have t1 := t.mono x1 z1
              cases hp : pmut m (.lst ys) vs with
              | none => rw [hp] at er; cases er
              | some x' =>
                rw [hp] at er
                cases er
                obtain ⟨o', e2, c'⟩ := pmut_ok r1 g2 (g4.mono x1 g3) hp
                obtain ⟨t3, s3⟩ := t1.mut (u := C.pu.isSome) ho hv g1 c'
                rw [e1, bd_rt, e2, up_some, sE_rt]
                exact ⟨ρ, _, p, A, rfl, (Ste.ofXE x1).trans s3, t3⟩
        · exact .none
      · exact .none
  | .ite c a d => fun t k => by
    rename_i p A b F σ h C C' K ρv ρ
    simp only [pex, ex]
    refine SSnd.sE t (ptst_ok c t.s k) fun q q' σ1 h1 x1 z1 r1 => ?_
    subst r1
    split
    · exact pexs_ok a (t.mono x1 z1) k
    · exact pexs_ok d (t.mono x1 z1) k
  | .for_ tg it body => fun t k => by
    rename_i p A b F σ h C C' K ρv ρ
    simp only [pex, ex]
    split
    · rename_i hc
      rw [if_pos (t.s.c.calm hc)]
      refine SSnd.sE t (pevi_ok it t.s k) fun xs src σ1 h1 x1 z1 r1 => ?_
      split
      · rename_i hn
        simp only [Bool.or_eq_true, Option.isNone_iff_eq_none] at hn
        rw [(r1 _ _ _ (.inl rfl) (XE.refl (p := p) (h := h1)).sty.two).1]
        exact pfor_ok (fun t => pexs_ok body t k) r1 hn xs 0 p A σ1 h1 ρv ρ rfl (Nat.zero_le _) (.ofXE .refl) (t.mono x1 z1)
      · exact .none
    · exact .none
  | .whl c body => fun t k => by
    rename_i p A b F σ h C C' K ρv ρ
    simp only [pex, ex]
    split
    · rename_i hc
      rw [if_pos (t.s.c.calm hc), t.s.c.wf]
      exact pwhl_ok (fun t => ptst_ok c t.s k) (fun t => pexs_ok body t k) C.wf p A σ h ρv ρ t
    · exact .none
  | .ret e => fun t k => by
    rename_i p A b F σ h C C' K ρv ρ
    simp only [pex, ex]
    cases hv : isV e with
    | some i =>
      obtain ⟨j, rfl⟩ : ∃ j, e = .var j := by cases e <;> simp [isV] at hv; exact ⟨_, rfl⟩
      simp only [isV, Option.some.injEq] at hv
      subst hv
      simp only
      split
      · rename_i hm
        intro r er
        cases hl : plook ρv j σ with
        | none => rw [hl] at er; cases er
        | some q =>
          obtain ⟨v, w, rfl, e1, e2, e3⟩ := t.look hl
          rw [hl] at er
          cases er
          rw [e1, sE_rt]
          refine ⟨w, h, p, A, rfl, .ofXE .refl, t.s.g.pz, e2, fun q => e3 ?_⟩
          simpa [q, isV, frE] using hm
      · exact .none
    | none =>
      simp only
      split
      · rename_i hm
        cases ht : tupE e with
        | some es =>
          obtain ⟨es', rfl⟩ : ∃ j, e = .tup j := by cases e <;> simp [tupE] at ht; exact ⟨_, rfl⟩
          simp only [tupE, Option.some.injEq] at ht
          subst ht
          simp only [ev]
          have := (ret_ppks es' t k).bind (f := fun vs σ1 => if vs.length ≤ sizeLine then prt (V.tup vs) σ1 else none) (g := fun ws h1 => if ws.length ≤ sizeLine then rt (.tup ws) h1 else none) (Q' := fun h' v w => Rep p F h' v w ∧ isLD v = false) fun vs ws σ1 h1 x1 z1 r1 => by
            rw [← r1.len]
            split
            · exact .pure z1 ⟨⟨ws, rfl, r1⟩, rfl⟩
            · exact .none
          refine SSnd.sE t this fun v w σ1 h1 x1 z1 r1 => fun r er => ?_
          cases er
          exact ⟨w, h1, p, A, rfl, .ofXE .refl, z1, r1.1, fun _ z => by rw [r1.2] at z; cases z⟩
        | none =>
          simp only
          refine SSnd.sE t (pev_ok e t.s k) fun v w σ1 h1 x1 z1 r1 => fun r er => ?_
          cases er
          refine ⟨w, h1, p, A, rfl, .ofXE .refl, z1, r1.1.sty t.less, fun q hld => ?_⟩
          have hf : frE C e = true := by simpa [q, hv] using hm
          obtain ⟨n, rfl, hn, hp, c⟩ := r1.2 hf hld
          exact ⟨n, rfl, Nat.le_trans t.bh hn, hp, c.less fun m z => z.imp (t.fA m) id⟩
      · exact .none
  | .retN => fun t k => by
    rename_i p A b F σ h C C' K ρv ρ
    simp only [pex, ex]
    intro r er
    cases er
    exact ⟨.non, h, p, A, rfl, .ofXE .refl, t.s.g.pz, rfl, fun _ z => by cases z⟩
  | .raise c es => fun t k => by
    rename_i p A b F σ h C C' K ρv ρ
    simp only [pex, ex]
    split
    · rename_i hc
      rw [if_pos (t.s.c.calm hc)]
      refine SSnd.sE t (pevs_ok es t.s k) fun vs ws σ1 h1 x1 z1 r1 => ?_
      cases hK : K c with
      | none => exact .none
      | some ps =>
        simp only [← r1.len]
        split
        · intro r er
          cases er
          exact ⟨_, ρ, h1, p, A, rfl, .ofXE .refl, t.mono x1 z1, (Repf.zip r1).rev⟩
        · exact .none
    · exact .none
  | .try_ body hs => fun t k => by
    rename_i p A b F σ h C C' K ρv ρ
    simp only [pex, ex]
    split
    · rename_i hc
      rw [if_pos (t.s.c.calm hc)]
      intro r er
      cases hB : pexs C K body ρv σ with
      | none => simp only [hB] at er; cases er
      | some y =>
        have := pexs_ok body t k _ hB
        cases y with
        | ex c fs ρv1 σ1 =>
          simp only [hB] at er
          obtain ⟨fw, ρ1, h1, p1, A1, e1, s1, t1, r1⟩ := this
          simp only [e1]
          exact (phdl_ok hs t1 r1 r er).pre s1
        | nx ρv1 σ1 =>
          simp only [hB] at er
          cases er
          obtain ⟨ρ1, h1, p1, A1, e1, q⟩ := this
          simp only [e1]
          exact ⟨ρ1, h1, p1, A1, rfl, q⟩
        | bk ρv1 σ1 =>
          simp only [hB] at er
          cases er
          obtain ⟨ρ1, h1, p1, A1, e1, q⟩ := this
          simp only [e1]
          exact ⟨ρ1, h1, p1, A1, rfl, q⟩
        | ct ρv1 σ1 =>
          simp only [hB] at er
          cases er
          obtain ⟨ρ1, h1, p1, A1, e1, q⟩ := this
          simp only [e1]
          exact ⟨ρ1, h1, p1, A1, rfl, q⟩
        | rt v σ1 =>
          simp only [hB] at er
          cases er
          obtain ⟨ρ1, h1, p1, A1, e1, q⟩ := this
          simp only [e1]
          exact ⟨ρ1, h1, p1, A1, rfl, q⟩
    · exact .none
  | .pass => fun t k => by
    simp only [pex, ex]
    exact .nx (.ofXE .refl) t
  | .brk => fun t k => by
    rename_i p A b F σ h C C' K ρv ρ
    simp only [pex, ex]
    intro r er
    cases er
    exact ⟨ρ, h, p, A, rfl, .ofXE .refl, t⟩
  | .cnt => fun t k => by
    rename_i p A b F σ h C C' K ρv ρ
    simp only [pex, ex]
    intro r er
    cases er
    exact ⟨ρ, h, p, A, rfl, .ofXE .refl, t⟩
theorem pexs_ok : ∀ m : MSs, SsOk m
  | .nil => fun t k => by
    simp only [pexs, exs]
    exact .nx (.ofXE .refl) t
  | .cons s ss => fun t k => by
    simp only [pexs, exs]
    exact (pex_ok s t k).sQ fun ρv1 σ1 ρ1 h1 p1 A1 t1 => pexs_ok ss t1 k
theorem phdl_ok : ∀ m : MHs, HdOk m
  | .nil => fun t r => by
    rename_i p A b F σ h C C' K ρv ρ c fs fw
    simp only [phdl, hdl]
    intro q er
    cases er
    exact ⟨fw, ρ, h, p, A, rfl, .ofXE .refl, t, r⟩
  | .stop => fun t r => by
    simp only [phdl]
    exact .none
  | .cons c' slot body rest => fun t r => by
    rename_i p A b F σ h C C' K ρv ρ c fs fw
    simp only [phdl, hdl, t.s.c.sub]
    cases hsub : C.sub c c' with
    | none => exact .none
    | some q =>
      cases q with
      | false => exact phdl_ok rest t r
      | true =>
        simp only
        have x1 : XE p h (h ++ [.xd fw]) := .app _ _
        have z1 := t.s.g.pz.app (h := h) [.xd fw]
        have t1 := t.mono x1 z1
        have hp := t.s.g.plt
        have hA : ¬A h.length := fun a => by have := t.s.g.lt _ a; omega
        cases slot with
        | some i =>
          dsimp only
          cases hb : (isNilS body || C.own i) with
          | true => rw [if_pos rfl]; exact .none
          | false =>
            rw [if_neg (show ¬(false = true) by decide)]
            simp only [Bool.or_eq_false_iff] at hb
            rw [if_neg]
            rotate_left
            · have hb1 := hb.1
              clear t1 hb x1 z1 r
              cases body with
              | nil => simp [isNilS] at hb1
              | cons s ss => exact Bool.false_ne_true
            have t2 := t1.wipe (i := i) hb.2
            have t3 : TR p A b F σ (h ++ [.xd fw]) { C with call := fun _ _ _ => none, has := fun _ => false, calm := false, exn := some (i, fs), pu := none } { C' with call := fun _ _ _ => none, has := fun _ => false, calm := false, exn := some (i, h.length) } (ρv.set i none) (ρ.set i none) :=
              ⟨⟨t2.s.g, t2.s.e, ⟨h.length, fw, rfl, hp, hA, by rw [at_end0]; rfl, r.sty x1.sty⟩, ⟨fun z => (by cases z), t.s.c.cdt, t.s.c.glb, fun f z => (by cases z), t.s.c.wf, t.s.c.sub⟩⟩, t2.o, t2.fA, t2.fb, t2.bh, .inl rfl⟩
            have key := pexs_ok body (K := K) t3 (fun _ _ _ _ _ _ _ _ _ => .none)
            intro q er
            generalize hB : pexs { C with call := fun _ _ _ => none, has := fun _ => false, calm := false, exn := some (i, fs), pu := none } K body (ρv.set i none) σ = Y at er key
            cases Y with
            | none => cases er
            | some y =>
              have := key _ rfl
              cases y with
              | nx ρv1 σ1 =>
                cases er
                obtain ⟨ρ1, h1, p1, A1, e1, s1, t4⟩ := this
                simp only [e1]
                have s2 := (Ste.ofXE (u := C.pu.isSome) (b := b) x1).trans s1.weak
                have t5 := t4.wipe (i := i) hb.2
                exact ⟨_, h1, p1, A1, rfl, s2, t5.mono2 rfl (t.s.x.ste s2 t.px) t.s.c t.px⟩
              | bk ρv1 σ1 =>
                cases er
                obtain ⟨ρ1, h1, p1, A1, e1, s1, t4⟩ := this
                simp only [e1]
                have s2 := (Ste.ofXE (u := C.pu.isSome) (b := b) x1).trans s1.weak
                have t5 := t4.wipe (i := i) hb.2
                exact ⟨_, h1, p1, A1, rfl, s2, t5.mono2 rfl (t.s.x.ste s2 t.px) t.s.c t.px⟩
              | ct ρv1 σ1 =>
                cases er
                obtain ⟨ρ1, h1, p1, A1, e1, s1, t4⟩ := this
                simp only [e1]
                have s2 := (Ste.ofXE (u := C.pu.isSome) (b := b) x1).trans s1.weak
                have t5 := t4.wipe (i := i) hb.2
                exact ⟨_, h1, p1, A1, rfl, s2, t5.mono2 rfl (t.s.x.ste s2 t.px) t.s.c t.px⟩
              | rt v σ1 =>
                cases er
                obtain ⟨w, h1, p1, A1, e1, s1, q⟩ := this
                simp only [e1]
                exact ⟨w, h1, p1, A1, rfl, (Ste.ofXE (u := C.pu.isSome) (b := b) x1).trans s1.weak, q⟩
              | ex _ _ _ _ => cases er
        | none =>
          simp only
          have t3 : TR p A b F σ (h ++ [.xd fw]) { C with call := fun _ _ _ => none, has := fun _ => false, calm := false, exn := none, pu := none } { C' with call := fun _ _ _ => none, has := fun _ => false, calm := false, exn := none } ρv ρ :=
            ⟨⟨t1.s.g, t1.s.e, rfl, ⟨fun z => (by cases z), t.s.c.cdt, t.s.c.glb, fun f z => (by cases z), t.s.c.wf, t.s.c.sub⟩⟩, t1.o, t1.fA, t1.fb, t1.bh, .inl rfl⟩
          have key := pexs_ok body (K := K) t3 (fun _ _ _ _ _ _ _ _ _ => .none)
          intro q er
          generalize hB : pexs { C with call := fun _ _ _ => none, has := fun _ => false, calm := false, exn := none, pu := none } K body ρv σ = Y at er key
          cases Y with
          | none => cases er
          | some y =>
            have := key _ rfl
            cases y with
            | nx ρv1 σ1 =>
              cases er
              obtain ⟨ρ1, h1, p1, A1, e1, s1, t4⟩ := this
              simp only [e1]
              have s2 := (Ste.ofXE (u := C.pu.isSome) (b := b) x1).trans s1.weak
              exact ⟨_, h1, p1, A1, rfl, s2, t4.mono2 rfl (t.s.x.ste s2 t.px) t.s.c t.px⟩
            | bk ρv1 σ1 =>
              cases er
              obtain ⟨ρ1, h1, p1, A1, e1, s1, t4⟩ := this
              simp only [e1]
              have s2 := (Ste.ofXE (u := C.pu.isSome) (b := b) x1).trans s1.weak
              exact ⟨_, h1, p1, A1, rfl, s2, t4.mono2 rfl (t.s.x.ste s2 t.px) t.s.c t.px⟩
            | ct ρv1 σ1 =>
              cases er
              obtain ⟨ρ1, h1, p1, A1, e1, s1, t4⟩ := this
              simp only [e1]
              have s2 := (Ste.ofXE (u := C.pu.isSome) (b := b) x1).trans s1.weak
              exact ⟨_, h1, p1, A1, rfl, s2, t4.mono2 rfl (t.s.x.ste s2 t.px) t.s.c t.px⟩
            | rt v σ1 =>
              cases er
              obtain ⟨w, h1, p1, A1, e1, s1, q⟩ := this
              simp only [e1]
              exact ⟨w, h1, p1, A1, rfl, (Ste.ofXE (u := C.pu.isSome) (b := b) x1).trans s1.weak, q⟩
            | ex _ _ _ _ => cases er
end
end Mi
set_option Elab.async false
set_option linter.all false
set_option maxRecDepth 100000
set_option maxHeartbeats 4000000
/-! Runs. -/
namespace Mi
open PySem PySem.Spec PyProof.Rows L2
section
variable {p : Option Nat} {A : Nat → Prop} {σ : PS} {h : MH}
def CallsOk (call : Nat → List V → PS → Po V) (fr : Nat → Bool) (call' : Nat → List W → MH → Mo W) : Prop := ∀ (p : Option Nat) (A : Nat → Prop) (f : Nat) (vs : List V) (σ : PS) (h : MH) (ws : List W), Hw p A σ h → Reps p A h vs ws →
  Snd p A (call f vs σ) (call' f ws h) h (fun h' v w => Rep p A h' v w ∧ (fr f = true → Fre p A h.length h' v w))
theorem cfg_cr {T : Tab} {D : Nat → PDef} {call : Nat → List V → PS → Po V} {d : PDef} {pu : Option Nat} {call' : Nat → List W → MH → Mo W} : CR (ppcfg T D call d pu) (cfg T call') where
  calm := fun _ => rfl
  cdt := fun g kvs e => by
    simp only [ppcfg, Option.bind_eq_some_iff] at e
    obtain ⟨kws, e1, e2⟩ := e
    exact ⟨kws, e1, e2⟩
  glb := fun g kvs e => by
    simp only [ppcfg, Option.bind_eq_some_iff] at e
    obtain ⟨kws, e1, e2⟩ := e
    exact ⟨kws, e1, e2⟩
  has := fun f e => e
  wf := rfl
  sub := fun _ _ => rfl
theorem cfg_calls {T : Tab} {D : Nat → PDef} {call : Nat → List V → PS → Po V} {d : PDef} {pu : Option Nat} {call' : Nat → List W → MH → Mo W} (k : CallsOk call (fun f => (D f).fr) call') : CallR (ppcfg T D call d pu) (cfg T call') := by
  intro p A f vs σ h ws g r
  simp only [ppcfg, cfg, cfgCall]
  cases hd : T.dfl f with
  | none => simp only; exact k p A f vs σ h ws g r
  | some q =>
    obtain ⟨g', ds⟩ := q
    simp only
    cases hw : wvs ds with
    | none => exact .none
    | some es => exact k p A g' (vs ++ es) σ h (ws ++ ds) g (r.cat (wvs_rep hw))
theorem start_tr {C : PC} {C' : Cfg} {vs : List V} {ws : List W} {np ns : Nat} (g : Hw p A σ h) (r : Reps p A h vs ws) (hl : vs.length = np) (ho : ∀ i, C.own i = true → np ≤ i) (hx : C.exn = none) (hx' : C'.exn = none) (c : CR C C') :
    TR p A h.length A σ h C C' (vs.map some ++ List.replicate (ns - np) none) (ws.map some ++ List.replicate (ns - np) none) := by
  have hw := r.len
  have old : ∀ {i : Nat} {v : V}, (vs.map some ++ List.replicate (ns - np) none)[i]? = some (some v) → i < np ∧ vs[i]? = some v := fun {i v} e => by
    by_cases hi : i < np
    · rw [List.getElem?_append_left (by simpa [hl] using hi), List.getElem?_map, Option.map_eq_some_iff] at e
      obtain ⟨u, e1, e2⟩ := e
      cases e2
      exact ⟨hi, e1⟩
    · rw [List.getElem?_append_right (by simp; omega)] at e
      rw [List.getElem?_replicate] at e
      split at e <;> cases e
  refine ⟨⟨g, ⟨by simp [hw], fun i v hi => ?_⟩, by unfold XR; rw [hx]; exact hx', c⟩, ⟨fun i n v o e _ => ?_, fun i j n u v o _ e _ _ _ => ?_⟩, fun _ a => a, fun n a => g.lt n a, Nat.le_refl _, .inr hx⟩
  · obtain ⟨h1, h2⟩ := old hi
    obtain ⟨w, e1, e2⟩ := r.at_ h2
    refine ⟨w, ?_, fun _ => e2, fun o => ?_⟩
    · rw [List.getElem?_append_left (by simp; omega), List.getElem?_map, e1]; rfl
    · have := ho i o; omega
  · have := ho i o
    have := (old e).1
    omega
  · have := ho i o
    have := (old e).1
    omega
theorem end_snd {C : PC} {C' : Cfg} {x : Psm} {y : Sm} (s : SSnd h.length A C C' p A h x y) (hp : C.pu = none) : Snd p A (pendOf x) (endOf y) h (fun h' v w => Rep p A h' v w ∧ (C.mf = true → Fre p A h.length h' v w)) := by
  have fin : ∀ {p' : Option Nat} {A' : Nat → Prop} {h' : MH}, Ste C.pu.isSome h.length p A h p' A' h' → p' = p ∧ XE p h h' := fun {p' A' h'} st => by
    refine ⟨?_, st.len, fun n o hn e => st.bs n o (List.getElem?_eq_some_iff.mp e).1 hn e⟩
    rcases st.pp with z | z
    · exact z
    · rw [hp] at z; cases z.1
  intro r e
  cases x with
  | none => cases e
  | some x =>
    have := s _ rfl
    cases x with
    | nx ρ σ1 =>
      cases e
      obtain ⟨ρ', h', p', A', rfl, st, t⟩ := this
      obtain ⟨rfl, x⟩ := fin st
      exact ⟨.non, h', rfl, x, t.s.g.pz, rfl, fun _ z => by cases z⟩
    | rt v σ1 =>
      cases e
      obtain ⟨w, h', p', A', rfl, st, z, r1, r2⟩ := this
      obtain ⟨rfl, x⟩ := fin st
      exact ⟨w, h', rfl, x, z, r1, r2⟩
    | ex c fs ρ σ1 =>
      cases e
      obtain ⟨fw, ρ', h', p', A', rfl, st, t, r1⟩ := this
      obtain ⟨rfl, x⟩ := fin st
      exact ⟨fw, h', rfl, x, t.s.g.pz, r1.sty t.less⟩
    | bk _ _ => cases e
    | ct _ _ => cases e
end
theorem prun_ss {T : Tab} {D : Nat → PDef} {call : Nat → List V → PS → Po V} {call' : Nat → List W → MH → Mo W} (k : CallsOk call (fun f => (D f).fr) call') {d : PDef} {pu : Option Nat} {m : MDef} {p : Option Nat} {A : Nat → Prop} {σ : PS} {h : MH} {vs : List V} {ws : List W} (g : Hw p A σ h) (r : Reps p A h vs ws)
    (hl : vs.length = m.np) (ho : d.own.all (fun i => decide (m.np ≤ i)) = true) : SSnd h.length A (ppcfg T D call d pu) (cfg T call') p A h (pexs (ppcfg T D call d pu) T.excs m.body (vs.map some ++ List.replicate (m.ns - m.np) none) σ) (exs (cfg T call') T.excs m.body (ws.map some ++ List.replicate (m.ns - m.np) none) h) := by
  refine pexs_ok m.body (start_tr g r hl (fun i o => ?_) rfl rfl cfg_cr) (cfg_calls k)
  simp only [ppcfg, List.contains_iff_mem] at o
  rw [List.all_eq_true] at ho
  simpa using ho i o
theorem pv_ok (T : Tab) (D : Nat → PDef) : ∀ k : Nat, CallsOk (pv T D k) (fun f => (D f).fr) (Mi.run T k) := by
  intro k
  induction k with
  | zero => intro p A f vs σ h ws g r; exact .none
  | succ k ih =>
    intro p A f vs σ h ws g r
    simp only [pv, Mi.run]
    cases hd : T.defs f with
    | none => exact .none
    | some m =>
      simp only [prun]
      split
      · rename_i hc
        rw [if_pos (by rw [← r.len]; exact hc.1)]
        exact end_snd (prun_ss ih g r hc.1 hc.2) rfl
      · exact .none
/-- a law, from its plain run -/
theorem law_ok {T : Tab} {D : Nat → PDef} {k f : Nat} {pu : Option Nat} {xs : List V} {ws : List W} {σ : PS} {b : Bool} (hs : Reps none (fun _ => False) [] xs ws) (e : pvL T D k f pu [.fl xs] = some (.ok (.bl b) σ)) : ∃ h', Mi.run T (k + 1) f [.ref 0] [.fl ws] = rt (.bl b) h' := by
  simp only [pvL] at e
  simp only [Mi.run]
  cases hd : T.defs f with
  | none => rw [hd] at e; cases e
  | some m =>
    rw [hd] at e
    simp only [prun] at e
    have st : Sty none (fun _ => False) (fun _ => False) [] [O.fl ws] := fun n o _ _ e => by simp at e
    have r : Reps none (fun _ => False) [O.fl ws] [V.fl xs] [.ref 0] := ⟨_, _, rfl, ⟨0, rfl, by simp, id, ws, rfl, hs.sty st⟩, rfl⟩
    split at e
    · rename_i hc
      dsimp only
      rw [if_pos (by simpa using hc.1)]
      have key := prun_ss (pv_ok T D k) (T := T) (d := D f) (pu := pu) (m := m) (σ := []) (p := none) (A := fun _ => False) (h := [O.fl ws]) ⟨rfl, fun _ a => a.elim, fun _ _ a => a⟩ r hc.1 hc.2
      generalize hX : pexs _ _ _ _ _ = X at e key
      cases X with
      | none => cases e
      | some x =>
        have := key _ rfl
        cases x with
        | nx ρ σ1 => cases e
        | rt v σ1 =>
          cases e
          obtain ⟨w, h', p', A', e1, st, z, r1, r2⟩ := this
          cases r1
          rw [e1]
          exact ⟨h', rfl⟩
        | ex _ _ _ _ => cases e
        | bk _ _ => cases e
        | ct _ _ => cases e
    · cases e
end Mi
set_option Elab.async false
set_option linter.all false
set_option maxRecDepth 100000
set_option maxHeartbeats 4000000
/-! Plain lemmas about the plain interpreter's loops and values. -/
namespace Mi
open PySem PySem.Spec PyProof.Rows L2
@[simp] theorem pendOf_rt (v : V) (σ : PS) : pendOf (some (.rt v σ)) = prt v σ := rfl
@[simp] theorem pendOf_nx (ρ : LV) (σ : PS) : pendOf (some (.nx ρ σ)) = prt .non σ := rfl
@[simp] theorem pendOf_ex (c : Nat) (fs : List (Nat × V)) (ρ : LV) (σ : PS) : pendOf (some (.ex c fs ρ σ)) = some (.ex c fs σ) := rfl
theorem ptru_bl (b : Bool) : truV (.bl b) = some b := rfl
theorem ptru_int (b : Int) : truV (.int b) = some (b != 0) := rfl
theorem plook_some {ρ : LV} {i : Nat} {σ : PS} {v : V} (h : ρ[i]? = some (some v)) : plook ρ i σ = prt v σ := by simp only [plook, h]
theorem isV_var (i : Nat) : isV (.var i) = some i := rfl
theorem isV_int (i : Int) : isV (.int i) = none := rfl
theorem isV_str (i : Str) : isV (.str i) = none := rfl
theorem isV_bl (i : Bool) : isV (.bl i) = none := rfl
theorem isV_non : isV .non = none := rfl
theorem isV_glb (i : Nat) : isV (.glb i) = none := rfl
theorem isV_tup (i : MEs) : isV (.tup i) = none := rfl
theorem isV_lst (i : MEs) : isV (.lst i) = none := rfl
theorem isV_bin (o : BOp) (a b : ME) : isV (.bin o a b) = none := rfl
theorem isV_neg (a : ME) : isV (.neg a) = none := rfl
theorem isV_cmp (o : COp) (a b : ME) : isV (.cmp o a b) = none := rfl
theorem isV_chn (o p : COp) (a b c : ME) : isV (.chn o p a b c) = none := rfl
theorem isV_and (a b : ME) : isV (.and a b) = none := rfl
theorem isV_or (a b : ME) : isV (.or a b) = none := rfl
theorem isV_not (a : ME) : isV (.not a) = none := rfl
theorem isV_ite (a b c : ME) : isV (.ite a b c) = none := rfl
theorem isV_idx (a b : ME) : isV (.idx a b) = none := rfl
theorem isV_slc (a : ME) (b c : MO) : isV (.slc a b c) = none := rfl
theorem isV_call (f : Nat) (a : MEs) : isV (.call f a) = none := rfl
theorem isV_blt (f : Blt) (a : MEs) : isV (.blt f a) = none := rfl
theorem isV_isi (a : ME) (t : Ty) : isV (.isi a t) = none := rfl
theorem isV_mth (m : Mth) (a : ME) (b : MEs) : isV (.mth m a b) = none := rfl
theorem isV_exf (i j : Nat) : isV (.exf i j) = none := rfl
theorem isV_comp (e : ME) (g : MG) (i : MI) (c : Option ME) (v : List Nat) : isV (.comp e g i c v) = none := rfl
theorem isV_dct (a : MPs) : isV (.dct a) = none := rfl
theorem isV_itl (a : ME) : isV (.itl a) = none := rfl
theorem tupE_var (i : Nat) : tupE (.var i) = none := rfl
theorem tupE_int (i : Int) : tupE (.int i) = none := rfl
theorem tupE_str (i : Str) : tupE (.str i) = none := rfl
theorem tupE_bl (i : Bool) : tupE (.bl i) = none := rfl
theorem tupE_non : tupE .non = none := rfl
theorem tupE_glb (i : Nat) : tupE (.glb i) = none := rfl
theorem tupE_tup (i : MEs) : tupE (.tup i) = some i := rfl
theorem tupE_lst (i : MEs) : tupE (.lst i) = none := rfl
theorem tupE_bin (o : BOp) (a b : ME) : tupE (.bin o a b) = none := rfl
theorem tupE_neg (a : ME) : tupE (.neg a) = none := rfl
theorem tupE_cmp (o : COp) (a b : ME) : tupE (.cmp o a b) = none := rfl
theorem tupE_chn (o p : COp) (a b c : ME) : tupE (.chn o p a b c) = none := rfl
theorem tupE_and (a b : ME) : tupE (.and a b) = none := rfl
theorem tupE_or (a b : ME) : tupE (.or a b) = none := rfl
theorem tupE_not (a : ME) : tupE (.not a) = none := rfl
theorem tupE_ite (a b c : ME) : tupE (.ite a b c) = none := rfl
theorem tupE_idx (a b : ME) : tupE (.idx a b) = none := rfl
theorem tupE_slc (a : ME) (b c : MO) : tupE (.slc a b c) = none := rfl
theorem tupE_call (f : Nat) (a : MEs) : tupE (.call f a) = none := rfl
theorem tupE_blt (f : Blt) (a : MEs) : tupE (.blt f a) = none := rfl
theorem tupE_isi (a : ME) (t : Ty) : tupE (.isi a t) = none := rfl
theorem tupE_mth (m : Mth) (a : ME) (b : MEs) : tupE (.mth m a b) = none := rfl
theorem tupE_exf (i j : Nat) : tupE (.exf i j) = none := rfl
theorem tupE_comp (e : ME) (g : MG) (i : MI) (c : Option ME) (v : List Nat) : tupE (.comp e g i c v) = none := rfl
theorem tupE_dct (a : MPs) : tupE (.dct a) = none := rfl
theorem tupE_itl (a : ME) : tupE (.itl a) = none := rfl
theorem pmE_call (f : Nat) (a : MEs) : pmutE (.call f a) = none := rfl
theorem pmE_app (i : Nat) (a : MEs) : pmutE (.mth .append (.var i) a) = some (.append, i, a) := rfl
theorem pmE_ext (i : Nat) (a : MEs) : pmutE (.mth .extend (.var i) a) = some (.extend, i, a) := rfl
theorem pmE_ins (i : Nat) (a : MEs) : pmutE (.mth .insert (.var i) a) = some (.insert, i, a) := rfl
theorem pmE_clr (i : Nat) (a : MEs) : pmutE (.mth .clear (.var i) a) = some (.clear, i, a) := rfl
theorem frE_lst (C : PC) (i : MEs) : frE C (.lst i) = true := rfl
theorem frE_list (C : PC) (a : MEs) : frE C (.blt .list a) = true := rfl
theorem frE_dict (C : PC) (a : MEs) : frE C (.blt .dict a) = true := rfl
theorem frE_comp (C : PC) (e : ME) (g : MG) (i : MI) (c : Option ME) (v : List Nat) : frE C (.comp e g i c v) = true := rfl
theorem frE_dct (C : PC) (a : MPs) : frE C (.dct a) = true := rfl
theorem frE_itl (C : PC) (a : ME) : frE C (.itl a) = true := rfl
theorem frE_slc (C : PC) (a : ME) (b c : MO) : frE C (.slc a b c) = true := rfl
theorem frE_add (C : PC) (a b : ME) : frE C (.bin .add a b) = true := rfl
theorem frE_spl (C : PC) (a : ME) (b : MEs) : frE C (.mth .split a b) = true := rfl
theorem frE_call (C : PC) (f : Nat) (b : MEs) : frE C (.call f b) = C.fr f := rfl
theorem frE_ite (C : PC) (a b c : ME) : frE C (.ite a b c) = (frE C b && frE C c) := by simp only [frE]
def pbodyF (C : PC) (K : Nat → Option (List Nat)) (body : MSs) (ρ : LV) (σ : PS) : Psm := pexs C K body ρ σ
def ptstF (C : PC) (c : ME) (ρ : LV) (σ : PS) : Po Bool := ptst C c ρ σ
theorem pex_for (C : PC) (K : Nat → Option (List Nat)) (tg : MG) (it : MI) (body : MSs) (ρ : LV) (σ : PS) : pex C K (.for_ tg it body) ρ σ = if C.calm = true then psE ρ (pevi C it ρ σ) fun s σ1 => if (C.pu.isNone || noPrs s) = true then pfor (ptg C tg) (pbodyF C K body) s ρ σ1 else none else none := by
  simp only [pex]
  rfl
theorem pex_whl (C : PC) (K : Nat → Option (List Nat)) (c : ME) (body : MSs) (ρ : LV) (σ : PS) : pex C K (.whl c body) ρ σ = if C.calm = true then pwhl (ptstF C c) (pbodyF C K body) C.wf ρ σ else none := by
  simp only [pex]
  rfl
/-! ### loops -/
/-- turns of a comprehension that leave the purse -/
theorem pcomp_opt {α : Type} {F : V → PS → Po (Option V)} (g : α → V) (f : α → Option V) : ∀ {l : List α} {n : Nat} {σ : PS}, n + l.length ≤ sizeLine → (∀ a ∈ l, F (g a) σ = prt (f a) σ) → pcomp F n (l.map g) σ = prt (l.filterMap f) σ
  | [], n, σ, _, _ => by simp [pcomp]
  | a :: l, n, σ, hz, h => by
    simp only [List.length_cons] at hz
    simp only [List.map_cons, pcomp, h a List.mem_cons_self, pbd_rt]
    have hl := fun b hb => h b (List.mem_cons_of_mem a hb)
    cases hf : f a with
    | none =>
      simp only [List.filterMap_cons, hf]
      exact pcomp_opt g f (by omega) hl
    | some y =>
      simp only [List.filterMap_cons, hf]
      rw [if_pos (by omega), pcomp_opt g f (n := n + 1) (by omega) hl]
      rfl
theorem pcomp_map {α : Type} {F : V → PS → Po (Option V)} (g : α → V) (f : α → V) {l : List α} {n : Nat} {σ : PS} (hz : n + l.length ≤ sizeLine) (h : ∀ a ∈ l, F (g a) σ = prt (some (f a)) σ) : pcomp F n (l.map g) σ = prt (l.map f) σ := by
  rw [pcomp_opt g (fun a => some (f a)) hz h, List.filterMap_eq_map']
theorem pcomp_all {F : V → PS → Po (Option V)} (f : V → V) {l : List V} {n : Nat} {σ : PS} (hz : n + l.length ≤ sizeLine) (h : ∀ a ∈ l, F a σ = prt (some (f a)) σ) : pcomp F n l σ = prt (l.map f) σ := by
  have := pcomp_map (F := F) id f (l := l) hz h
  rwa [List.map_id] at this
theorem pzip_map {α : Type} (g : α → V) : ∀ (cs : List α) (vs : List V), pzip (cs.map g) vs = (cs.zip vs).map fun p => .tup [g p.1, p.2]
  | [], vs => by simp [pzip]
  | c :: cs, [] => by simp [pzip]
  | c :: cs, v :: vs => by simp [pzip, pzip_map g cs vs]
theorem pcomp_flt {α : Type} {F : V → PS → Po (Option V)} (g : α → V) (p : α → Bool) {l : List α} {n : Nat} {σ : PS} (hz : n + l.length ≤ sizeLine) (h : ∀ a ∈ l, F (g a) σ = prt (if p a = true then some (g a) else none) σ) : pcomp F n (l.map g) σ = prt ((l.filter p).map g) σ := by
  rw [pcomp_opt g (fun a => if p a = true then some (g a) else none) hz h]
  congr 1
  clear h hz
  induction l with
  | nil => rfl
  | cons a l ih => by_cases hp : p a = true <;> simp [List.filterMap_cons, List.filter_cons, hp, ih]
/-- turns of a comprehension that change the purse -/
theorem pcomp_st {F : V → PS → Po (Option V)} (I : Nat → PS → Prop) (R : V → Prop) : ∀ {l : List V} {n k : Nat} {σ : PS}, n + l.length ≤ sizeLine → I k σ → (∀ a ∈ l, ∀ j σ, j < k + l.length → I j σ → ∃ y σ', F a σ = prt (some y) σ' ∧ R y ∧ I (j + 1) σ') → ∃ ys σ', pcomp F n l σ = prt ys σ' ∧ ys.length = l.length ∧ (∀ y ∈ ys, R y) ∧ I (k + l.length) σ'
  | [], n, k, σ, _, hi, _ => ⟨[], σ, rfl, rfl, (fun _ h => nomatch h), hi⟩
  | a :: l, n, k, σ, hz, hi, h => by
    simp only [List.length_cons] at hz
    obtain ⟨y, σ1, e1, r1, i1⟩ := h a List.mem_cons_self k σ (by simp) hi
    obtain ⟨ys, σ2, e2, l2, r2, i2⟩ := pcomp_st I R (n := n + 1) (k := k + 1) (by omega) i1 fun b hb j σ hj => h b (List.mem_cons_of_mem a hb) j σ (by simp; omega)
    refine ⟨y :: ys, σ2, ?_, by simp [l2], fun z hz => ?_, ?_⟩
    · simp only [pcomp, e1, pbd_rt]
      rw [if_pos (by omega), e2]; rfl
    · rcases List.mem_cons.mp hz with rfl | hz
      · exact r1
      · exact r2 z hz
    · have : k + (l.length + 1) = k + 1 + l.length := by omega
      simpa [this] using i2
/-- a loop by its invariant -/
theorem pfor_inv {t : V → LV → Option LV} {f : LV → PS → Psm} (l : List V) (P : Nat → LV → PS → Prop) (R : V → PS → Prop)
    (step : ∀ i w ρ σ, l[i]? = some w → P i ρ σ → ∃ ρ1, t w ρ = some ρ1 ∧ ((∃ ρ2 σ2, (f ρ1 σ = some (.nx ρ2 σ2) ∨ f ρ1 σ = some (.ct ρ2 σ2)) ∧ P (i + 1) ρ2 σ2) ∨ ∃ v σ2, f ρ1 σ = some (.rt v σ2) ∧ R v σ2)) :
    ∀ (xs : List V) (i : Nat) (ρ : LV) (σ : PS), xs = l.drop i → i ≤ l.length → P i ρ σ → (∃ ρ' σ', pfor t f xs ρ σ = some (.nx ρ' σ') ∧ P l.length ρ' σ') ∨ ∃ v σ', pfor t f xs ρ σ = some (.rt v σ') ∧ R v σ' := by
  intro xs
  induction xs with
  | nil =>
    intro i ρ σ hx hi p
    refine .inl ⟨ρ, σ, rfl, ?_⟩
    have h1 := congrArg List.length hx
    simp at h1
    have h2 : i = l.length := by omega
    rw [← h2]; exact p
  | cons a xs ih =>
    intro i ρ σ hx hi p
    have hi2 : i < l.length := by
      have := congrArg List.length hx
      simp at this; omega
    have hd : l[i]? = some a := by
      have := congrArg (·[0]?) hx
      simpa using this.symm
    have hx2 : xs = l.drop (i + 1) := by
      have := congrArg (List.drop 1) hx
      simpa using this
    obtain ⟨ρ1, e1, q⟩ := step i a ρ σ hd p
    simp only [pfor, e1]
    rcases q with ⟨ρ2, σ2, e2, q⟩ | ⟨v, σ2, e2, q⟩
    · rcases e2 with e2 | e2 <;> (simp only [e2]; exact ih (i + 1) ρ2 σ2 hx2 hi2 q)
    · simp only [e2]
      exact .inr ⟨v, σ2, rfl, q⟩
/-! ### values -/
def chrV (c : Nat) : V := .str ⟨#[c]⟩
theorem psrc_str (s : Str) : psrcV (.str s) = some (s.cps.toList.map chrV) := rfl
theorem psrc_tup (xs : List V) : psrcV (.tup xs) = some xs := rfl
theorem psrc_lst (xs : List V) : psrcV (.lst xs) = some xs := rfl
theorem pget_str {C : PC} {s : Str} {i : Int} {σ : PS} (e : s.length ≤ sizeLine) : pget C (.str s) (.int i) σ = (L2.atI s.cps.toList i).map chrV := by
  simp only [pget, e, if_true]; rfl
theorem str_len (s : Str) : s.cps.toList.length = s.length := by simp [Str.length]
theorem peq_str {C : PC} {a b : Str} : pcmpW C .eq (.str a) (.str b) = some (decide (a = b)) := by
  simp [pcmpW, eqEV]
  by_cases e : a = b <;> simp [e]
theorem pne_str {C : PC} {a b : Str} : pcmpW C .ne (.str a) (.str b) = some (!decide (a = b)) := by
  simp [pcmpW, eqEV]
  by_cases e : a = b <;> simp [e]
theorem peq_int {C : PC} {a b : Int} : pcmpW C .eq (.int a) (.int b) = some (decide (a = b)) := by
  simp [pcmpW, eqEV, eqDV, FU, datV, PyData.canLay0, PyData.eqv]
  by_cases e : a = b <;> simp [e]
theorem pne_int {C : PC} {a b : Int} : pcmpW C .ne (.int a) (.int b) = some (!decide (a = b)) := by
  simp [pcmpW, eqEV, eqDV, FU, datV, PyData.canLay0, PyData.eqv]
  by_cases e : a = b <;> simp [e]
theorem plt_int {C : PC} {a b : Int} : pcmpW C .lt (.int a) (.int b) = some (decide (a < b)) := rfl
theorem ple_int {C : PC} {a b : Int} : pcmpW C .le (.int a) (.int b) = some (decide (a ≤ b)) := rfl
theorem pgt_int {C : PC} {a b : Int} : pcmpW C .gt (.int a) (.int b) = some (decide (b < a)) := rfl
theorem pge_int {C : PC} {a b : Int} : pcmpW C .ge (.int a) (.int b) = some (decide (b ≤ a)) := rfl
theorem ple_str {C : PC} {a b : Str} : pcmpW C .le (.str a) (.str b) = some (!decide (b.cps.toList < a.cps.toList)) := rfl
theorem pin_ {C : PC} {a b : V} : pcmpW C .inn a b = pinV C a b := rfl
theorem pnin_ {C : PC} {a b : V} : pcmpW C .nin a b = (pinV C a b).map not := rfl
theorem pin_nm {C : PC} {s : Str} {g : Nat} {kvs : List (Str × V)} (e : C.cdt g = some kvs) : pinV C (.str s) (.nm g) = some ((kvGet kvs s).isSome) := by
  simp only [pinV, e]
theorem pin_dct {C : PC} {s : Str} {kvs : List (Key × V)} : pinV C (.str s) (.dct kvs) = some ((kvGet kvs (.inr s)).isSome) := rfl
theorem pget_nm {C : PC} {s : Str} {g : Nat} {σ : PS} {kvs : List (Str × V)} (e : C.cdt g = some kvs) : pget C (.nm g) (.str s) σ = kvGet kvs s := by
  simp only [pget, e]
theorem pget_tup {C : PC} {xs : List V} {i : Int} {σ : PS} : pget C (.tup xs) (.int i) σ = atI xs i := rfl
theorem pget_lst {C : PC} {xs : List V} {i : Int} {σ : PS} : pget C (.lst xs) (.int i) σ = atI xs i := rfl
theorem pget_fl {C : PC} {xs : List V} {i : Int} {σ : PS} : pget C (.fl xs) (.int i) σ = atI xs i := rfl
theorem pget_dct {C : PC} {kvs : List (Key × V)} {s : Str} {σ : PS} : pget C (.dct kvs) (.str s) σ = kvGet kvs (.inr s) := rfl
theorem pget_prs {C : PC} {i : Int} {σ : PS} : pget C .prs (.int i) σ = (atI σ i).map .int := rfl
theorem plen_tup {C : PC} {xs : List V} : pblt C .len [.tup xs] = some (.int xs.length) := rfl
theorem plen_lst {C : PC} {xs : List V} : pblt C .len [.lst xs] = some (.int xs.length) := rfl
theorem plen_fl {C : PC} {xs : List V} : pblt C .len [.fl xs] = some (.int xs.length) := rfl
theorem plen_str {C : PC} {s : Str} (e : s.length ≤ sizeLine) : pblt C .len [.str s] = some (.int s.length) := by
  simp only [pblt, e, if_true]
theorem padd_int {a b : Int} : pbin .add (.int a) (.int b) = some (.int (a + b)) := rfl
theorem psub_int {a b : Int} : pbin .sub (.int a) (.int b) = some (.int (a - b)) := rfl
theorem padd_tup {a b : List V} (h : a.length + b.length ≤ sizeLine) : pbin .add (.tup a) (.tup b) = some (.tup (a ++ b)) := by simp only [pbin, paddV, h, if_true]
theorem padd_lst {a b : List V} (h : a.length + b.length ≤ sizeLine) : pbin .add (.lst a) (.lst b) = some (.lst (a ++ b)) := by simp only [pbin, paddV, h, if_true]
theorem padd_str {a b : Str} (h : a.length + b.length ≤ sizeLine) : pbin .add (.str a) (.str b) = some (.str (a ++ b)) := by simp only [pbin, paddV, h, if_true]
theorem peq_tup0 {C : PC} {xs : List V} : pcmpW C .eq (.tup xs) (.tup []) = some xs.isEmpty := by
  cases xs <;> simp [pcmpW, eqEV]
theorem pne_tup0 {C : PC} {xs : List V} : pcmpW C .ne (.tup xs) (.tup []) = some (!xs.isEmpty) := by
  cases xs <;> simp [pcmpW, eqEV]
theorem peq_lst0 {C : PC} {xs : List V} : pcmpW C .eq (.lst xs) (.lst []) = some xs.isEmpty := by
  cases xs <;> simp [pcmpW, eqEV]
theorem pslc_1 {xs : List V} {x : V} : pslc (.tup (x :: xs)) (some 1) none = some (.tup xs) := by
  simp only [pslc, cut_1]
theorem pmod_int {a b : Int} (hb : 0 < b) : pbin .mod (.int a) (.int b) = some (.int (a % b)) := by simp only [pbin, hb, if_true]
theorem pfdv_int {a b : Int} (hb : 0 < b) (hb2 : b < 1073741824) : pbin .fdv (.int a) (.int b) = some (.int (a / b)) := by simp only [pbin, hb, hb2, and_self, if_true]
theorem pmul_r {a b : Int} (hb : -(2 ^ 64) < b ∧ b < 2 ^ 64) : pbin .mul (.int a) (.int b) = some (.int (a * b)) := by
  simp only [pbin]; rw [if_pos (.inr hb)]
theorem pmul_l {a b : Int} (hb : -(2 ^ 64) < a ∧ a < 2 ^ 64) : pbin .mul (.int a) (.int b) = some (.int (a * b)) := by
  simp only [pbin]; rw [if_pos (.inl hb)]
theorem ppow_int {a : Int} {j : Nat} (hj : j ≤ 1000) (ha : a.natAbs < 2 ^ 64) : pbin .pow (.int a) (.int (j : Int)) = some (.int (a ^ j)) := by
  simp only [pbin]; rw [if_pos ⟨by omega, by omega, ha⟩]; simp
theorem pall_bl {C : PC} (hc : C.calm = true) {α : Type} (f : α → Bool) (l : List α) : pblt C .all [.lst (l.map fun a => .bl (f a))] = some (.bl (l.all f)) := by
  have : ∀ l : List α, pbls (l.map fun a => .bl (f a)) = some (l.map f) := fun l => by
    induction l with
    | nil => rfl
    | cons a l ih => simp only [List.map_cons, pbls, ih, Option.map_some]
  simp only [pblt, hc, if_true, plst, Option.bind_some, this, Option.map_some, List.all_map]
  rfl
theorem at3_0 {α : Type} (a b c : α) : atI [a, b, c] 0 = some a := rfl
theorem at3_1 {α : Type} (a b c : α) : atI [a, b, c] 1 = some b := rfl
theorem at3_2 {α : Type} (a b c : α) : atI [a, b, c] 2 = some c := rfl
/-- the kinds that values have -/
def tyP : V → Ty → Bool
  | .bl _, .bool => true
  | .bl _, .int => true
  | .int _, .int => true
  | .str _, .str => true
  | .tup _, .tuple => true
  | .lst _, .list => true
  | .dct _, .dict => true
  | .opl _, .list => true
  | _, _ => false
theorem one_eq (c d : Nat) : ((⟨#[c]⟩ : Str) = ⟨#[d]⟩) ↔ c = d := by simp
mutual
/-- how deep -/
def dep : V → Nat
  | .tup xs => deps xs + 1
  | .lst xs => deps xs + 1
  | .dct kvs => depk kvs + 1
  | _ => 1
def deps : List V → Nat
  | [] => 0
  | x :: xs => max (dep x) (deps xs)
def depk : List (Key × V) → Nat
  | [] => 0
  | (_, x) :: xs => max (dep x) (depk xs)
end
def okK : Key → Bool
  | .inl i => okI i
  | .inr s => decide (s.length ≤ 40) && s.cps.toList.all fun c => decide (c < 1000)
mutual
/-- good data: whole numbers of a size, texts that are short -/
def gv : V → Bool
  | .int i => okI i
  | .str s => decide (s.length ≤ 40) && s.cps.toList.all fun c => decide (c < 1000)
  | .tup xs => gvs xs
  | .lst xs => gvs xs
  | .dct kvs => gvk kvs
  | .fl _ => false | .nm _ => false | .prs => false | .opl _ => false
  | _ => true
def gvs : List V → Bool
  | [] => true
  | x :: xs => gv x && gvs xs
def gvk : List (Key × V) → Bool
  | [] => true
  | (k, x) :: xs => okK k && gv x && gvk xs
end
theorem deps_mem : ∀ {xs : List V} {x : V}, x ∈ xs → dep x ≤ deps xs
  | y :: ys, x, h => by
    simp only [deps]
    rcases List.mem_cons.mp h with rfl | h
    · omega
    · have := deps_mem h; omega
theorem gvs_mem : ∀ {xs : List V}, gvs xs = true → ∀ x ∈ xs, gv x = true
  | y :: ys, h, x, hx => by
    simp only [gvs, Bool.and_eq_true] at h
    rcases List.mem_cons.mp hx with rfl | hx
    · exact h.1
    · exact gvs_mem h.2 x hx
/-- data at its head -/
def isD : V → Bool
  | .fl _ => false | .nm _ => false | .prs => false | _ => true
theorem pisi_d {x : V} (h : isD x = true) (t : Ty) : pisi x t = some (tyP x t) := by
  cases x <;> first | (simp [isD] at h; done) | (cases t <;> rfl)
theorem gv_isD {x : V} (h : gv x = true) : isD x = true := by cases x <;> first | rfl | (simp [gv] at h; done)
theorem gv_str {x : V} (h : gv x = true) : ∀ s, x = .str s → s.length ≤ sizeLine := fun s e => by
  subst e
  simp only [gv, Bool.and_eq_true, decide_eq_true_eq] at h
  exact Nat.le_trans h.1 (by decide)
theorem ty_tup {x : V} : tyP x .tuple = true ↔ ∃ xs, x = .tup xs := by cases x <;> simp [tyP]
theorem ty_str {x : V} : tyP x .str = true ↔ ∃ xs, x = .str xs := by cases x <;> simp [tyP]
/-! ### good data in full -/
mutual
def toD : V → PyData
  | .non => .none
  | .bl b => .bool b
  | .int i => .int i
  | .str s => .str s
  | .tup xs => .tuple (toDs xs)
  | .lst xs => .list (toDs xs)
  | .dct kvs => .dict (toDk kvs)
  | _ => .none
def toDs : List V → List PyData
  | [] => []
  | x :: xs => toD x :: toDs xs
def toDk : List (Key × V) → List (PyData × PyData)
  | [] => []
  | (k, x) :: xs => (keyD k, toD x) :: toDk xs
end
theorem dat_toD : ∀ (n : Nat) (v : V), gv v = true → dep v ≤ n → datV n v = some (toD v) := by
  intro n
  induction n with
  | zero => intro v g h; cases v <;> simp [dep] at h
  | succ n ih =>
    intro v g h
    have go : ∀ xs : List V, gvs xs = true → deps xs ≤ n → xs.mapM (datV n) = some (toDs xs) := by
      intro xs
      induction xs with
      | nil => intro _ _; rfl
      | cons x xs ih2 =>
        intro g h
        simp only [gvs, Bool.and_eq_true] at g
        simp only [deps] at h
        simp only [List.mapM_cons, ih x g.1 (by omega), ih2 g.2 (by omega), toDs]; rfl
    cases v with
    | tup xs =>
      simp only [gv] at g
      simp only [dep] at h
      simp only [datV, toD, go xs g (by omega), Option.map_some]
    | lst xs =>
      simp only [gv] at g
      simp only [dep] at h
      simp only [datV, toD, go xs g (by omega), Option.map_some]
    | dct kvs =>
      simp only [gv] at g
      simp only [dep] at h
      have go2 : ∀ kvs : List (Key × V), gvk kvs = true → depk kvs ≤ n → ∃ ds, (kvs.map (·.2)).mapM (datV n) = some ds ∧ (kvs.map fun kv => keyD kv.1).zip ds = toDk kvs := by
        intro kvs
        induction kvs with
        | nil => intro _ _; exact ⟨[], rfl, rfl⟩
        | cons q kvs ih2 =>
          obtain ⟨k, x⟩ := q
          intro g h
          simp only [gvk, Bool.and_eq_true] at g
          simp only [depk] at h
          obtain ⟨ds, e1, e2⟩ := ih2 g.2 (by omega)
          refine ⟨toD x :: ds, ?_, ?_⟩
          · simp only [List.map_cons, List.mapM_cons, ih x g.1.2 (by omega), e1]; rfl
          · simp only [List.map_cons, List.zip_cons_cons, e2, toDk]
      obtain ⟨ds, e1, e2⟩ := go2 kvs g (by omega)
      simp only [datV, toD, e1, Option.map_some, e2]
    | fl _ => simp [gv] at g
    | nm _ => simp [gv] at g
    | prs => simp [gv] at g
    | opl _ => simp [gv] at g
    | _ => rfl
mutual
/-- a bound of the text -/
def wtV : V → Nat
  | .non => 4
  | .bl _ => 5
  | .int _ => 32
  | .str _ => 402
  | .tup xs => wtVs xs + 4
  | .lst xs => wtVs xs + 4
  | .dct kvs => wtVk kvs + 4
  | _ => 0
def wtVs : List V → Nat
  | [] => 0
  | x :: xs => wtV x + 2 + wtVs xs
def wtVk : List (Key × V) → Nat
  | [] => 0
  | (_, x) :: xs => 402 + wtV x + 4 + wtVk xs
end
theorem int_show {i : Int} (h : okI i = true) : (PyData.int i).showable = true ∧ (PyData.int i).shown.length ≤ 32 := by
  have o : okD (.int i) = true := h
  exact ⟨okD_show _ o, shown_le _ o⟩
theorem str_show {s : Str} (h : (decide (s.length ≤ 40) && s.cps.toList.all fun c => decide (c < 1000)) = true) : (PyData.str s).showable = true ∧ (PyData.str s).shown.length ≤ 402 := by
  have o : okD (.str s) = true := by
    simp only [Bool.and_eq_true, decide_eq_true_eq, List.all_eq_true] at h
    simp only [okD, Bool.and_eq_true, decide_eq_true_eq, List.all_eq_true]
    exact ⟨h.1, fun c hc => Nat.lt_of_lt_of_le (h.2 c hc) (by decide)⟩
  exact ⟨okD_show _ o, shown_le _ o⟩
mutual
theorem toD_show : ∀ v : V, gv v = true → (toD v).showable = true ∧ (toD v).shown.length ≤ wtV v
  | .non, _ => by simp only [toD, PyData.showable, PyData.shown, wtV, true_and]; decide
  | .bl b, _ => by cases b <;> (simp only [toD, PyData.showable, PyData.shown, wtV, true_and]; decide)
  | .int i, h => by simp only [gv] at h; simp only [toD, wtV]; exact int_show h
  | .str s, h => by simp only [gv] at h; simp only [toD, wtV]; exact str_show h
  | .tup xs, h => by
    simp only [gv] at h
    have := toDs_show xs h
    simp only [toD, PyData.showable, PyData.shown, wtV]
    have := tuple_le (PyData.shownAll (toDs xs))
    exact ⟨(toDs_show xs h).1, by omega⟩
  | .lst xs, h => by
    simp only [gv] at h
    have := toDs_show xs h
    simp only [toD, PyData.showable, PyData.shown, wtV]
    have := list_le (PyData.shownAll (toDs xs))
    exact ⟨(toDs_show xs h).1, by omega⟩
  | .dct kvs, h => by
    simp only [gv] at h
    have := toDk_show kvs h
    simp only [toD, PyData.showable, PyData.shown, wtV]
    have := dict_le (PyData.shownKv (toDk kvs))
    exact ⟨(toDk_show kvs h).1, by omega⟩
  | .fl _, h => by simp [gv] at h
  | .nm _, h => by simp [gv] at h
  | .prs, h => by simp [gv] at h
  | .opl _, h => by simp [gv] at h
theorem toDs_show : ∀ xs : List V, gvs xs = true → PyData.showableAll (toDs xs) = true ∧ piled (PyData.shownAll (toDs xs)) ≤ wtVs xs
  | [], _ => by simp only [toDs, PyData.showableAll, PyData.shownAll, wtVs, piled_nil, true_and]; exact Nat.le_refl _
  | x :: xs, h => by
    simp only [gvs, Bool.and_eq_true] at h
    have h1 := toD_show x h.1
    have h2 := toDs_show xs h.2
    simp only [toDs, PyData.showableAll, PyData.shownAll, wtVs, piled_cons, h1.1, h2.1, Bool.and_self, true_and]
    omega
theorem toDk_show : ∀ xs : List (Key × V), gvk xs = true → PyData.showableKv (toDk xs) = true ∧ piled (PyData.shownKv (toDk xs)) ≤ wtVk xs
  | [], _ => by simp only [toDk, PyData.showableKv, PyData.shownKv, wtVk, piled_nil, true_and]; exact Nat.le_refl _
  | (k, x) :: xs, h => by
    simp only [gvk, Bool.and_eq_true] at h
    have h1 := toD_show x h.1.2
    have h2 := toDk_show xs h.2
    have h3 : (keyD k).showable = true ∧ (keyD k).shown.length ≤ 402 := by
      cases k with
      | inl i => have := int_show h.1.1; exact ⟨this.1, Nat.le_trans this.2 (by decide)⟩
      | inr s => exact str_show h.1.1
    simp only [toDk, PyData.showableKv, PyData.shownKv, wtVk, piled_cons, h1.1, h2.1, h3.1, Bool.and_self, true_and]
    have e1 : (": " : Str).length = 2 := rfl
    rw [strLen_append, strLen_append]
    omega
end
theorem prepr {C : PC} {v : V} (g : gv v = true) (h : dep v ≤ FU) (w : wtV v ≤ sizeLine) : pblt C .repr [v] = some (.str (toD v).shown) := by
  have := toD_show v g
  simp only [pblt, dat_toD FU v g h]
  rw [if_pos ⟨this.1, by omega⟩]
theorem wtVs_mem : ∀ {xs : List V} {x : V}, x ∈ xs → wtV x + 2 ≤ wtVs xs
  | y :: ys, x, h => by
    simp only [wtVs]
    rcases List.mem_cons.mp h with rfl | h
    · omega
    · have := wtVs_mem h; omega
theorem wtVs_len : ∀ xs : List V, 2 * xs.length ≤ wtVs xs
  | [] => Nat.le_refl _
  | x :: xs => by have := wtVs_len xs; simp only [wtVs, List.length_cons]; omega
theorem wtVs_app : ∀ a b : List V, wtVs (a ++ b) = wtVs a + wtVs b
  | [], b => by simp [wtVs]
  | x :: a, b => by simp only [List.cons_append, wtVs, wtVs_app a b]; omega
theorem deps_app : ∀ a b : List V, deps (a ++ b) = max (deps a) (deps b)
  | [], b => by simp [deps]
  | x :: a, b => by simp only [List.cons_append, deps, deps_app a b]; omega
theorem gvs_app : ∀ a b : List V, gvs (a ++ b) = (gvs a && gvs b)
  | [], b => by simp [gvs]
  | x :: a, b => by simp only [List.cons_append, gvs, gvs_app a b, Bool.and_assoc]
end Mi
set_option Elab.async false
set_option linter.all false
set_option maxRecDepth 100000
set_option maxHeartbeats 4000000
/-! Terms, names and numbers as plain values. -/
namespace Mi
open PySem PySem.Spec
def nthS : MSs → Nat → MS
  | .nil, _ => .pass
  | .cons s _, 0 => s
  | .cons _ ss, n + 1 => nthS ss n
def forB : MS → MSs
  | .for_ _ _ b => b
  | .whl _ b => b
  | .ite _ a _ => a
  | .try_ b _ => b
  | _ => .nil
def wholeV (x : V) (lo hi : Int) : Bool := match x with
  | .int i => decide (lo ≤ i) && decide (i ≤ hi)
  | _ => false
def numV (x : V) : Bool := match x with
  | .int i => decide (0 ≤ i)
  | _ => false
def inSm (c : Nat) : Bool := decide (97 ≤ c) && decide (c ≤ 122)
def KEPTV : List V := [.str "all", .str "fun", .str "same", .str "self", .str "put"]
def nameV (x : V) : Bool := match x with
  | .str s => decide (1 ≤ s.length) && decide (s.length ≤ 8) && !inFV (.str s) KEPTV && s.cps.toList.all inSm
  | _ => false
theorem small_list : ("abcdefghijklmnopqrstuvwxyz" : Str).cps.toList = [97, 98, 99, 100, 101, 102, 103, 104, 105, 106, 107, 108, 109, 110, 111, 112, 113, 114, 115, 116, 117, 118, 119, 120, 121, 122] := by decide +kernel
theorem in_small (c : Nat) : decide (c ∈ ("abcdefghijklmnopqrstuvwxyz" : Str).cps.toList) = inSm c := by
  rw [small_list]
  unfold inSm
  by_cases h1 : 97 ≤ c
  · by_cases h2 : c ≤ 122
    · have : c = 97 ∨ c = 98 ∨ c = 99 ∨ c = 100 ∨ c = 101 ∨ c = 102 ∨ c = 103 ∨ c = 104 ∨ c = 105 ∨ c = 106 ∨ c = 107 ∨ c = 108 ∨ c = 109 ∨ c = 110 ∨ c = 111 ∨ c = 112 ∨ c = 113 ∨ c = 114 ∨ c = 115 ∨ c = 116 ∨ c = 117 ∨ c = 118 ∨ c = 119 ∨ c = 120 ∨ c = 121 ∨ c = 122 := by omega
      simp [h1, h2]
      exact this
    · simp [h2]; omega
  · simp [h1]; omega
theorem pin_chr {C : PC} (c : Nat) : pinV C (chrV c) (.str "abcdefghijklmnopqrstuvwxyz") = some (inSm c) := by
  rw [← in_small]; rfl
theorem small_get (v : Int) (h0 : 0 ≤ v) (h1 : v < 26) : ∃ c, inSm c = true ∧ L2.atI ("abcdefghijklmnopqrstuvwxyz" : Str).cps.toList v = some c := by
  obtain ⟨j, rfl⟩ : ∃ j : Nat, v = j := ⟨v.toNat, by omega⟩
  rw [at_nat _ _ (by rw [small_list]; simp; omega), small_list]
  have hj : j < 26 := by omega
  refine ⟨97 + j, by simp [inSm]; omega, ?_⟩
  rcases j with _ | _ | _ | _ | _ | _ | _ | _ | _ | _ | _ | _ | _ | _ | _ | _ | _ | _ | _ | _ | _ | _ | _ | _ | _ | _ | j <;> first | rfl | omega
def spotV (x : V) : Bool := match x with
  | .tup xs => xs.all numV
  | _ => false
def FORMS : List (Str × V) := [("at", .str "n"), ("kind", .str "h"), ("all", .str "tt"), ("fun", .str "tt"), ("app", .str "tt"), ("name", .str "w"), ("thing", .str "w"), ("maker", .str "wn"), ("eater", .str "wh"), ("same", .str "ttt"), ("self", .str "tt"), ("put", .str "ttt")]
mutual
/-- a term -/
def isT : V → Bool
  | .tup (.str s :: rest) => match kvGet FORMS s with
    | some (.str f) => isTs f.cps.toList rest
    | _ => false
  | _ => false
def isTs : List Nat → List V → Bool
  | [], [] => true
  | c :: cs, v :: vs => (if c = 110 then numV v else if c = 104 then wholeV v 0 5 else if c = 119 then nameV v else isT v) && isTs cs vs
  | _, _ => false
end
def fmT (c : Nat) (v : V) : Bool := if c = 110 then numV v else if c = 104 then wholeV v 0 5 else if c = 119 then nameV v else isT v
theorem isTs_zip : ∀ (cs : List Nat) (vs : List V), isTs cs vs = (decide (vs.length = cs.length) && (cs.zip vs).all fun p => fmT p.1 p.2)
  | [], [] => rfl
  | [], v :: vs => by simp [isTs]
  | c :: cs, [] => by simp [isTs]
  | c :: cs, v :: vs => by
    simp only [isTs, isTs_zip cs vs, List.zip_cons_cons, List.all_cons, fmT, List.length_cons]
    by_cases h : vs.length = cs.length <;> simp [h]
theorem lit_n : ("n" : Str) = ⟨#[110]⟩ := by decide +kernel
theorem lit_h : ("h" : Str) = ⟨#[104]⟩ := by decide +kernel
theorem lit_w : ("w" : Str) = ⟨#[119]⟩ := by decide +kernel
theorem lit_t : ("t" : Str) = ⟨#[116]⟩ := by decide +kernel
theorem lit_a : ("a" : Str).cps.toList = [97] := by decide +kernel
theorem lit_z : ("z" : Str).cps.toList = [122] := by decide +kernel
theorem forms_str {s : Str} {v : V} (e : kvGet FORMS s = some v) : ∃ f : Str, v = .str f ∧ f.length ≤ 3 ∧ ∀ c ∈ f.cps.toList, c = 110 ∨ c = 104 ∨ c = 119 ∨ c = 116 := by
  have m := kv_mem e
  simp only [FORMS, List.mem_cons, Prod.mk.injEq, List.not_mem_nil, or_false] at m
  rcases m with ⟨_, rfl⟩ | ⟨_, rfl⟩ | ⟨_, rfl⟩ | ⟨_, rfl⟩ | ⟨_, rfl⟩ | ⟨_, rfl⟩ | ⟨_, rfl⟩ | ⟨_, rfl⟩ | ⟨_, rfl⟩ | ⟨_, rfl⟩ | ⟨_, rfl⟩ | ⟨_, rfl⟩ <;> exact ⟨_, rfl, by decide, by decide +kernel⟩
theorem num_whole {v : V} (g : gv v = true) : wholeV v 0 (10 ^ 31) = numV v := by
  cases v with
  | int i =>
    simp only [gv, okI, Bool.and_eq_true, decide_eq_true_eq] at g
    have : decide (i ≤ 10 ^ 31) = true := by simp; omega
    simp only [wholeV, numV, this, Bool.and_true]
  | _ => rfl
/-! ### the forms' table, as the laws make it -/
def F8 : List (Str × V) := [("at", .str "n"), ("kind", .str "h"), ("all", .str "tt"), ("fun", .str "tt"), ("app", .str "tt"), ("name", .str "w"), ("thing", .str "w"), ("maker", .str "wn")]
def F4 : List (Str × V) := [("eater", .str "wh"), ("same", .str "ttt"), ("self", .str "tt"), ("put", .str "ttt")]
def kS (l : List (Str × V)) : List (L2.Key × V) := l.map fun p => (.inr p.1, p.2)
def pS (l : List (Str × V)) : List V := l.map fun p => .tup [.str p.1, p.2]
theorem m8 : pmerge [] ([(Sum.inr ("at" : Str), V.str ("n" : Str)), (Sum.inr ("kind" : Str), V.str ("h" : Str)), (Sum.inr ("all" : Str), V.str ("tt" : Str)), (Sum.inr ("fun" : Str), V.str ("tt" : Str)), (Sum.inr ("app" : Str), V.str ("tt" : Str)), (Sum.inr ("name" : Str), V.str ("w" : Str)), (Sum.inr ("thing" : Str), V.str ("w" : Str)), (Sum.inr ("maker" : Str), V.str ("wn" : Str))] : List (L2.Key × V)) = kS F8 := by kernel_rfl
theorem m4 : pmerge [] ([(Sum.inr ("eater" : Str), V.str ("wh" : Str)), (Sum.inr ("same" : Str), V.str ("ttt" : Str)), (Sum.inr ("self" : Str), V.str ("tt" : Str)), (Sum.inr ("put" : Str), V.str ("ttt" : Str))] : List (L2.Key × V)) = kS F4 := by kernel_rfl
theorem i8 (l : List (Str × V)) : ((kS l).map fun kv => V.tup [kV kv.1, kv.2]) = pS l := by
  unfold kS pS
  rw [List.map_map]
  rfl
theorem ap12 : pS F8 ++ pS F4 = pS FORMS := rfl
theorem dict12 {C : PC} (hc : C.calm = true) : pblt C .dict [.lst (pS FORMS)] = some (.dct (kS FORMS)) := by
  have e : ppairs (pS FORMS) = some (kS FORMS) := by kernel_rfl
  have e2 : pmerge [] (kS FORMS) = kS FORMS := by kernel_rfl
  simp only [pblt, hc, if_true, plst, Option.bind_some, e, Option.map_some, e2]
theorem kS_get (s : Str) : ∀ l : List (Str × V), kvGet (kS l) (.inr s) = kvGet l s
  | [] => rfl
  | (k, v) :: l => by
    have ih := kS_get s l
    unfold kS at ih ⊢
    simp only [List.map_cons, kvGet, Sum.inr.injEq, ih]
/-! ### the purse -/
/-- at most z draws done -/
def PuOk (z : Int) (σ : PS) : Prop := ∃ n m c : Int, σ = [n, m, c] ∧ 0 ≤ n ∧ 0 ≤ m ∧ m < 2147483629 ∧ 0 ≤ c ∧ c ≤ z
theorem PuOk.mono {z z' : Int} {σ : PS} (x : PuOk z σ) (h : z ≤ z') : PuOk z' σ := let ⟨n, m, c, h1, h2, h3, h4, h5, h6⟩ := x; ⟨n, m, c, h1, h2, h3, h4, h5, Int.le_trans h6 h⟩
/-! ### texts put together of letters -/
theorem joinL_one : ∀ cs : List Nat, TL.joinL [] (cs.map fun c => [c]) = cs
  | [] => rfl
  | [c] => rfl
  | c :: d :: r => by
    have ih := joinL_one (d :: r)
    simp only [List.map_cons] at ih ⊢
    show [c] ++ ([] ++ TL.joinL [] ([d] :: r.map fun c => [c])) = _
    rw [ih]; rfl
theorem join_one (cs : List Nat) : Txt.join "" (cs.map fun c => (⟨#[c]⟩ : Str)) = ⟨cs.toArray⟩ := by
  rw [TL.join_eq]
  have e := TL.tl_join "" (cs.map fun c => (⟨#[c]⟩ : Str))
  have e2 : TL.tl ("" : Str) = [] := rfl
  have e3 : (cs.map fun c => (⟨#[c]⟩ : Str)).map TL.tl = cs.map fun c => [c] := by
    rw [List.map_map]; rfl
  rw [e2, e3, joinL_one] at e
  have e4 : (Str.join "" (cs.map fun c => (⟨#[c]⟩ : Str))).cps.toList = cs := e
  generalize Str.join "" (cs.map fun c => (⟨#[c]⟩ : Str)) = x at e4
  cases x
  simp at e4
  subst e4
  simp
theorem pstrs_one : ∀ cs : List Nat, pstrs (cs.map chrV) = some (cs.map fun c => (⟨#[c]⟩ : Str))
  | [] => rfl
  | c :: cs => by simp only [List.map_cons, pstrs, chrV, pstrs_one cs, Option.map_some]
theorem sum_one : ∀ cs : List Nat, ((cs.map fun c => (⟨#[c]⟩ : Str)).map (·.length)).sum = cs.length
  | [] => rfl
  | c :: cs => by
    simp only [List.map_cons, List.sum_cons, sum_one cs, List.length_cons]
    show 1 + _ = _
    omega
theorem pjoin_chr {cs : List Nat} (h : cs.length ≤ 1000) : pmth .join (.str "") [.lst (cs.map chrV)] = some (.str ⟨cs.toArray⟩) := by
  simp only [pmth, pseq, Option.bind_some, pstrs_one]
  rw [if_pos, join_one]
  rw [sum_one]
  have : ("" : Str).length = 0 := rfl
  rw [this]; omega
/-! ### terms -/
inductive Tm where
  | at (n : Nat) | lf (s : Str) (xs : List V) | nd (s : Str) (ts : List Tm)
mutual
def Tm.v : Tm → V
  | .at n => .tup [.str "at", .int n]
  | .lf s xs => .tup (.str s :: xs)
  | .nd s ts => .tup (.str s :: Tm.vs ts)
def Tm.vs : List Tm → List V
  | [] => []
  | t :: ts => t.v :: Tm.vs ts
end
theorem vs_map : ∀ ts : List Tm, Tm.vs ts = ts.map Tm.v
  | [] => rfl
  | t :: ts => by simp only [Tm.vs, vs_map ts, List.map_cons]
/-- how long a name is written -/
def nmOk (s : Str) : Prop := nameV (.str s) = true
def lfOk (s : Str) (xs : List V) : Prop := (s = "kind" ∧ ∃ n : Nat, n ≤ 5 ∧ xs = [.int n]) ∨ ((s = "name" ∨ s = "thing") ∧ ∃ w, nmOk w ∧ xs = [.str w]) ∨ (s = "maker" ∧ ∃ w, ∃ n : Nat, nmOk w ∧ n < 10 ^ 20 ∧ xs = [.str w, .int n]) ∨ (s = "eater" ∧ ∃ w, ∃ n : Nat, nmOk w ∧ n ≤ 5 ∧ xs = [.str w, .int n])
def ndOk (s : Str) (k : Nat) : Prop := ((s = "all" ∨ s = "fun" ∨ s = "app" ∨ s = "self") ∧ k = 2) ∨ ((s = "same" ∨ s = "put") ∧ k = 3)
mutual
def Tm.ok : Tm → Prop
  | .at n => n < 10 ^ 20
  | .lf s xs => lfOk s xs
  | .nd s ts => ndOk s ts.length ∧ Tm.oks ts
def Tm.oks : List Tm → Prop
  | [] => True
  | t :: ts => t.ok ∧ Tm.oks ts
end
theorem oks_mem : ∀ {ts : List Tm}, Tm.oks ts ↔ ∀ t ∈ ts, t.ok
  | [] => by simp [Tm.oks]
  | t :: ts => by simp [Tm.oks, oks_mem (ts := ts)]
mutual
def Tm.dp : Tm → Nat
  | .nd _ ts => Tm.dps ts + 1
  | _ => 0
def Tm.dps : List Tm → Nat
  | [] => 0
  | t :: ts => max t.dp (Tm.dps ts)
end
theorem dps_mem : ∀ {ts : List Tm} {t : Tm}, t ∈ ts → t.dp ≤ Tm.dps ts
  | t :: ts, x, h => by
    simp only [Tm.dps]
    rcases List.mem_cons.mp h with rfl | h
    · omega
    · have := dps_mem h; omega
mutual
/-- all places are below -/
def Tm.lt (b : Nat) : Tm → Prop
  | .at n => n < b
  | .lf _ _ => True
  | .nd _ ts => Tm.lts b ts
def Tm.lts (b : Nat) : List Tm → Prop
  | [] => True
  | t :: ts => t.lt b ∧ Tm.lts b ts
end
theorem lts_mem {b : Nat} : ∀ {ts : List Tm}, Tm.lts b ts ↔ ∀ t ∈ ts, t.lt b
  | [] => by simp [Tm.lts]
  | t :: ts => by simp [Tm.lts, lts_mem (ts := ts)]
mutual
/-- a bound of the text -/
def Tm.wt : Tm → Nat
  | .at _ => 800
  | .lf _ _ => 1500
  | .nd _ ts => Tm.wts ts + 420
def Tm.wts : List Tm → Nat
  | [] => 0
  | t :: ts => t.wt + 2 + Tm.wts ts
end
theorem nm_len {s : Str} (h : nmOk s) : s.length ≤ 8 := by
  simp only [nmOk, nameV, Bool.and_eq_true, decide_eq_true_eq] at h
  exact h.1.1.2
mutual
theorem Tm.isT : ∀ t : Tm, t.ok → Mi.isT t.v = true
  | .at n, _ => by
    simp only [Tm.v, Mi.isT, show kvGet FORMS "at" = some (.str "n") from rfl, isTs_zip]
    have : ("n" : Str).cps.toList = [110] := by decide +kernel
    simp [this, fmT, numV]
  | .lf s xs, h => by
    simp only [Tm.v, Mi.isT]
    have e1 : ("h" : Str).cps.toList = [104] := by decide +kernel
    have e2 : ("w" : Str).cps.toList = [119] := by decide +kernel
    have e3 : ("wn" : Str).cps.toList = [119, 110] := by decide +kernel
    have e4 : ("wh" : Str).cps.toList = [119, 104] := by decide +kernel
    rcases h with ⟨rfl, n, h1, rfl⟩ | ⟨rfl | rfl, w, h1, rfl⟩ | ⟨rfl, w, n, h1, _, rfl⟩ | ⟨rfl, w, n, h1, h2, rfl⟩
    · simp only [show kvGet FORMS "kind" = some (.str "h") from rfl, isTs_zip, e1]
      have : (n : Int) ≤ 5 := by omega
      simp [fmT, wholeV, this]
    · simp only [show kvGet FORMS "name" = some (.str "w") from rfl, isTs_zip, e2]
      have h1 : nameV (.str w) = true := h1
      simp [fmT, h1]
    · simp only [show kvGet FORMS "thing" = some (.str "w") from rfl, isTs_zip, e2]
      have h1 : nameV (.str w) = true := h1
      simp [fmT, h1]
    · simp only [show kvGet FORMS "maker" = some (.str "wn") from rfl, isTs_zip, e3]
      have h1 : nameV (.str w) = true := h1
      simp [fmT, h1, numV]
    · simp only [show kvGet FORMS "eater" = some (.str "wh") from rfl, isTs_zip, e4]
      have : (n : Int) ≤ 5 := by omega
      have h1 : nameV (.str w) = true := h1
      simp [fmT, h1, wholeV, this]
  | .nd s ts, h => by
    simp only [Tm.v, Mi.isT]
    have e1 : ("tt" : Str).cps.toList = List.replicate 2 116 := by decide +kernel
    have e2 : ("ttt" : Str).cps.toList = List.replicate 3 116 := by decide +kernel
    have key := Tm.isTs ts h.2
    rcases h.1 with ⟨rfl | rfl | rfl | rfl, hl⟩ | ⟨rfl | rfl, hl⟩
    · simp only [show kvGet FORMS "all" = some (.str "tt") from rfl, e1]; rw [← hl]; exact key
    · simp only [show kvGet FORMS "fun" = some (.str "tt") from rfl, e1]; rw [← hl]; exact key
    · simp only [show kvGet FORMS "app" = some (.str "tt") from rfl, e1]; rw [← hl]; exact key
    · simp only [show kvGet FORMS "self" = some (.str "tt") from rfl, e1]; rw [← hl]; exact key
    · simp only [show kvGet FORMS "same" = some (.str "ttt") from rfl, e2]; rw [← hl]; exact key
    · simp only [show kvGet FORMS "put" = some (.str "ttt") from rfl, e2]; rw [← hl]; exact key
theorem Tm.isTs : ∀ ts : List Tm, Tm.oks ts → Mi.isTs (List.replicate ts.length 116) (Tm.vs ts) = true
  | [], _ => rfl
  | t :: ts, h => by
    simp only [Tm.vs, List.length_cons, List.replicate_succ, Mi.isTs, Tm.isT t h.1, Tm.isTs ts h.2]
    rfl
end
theorem gv_tup {xs : List V} : gv (.tup xs) = gvs xs := by simp only [gv]
theorem nm_gv {s : Str} (h : nmOk s) : gv (.str s) = true := by
  have := nm_len h
  simp only [nmOk, nameV, Bool.and_eq_true, decide_eq_true_eq, List.all_eq_true] at h
  simp only [gv, Bool.and_eq_true, decide_eq_true_eq, List.all_eq_true]
  refine ⟨by omega, fun c hc => ?_⟩
  have := h.2 c hc
  simp only [inSm, Bool.and_eq_true, decide_eq_true_eq] at this
  omega
theorem lf_word {s : Str} {xs : List V} (h : lfOk s xs) : gv (.str s) = true := by
  rcases h with ⟨rfl, _⟩ | ⟨rfl | rfl, _⟩ | ⟨rfl, _⟩ | ⟨rfl, _⟩ <;> decide +kernel
theorem nd_word {s : Str} {k : Nat} (h : ndOk s k) : gv (.str s) = true := by
  rcases h with ⟨rfl | rfl | rfl | rfl, _⟩ | ⟨rfl | rfl, _⟩ <;> decide +kernel
theorem nat_gv {n : Nat} (h : n < 10 ^ 20) : gv (.int n) = true := by
  simp only [gv, okI, Bool.and_eq_true, decide_eq_true_eq]
  omega
mutual
theorem Tm.gv : ∀ t : Tm, t.ok → Mi.gv t.v = true
  | .at n, h => by
    have : Mi.gv (.str "at") = true := by decide +kernel
    simp only [Tm.v, gv_tup, Mi.gvs, this, nat_gv h, Bool.and_self]
  | .lf s xs, h => by
    have hw := lf_word h
    rcases h with ⟨rfl, n, h1, rfl⟩ | ⟨rfl | rfl, w, h1, rfl⟩ | ⟨rfl, w, n, h1, h2, rfl⟩ | ⟨rfl, w, n, h1, h2, rfl⟩
    · simp only [Tm.v, gv_tup, Mi.gvs, hw, nat_gv (show n < 10 ^ 20 by omega), Bool.and_self]
    · simp only [Tm.v, gv_tup, Mi.gvs, hw, nm_gv h1, Bool.and_self]
    · simp only [Tm.v, gv_tup, Mi.gvs, hw, nm_gv h1, Bool.and_self]
    · simp only [Tm.v, gv_tup, Mi.gvs, hw, nm_gv h1, nat_gv h2, Bool.and_self]
    · simp only [Tm.v, gv_tup, Mi.gvs, hw, nm_gv h1, nat_gv (show n < 10 ^ 20 by omega), Bool.and_self]
  | .nd s ts, h => by
    have hw := nd_word h.1
    simp only [Tm.v, gv_tup, Mi.gvs, hw, Tm.gvs ts h.2, Bool.and_self]
theorem Tm.gvs : ∀ ts : List Tm, Tm.oks ts → Mi.gvs (Tm.vs ts) = true
  | [], _ => rfl
  | t :: ts, h => by
    simp only [Tm.vs, Mi.gvs, Tm.gv t h.1, Tm.gvs ts h.2, Bool.and_self]
end
mutual
theorem Tm.wtV : ∀ t : Tm, t.ok → Mi.wtV t.v ≤ t.wt
  | .at n, h => by simp [Tm.v, Mi.wtV, Mi.wtVs, Tm.wt]
  | .lf s xs, h => by
    rcases h with ⟨rfl, n, h1, rfl⟩ | ⟨rfl | rfl, w, h1, rfl⟩ | ⟨rfl, w, n, h1, h2, rfl⟩ | ⟨rfl, w, n, h1, h2, rfl⟩ <;> simp [Tm.v, Mi.wtV, Mi.wtVs, Tm.wt]
  | .nd s ts, h => by
    have := Tm.wtVs ts h.2
    simp only [Tm.v, Mi.wtV, Mi.wtVs, Tm.wt]
    omega
theorem Tm.wtVs : ∀ ts : List Tm, Tm.oks ts → Mi.wtVs (Tm.vs ts) ≤ Tm.wts ts
  | [], _ => by simp [Tm.vs, Mi.wtVs, Tm.wts]
  | t :: ts, h => by
    have h1 := Tm.wtV t h.1
    have h2 := Tm.wtVs ts h.2
    simp only [Tm.vs, Mi.wtVs, Tm.wts]
    omega
end
mutual
theorem Tm.dep : ∀ t : Tm, t.ok → Mi.dep t.v ≤ t.dp + 2
  | .at n, h => by simp [Tm.v, Mi.dep, Mi.deps, Tm.dp]
  | .lf s xs, h => by
    rcases h with ⟨rfl, n, h1, rfl⟩ | ⟨rfl | rfl, w, h1, rfl⟩ | ⟨rfl, w, n, h1, h2, rfl⟩ | ⟨rfl, w, n, h1, h2, rfl⟩ <;> simp [Tm.v, Mi.dep, Mi.deps, Tm.dp]
  | .nd s ts, h => by
    have := Tm.deps ts h.2
    simp only [Tm.v, Mi.dep, Mi.deps, Tm.dp]
    omega
theorem Tm.deps : ∀ ts : List Tm, Tm.oks ts → Mi.deps (Tm.vs ts) ≤ Tm.dps ts + 2
  | [], _ => by simp [Tm.vs, Mi.deps]
  | t :: ts, h => by
    have h1 := Tm.dep t h.1
    have h2 := Tm.deps ts h.2
    simp only [Tm.vs, Mi.deps, Tm.dps]
    omega
end
mutual
theorem Tm.wt_le : ∀ t : Tm, t.ok → t.wt ≤ 1500 * 4 ^ t.dp
  | .at n, _ => by simp [Tm.wt, Tm.dp]
  | .lf s xs, _ => by simp [Tm.wt, Tm.dp]
  | .nd s ts, h => by
    have h1 := Tm.wts_le ts h.2
    have h2 : ts.length ≤ 3 := by rcases h.1 with ⟨_, e⟩ | ⟨_, e⟩ <;> omega
    have h3 : 4 ^ 0 ≤ 4 ^ Tm.dps ts := Nat.pow_le_pow_right (by decide) (Nat.zero_le _)
    have h4 : ts.length * (1500 * 4 ^ Tm.dps ts + 2) ≤ 3 * (1500 * 4 ^ Tm.dps ts + 2) := Nat.mul_le_mul_right _ h2
    simp only [Tm.wt, Tm.dp, Nat.pow_succ]
    omega
theorem Tm.wts_le : ∀ ts : List Tm, Tm.oks ts → Tm.wts ts ≤ ts.length * (1500 * 4 ^ Tm.dps ts + 2)
  | [], _ => by simp [Tm.wts]
  | t :: ts, h => by
    have h1 := Tm.wt_le t h.1
    have h2 := Tm.wts_le ts h.2
    have h3 : 4 ^ t.dp ≤ 4 ^ max t.dp (Tm.dps ts) := Nat.pow_le_pow_right (by decide) (Nat.le_max_left _ _)
    have h4 : 4 ^ Tm.dps ts ≤ 4 ^ max t.dp (Tm.dps ts) := Nat.pow_le_pow_right (by decide) (Nat.le_max_right _ _)
    have h5 : ts.length * (1500 * 4 ^ Tm.dps ts + 2) ≤ ts.length * (1500 * 4 ^ max t.dp (Tm.dps ts) + 2) := Nat.mul_le_mul_left _ (by omega)
    simp only [Tm.wts, Tm.dps, List.length_cons, Nat.add_mul, Nat.one_mul]
    omega
end
end Mi
set_option Elab.async false
set_option linter.all false
set_option maxRecDepth 100000
set_option maxHeartbeats 0
namespace K01
open PySem PySem.Spec PyProof.Rows L2 Mi
def top (i : Nat) : PySem.Stmt := PySem.Challenge.pw_kernelpapers_k01_terms_of_anything.main.body.getD i (.Pass ⟨0, 0, 0, 0⟩)
def m_is_whole : MDef := ⟨3, 3, (.cons (.ret (.and (.isi (.var 0) .int) (.and (.not (.isi (.var 0) .bool)) (.chn .le .le (.var 1) (.var 0) (.var 2))))) .nil)⟩
def m_is_number : MDef := ⟨1, 1, (.cons (.ret (.and (.isi (.var 0) .int) (.and (.not (.isi (.var 0) .bool)) (.cmp .ge (.var 0) (.int 0))))) .nil)⟩
def m_is_name : MDef := ⟨1, 2, (.cons (.ite (.or (.not (.isi (.var 0) .str)) (.or (.not (.chn .le .le (.int 1) (.blt .len (.cons (.var 0) .nil)) (.int 8))) (.cmp .inn (.var 0) (.glb 19)))) (.cons (.ret (.bl false)) .nil) .nil) (.cons (.ret (.blt .all (.cons (.comp (.cmp .inn (.var 1) (.glb 20)) (.nm 1) (.pl (.var 0)) none [1]) .nil))) .nil))⟩
def m_has_form : MDef := ⟨2, 2, (.cons (.ite (.cmp .eq (.var 0) (.str "n")) (.cons (.ret (.call 1 (.cons (.var 1) .nil))) .nil) .nil) (.cons (.ite (.cmp .eq (.var 0) (.str "h")) (.cons (.ret (.call 0 (.cons (.var 1) (.cons (.int 0) (.cons (.glb 21) .nil))))) .nil) .nil) (.cons (.ite (.cmp .eq (.var 0) (.str "w")) (.cons (.ret (.call 2 (.cons (.var 1) .nil))) .nil) .nil) (.cons (.ret (.call 4 (.cons (.var 1) .nil))) .nil))))⟩
def m_is_term : MDef := ⟨1, 4, (.cons (.ite (.or (.not (.isi (.var 0) .tuple)) (.or (.cmp .eq (.blt .len (.cons (.var 0) .nil)) (.int 0)) (.or (.not (.isi (.idx (.var 0) (.int 0)) .str)) (.cmp .nin (.idx (.var 0) (.int 0)) (.glb 22))))) (.cons (.ret (.bl false)) .nil) .nil) (.cons (.asg 1 (.idx (.glb 22) (.idx (.var 0) (.int 0)))) (.cons (.ite (.cmp .ne (.blt .len (.cons (.var 0) .nil)) (.bin .add (.blt .len (.cons (.var 1) .nil)) (.int 1))) (.cons (.ret (.bl false)) .nil) .nil) (.cons (.ret (.blt .all (.cons (.comp (.call 3 (.cons (.var 2) (.cons (.var 3) .nil))) (.tp [2, 3]) (.zip (.var 1) (.slc (.var 0) (.so (.int 1)) .no)) none [2, 3]) .nil))) .nil))))⟩
def m_is_spot : MDef := ⟨1, 2, (.cons (.ret (.and (.isi (.var 0) .tuple) (.blt .all (.cons (.comp (.call 1 (.cons (.var 1) .nil)) (.nm 1) (.pl (.var 0)) none [1]) .nil)))) .nil)⟩
def m_law_cell : MDef := ⟨2, 2, (.cons (.ite (.cmp .lt (.var 1) (.blt .len (.cons (.var 0) .nil))) (.cons (.ret (.idx (.var 0) (.var 1))) .nil) .nil) (.cons (.ret (.bin .add (.bin .mul (.int 6113) (.var 1)) (.int 19))) .nil))⟩
def m_law_purse : MDef := ⟨1, 1, (.cons (.ret (.lst (.cons (.blt .max (.cons (.int 0) (.cons (.bin .sub (.var 0) (.bin .pow (.int 10) (.int 18))) .nil))) (.cons (.bin .mod (.var 0) (.int 2147483629)) (.cons (.int 0) .nil))))) .nil)⟩
def m_law_take : MDef := ⟨2, 5, (.cons (.ite (.cmp .gt (.idx (.var 0) (.int 0)) (.int 0)) (.cons (.asg 4 (.bin .mod (.idx (.var 0) (.int 0)) (.var 1))) (.cons (.setI (.var 0) (.int 0) (.bin .fdv (.idx (.var 0) (.int 0)) (.var 1))) (.cons (.ret (.var 4)) .nil))) .nil) (.cons (.setI (.var 0) (.int 2) (.bin .add (.idx (.var 0) (.int 2)) (.int 1))) (.cons (.asg 2 (.bin .mod (.bin .pow (.bin .add (.bin .add (.idx (.var 0) (.int 1)) (.bin .mul (.int 6113) (.idx (.var 0) (.int 2)))) (.int 31)) (.int 5)) (.int 2147483647))) (.cons (.asg 3 (.bin .mod (.bin .pow (.bin .add (.bin .mul (.idx (.var 0) (.int 1)) (.idx (.var 0) (.int 2))) (.int 89753)) (.int 3)) (.int 2147483587))) (.cons (.ret (.bin .mod (.bin .fdv (.bin .add (.bin .mul (.var 2) (.int 2147483587)) (.var 3)) (.int 8)) (.var 1))) .nil)))))⟩
def m_law_forms : MDef := ⟨0, 2, (.cons (.asg 0 (.dct (.cons (.str "at") (.str "n") (.cons (.str "kind") (.str "h") (.cons (.str "all") (.str "tt") (.cons (.str "fun") (.str "tt") (.cons (.str "app") (.str "tt") (.cons (.str "name") (.str "w") (.cons (.str "thing") (.str "w") (.cons (.str "maker") (.str "wn") .nil)))))))))) (.cons (.asg 1 (.dct (.cons (.str "eater") (.str "wh") (.cons (.str "same") (.str "ttt") (.cons (.str "self") (.str "tt") (.cons (.str "put") (.str "ttt") .nil)))))) (.cons (.ret (.blt .dict (.cons (.bin .add (.itl (.var 0)) (.itl (.var 1))) .nil))) .nil)))⟩
def m_law_word : MDef := ⟨1, 4, (.cons (.asg 1 (.str "abcdefghijklmnopqrstuvwxyz")) (.cons (.asg 2 (.mth .join (.str "") (.cons (.comp (.idx (.var 1) (.call 8 (.cons (.var 0) (.cons (.int 26) .nil)))) (.nm 3) (.rg1 (.bin .add (.int 1) (.call 8 (.cons (.var 0) (.cons (.int 8) .nil))))) none [3]) .nil))) (.cons (.ret (.ite (.cmp .inn (.var 2) (.tup (.cons (.str "all") (.cons (.str "fun") (.cons (.str "same") (.cons (.str "self") (.cons (.str "put") .nil))))))) (.bin .add (.str "q") (.var 2)) (.var 2))) .nil)))⟩
def m_law_term : MDef := ⟨3, 7, (.cons (.asg 3 (.mth .split (.str "at at kind name thing maker eater all fun app app same self put") (.cons (.str " ") .nil))) (.cons (.asg 4 (.ite (.cmp .eq (.var 1) (.int 0)) (.idx (.var 3) (.call 8 (.cons (.var 0) (.cons (.int 7) .nil)))) (.idx (.var 3) (.call 8 (.cons (.var 0) (.cons (.int 14) .nil)))))) (.cons (.asg 5 (.lst (.cons (.var 4) .nil))) (.cons (.for_ (.nm 6) (.pl (.idx (.call 9 .nil) (.var 4))) (.cons (.ite (.cmp .eq (.var 6) (.str "n")) (.cons (.expr (.mth .append (.var 5) (.cons (.call 8 (.cons (.var 0) (.cons (.idx (.lst (.cons (.var 2) (.cons (.int 5) .nil))) (.blt .int (.cons (.cmp .eq (.var 4) (.str "maker")) .nil))) .nil))) .nil))) .nil) .nil) (.cons (.ite (.cmp .eq (.var 6) (.str "h")) (.cons (.expr (.mth .append (.var 5) (.cons (.call 8 (.cons (.var 0) (.cons (.int 6) .nil))) .nil))) .nil) .nil) (.cons (.ite (.cmp .eq (.var 6) (.str "w")) (.cons (.expr (.mth .append (.var 5) (.cons (.call 10 (.cons (.var 0) .nil)) .nil))) .nil) .nil) (.cons (.ite (.cmp .eq (.var 6) (.str "t")) (.cons (.expr (.mth .append (.var 5) (.cons (.call 11 (.cons (.var 0) (.cons (.bin .sub (.var 1) (.int 1)) (.cons (.var 2) .nil)))) .nil))) .nil) .nil) .nil))))) (.cons (.ret (.blt .tuple (.cons (.var 5) .nil))) .nil)))))⟩
def m_law_any : MDef := ⟨3, 6, (.cons (.ite (.cmp .gt (.call 8 (.cons (.var 0) (.cons (.int 4) .nil))) (.int 0)) (.cons (.ret (.call 11 (.cons (.var 0) (.cons (.call 8 (.cons (.var 0) (.cons (.var 1) .nil))) (.cons (.var 2) .nil))))) .nil) .nil) (.cons (.asg 3 (.call 11 (.cons (.var 0) (.cons (.call 8 (.cons (.var 0) (.cons (.int 4) .nil))) (.cons (.var 2) .nil))))) (.cons (.for_ (.nm 4) (.rg1 (.call 8 (.cons (.var 0) (.cons (.int 53) .nil)))) (.cons (.asg 5 (.lst (.cons (.tup (.cons (.str "app") (.cons (.tup (.cons (.str "kind") (.cons (.int 0) .nil))) (.cons (.var 3) .nil)))) (.cons (.tup (.cons (.str "fun") (.cons (.tup (.cons (.str "kind") (.cons (.int 1) .nil))) (.cons (.var 3) .nil)))) (.cons (.tup (.cons (.str "all") (.cons (.var 3) (.cons (.tup (.cons (.str "kind") (.cons (.int 2) .nil))) .nil)))) .nil))))) (.cons (.expr (.mth .append (.var 5) (.cons (.tup (.cons (.str "all") (.cons (.tup (.cons (.str "at") (.cons (.int 0) .nil))) (.cons (.var 3) .nil)))) .nil))) (.cons (.asg 3 (.idx (.var 5) (.call 8 (.cons (.var 0) (.cons (.int 4) .nil))))) .nil)))) (.cons (.ret (.var 3)) .nil))))⟩
def m_law_is_name : MDef := ⟨1, 2, (.cons (.ite (.or (.not (.isi (.var 0) .str)) (.or (.not (.chn .lt .lt (.int 0) (.blt .len (.cons (.var 0) .nil)) (.int 9))) (.cmp .inn (.var 0) (.mth .split (.str "all fun same self put") (.cons (.str " ") .nil))))) (.cons (.ret (.bl false)) .nil) .nil) (.cons (.ret (.cmp .eq (.comp (.var 1) (.nm 1) (.pl (.var 0)) (some (.not (.chn .le .le (.str "a") (.var 1) (.str "z")))) [1]) (.lst .nil))) .nil))⟩
def m_law_is_whole : MDef := ⟨3, 3, (.cons (.ret (.and (.isi (.var 0) .int) (.and (.not (.isi (.var 0) .bool)) (.chn .le .le (.var 1) (.var 0) (.var 2))))) .nil)⟩
def m_law_is_term : MDef := ⟨1, 4, (.cons (.ite (.or (.not (.isi (.var 0) .tuple)) (.or (.cmp .eq (.var 0) (.tup .nil)) (.or (.not (.isi (.idx (.var 0) (.int 0)) .str)) (.cmp .nin (.idx (.var 0) (.int 0)) (.call 9 .nil))))) (.cons (.ret (.bl false)) .nil) .nil) (.cons (.asg 1 (.idx (.call 9 .nil) (.idx (.var 0) (.int 0)))) (.cons (.ite (.cmp .ne (.blt .len (.cons (.var 0) .nil)) (.bin .add (.int 1) (.blt .len (.cons (.var 1) .nil)))) (.cons (.ret (.bl false)) .nil) .nil) (.cons (.for_ (.tp [2, 3]) (.zip (.var 1) (.slc (.var 0) (.so (.int 1)) .no)) (.cons (.ite (.or (.and (.cmp .eq (.var 2) (.str "n")) (.not (.call 14 (.cons (.var 3) (.cons (.int 0) (.cons (.bin .pow (.int 10) (.int 31)) .nil)))))) (.and (.cmp .eq (.var 2) (.str "h")) (.not (.call 14 (.cons (.var 3) (.cons (.int 0) (.cons (.int 5) .nil))))))) (.cons (.ret (.bl false)) .nil) .nil) (.cons (.ite (.or (.and (.cmp .eq (.var 2) (.str "w")) (.not (.call 13 (.cons (.var 3) .nil)))) (.and (.cmp .eq (.var 2) (.str "t")) (.not (.call 15 (.cons (.var 3) .nil))))) (.cons (.ret (.bl false)) .nil) .nil) .nil))) (.cons (.ret (.bl true)) .nil)))))⟩
def m_law_spoilt : MDef := ⟨2, 5, (.cons (.ite (.and (.isi (.var 1) .tuple) (.and (.cmp .ne (.var 1) (.tup .nil)) (.cmp .gt (.call 8 (.cons (.var 0) (.cons (.int 3) .nil))) (.int 0)))) (.cons (.asg 3 (.call 8 (.cons (.var 0) (.cons (.blt .len (.cons (.var 1) .nil)) .nil)))) (.cons (.ret (.bin .add (.bin .add (.slc (.var 1) .no (.so (.var 3))) (.tup (.cons (.call 16 (.cons (.var 0) (.cons (.idx (.var 1) (.var 3)) .nil))) .nil))) (.slc (.var 1) (.so (.bin .add (.var 3) (.int 1))) .no))) .nil)) .nil) (.cons (.ite (.isi (.var 1) .tuple) (.cons (.asg 4 (.lst (.cons (.blt .list (.cons (.var 1) .nil)) (.cons (.slc (.var 1) .no (.so (.neg (.int 1)))) (.cons (.bin .add (.var 1) (.tup (.cons (.tup (.cons (.str "kind") (.cons (.int 0) .nil))) .nil))) (.cons (.bin .add (.var 1) (.tup (.cons (.int 0) .nil))) (.cons (.tup .nil) (.cons .non (.cons (.slc (.var 1) (.so (.int 1)) .no) (.cons (.tup (.cons (.var 1) .nil)) (.cons (.str "at") .nil))))))))))) (.cons (.ret (.idx (.var 4) (.call 8 (.cons (.var 0) (.cons (.int 9) .nil))))) .nil)) .nil) (.cons (.asg 2 (.lst (.cons (.int 0) (.cons (.neg (.int 1)) (.cons (.int 5) (.cons (.int 6) (.cons (.bl true) (.cons (.bl false) (.cons .non (.cons (.int 999) (.cons (.str "") (.cons (.str "at") (.cons (.str "kind") (.cons (.str "app") (.cons (.str "put") (.cons (.str "self") (.cons (.str "names") (.cons (.str "num") (.cons (.str "Num") .nil))))))))))))))))))) (.cons (.asg 2 (.bin .add (.var 2) (.lst (.cons (.str "n1") (.cons (.str "ninechars") (.cons (.str "eightcha") (.cons (.tup (.cons (.str "at") (.cons (.int 0) .nil))) (.cons (.lst (.cons (.str "at") (.cons (.int 0) .nil))) (.cons (.dct .nil) (.cons (.str "all") (.cons (.str "fun") (.cons (.str "same") (.cons (.str "a b") (.cons (.str "eater") (.cons (.str "maker") .nil))))))))))))))) (.cons (.ret (.idx (.var 2) (.call 8 (.cons (.var 0) (.cons (.int 29) .nil))))) .nil)))))⟩
def m_law_things : MDef := ⟨1, 3, (.cons (.asg 1 (.lst (.cons (.str "a") (.cons (.str "abcdefgh") (.cons (.str "abcdefghi") (.cons (.str "") (.cons (.str "all") (.cons (.str "fun") (.cons (.str "same") (.cons (.str "self") (.cons (.str "put") (.cons (.str "alls") (.cons (.str "A") (.cons (.str "a1") (.cons (.str "a b") (.cons (.str "z") .nil)))))))))))))))) (.cons (.asg 1 (.bin .add (.var 1) (.lst (.cons (.str "a_b") (.cons (.str "_") (.cons (.str "a{") (.cons (.str "`a") .nil))))))) (.cons (.asg 2 (.lst (.cons (.idx (.var 1) (.call 8 (.cons (.var 0) (.cons (.int 18) .nil)))) (.cons (.tup .nil) (.cons (.tup (.cons (.int 0) .nil)) (.cons (.tup (.cons (.int 0) (.cons (.int 1) (.cons (.int 2) .nil)))) (.cons (.tup (.cons (.neg (.int 1)) .nil)) (.cons (.tup (.cons (.bl true) .nil)) (.cons (.lst (.cons (.int 0) .nil)) (.cons (.tup (.cons (.int 0) (.cons (.str "0") .nil))) (.cons (.tup (.cons (.bin .pow (.int 10) (.int 29)) .nil)) (.cons (.tup (.cons (.tup .nil) .nil)) (.cons .non .nil))))))))))))) (.cons (.ret (.bin .add (.var 2) (.lst (.cons (.bl true) (.cons (.int 0) (.cons (.int 5) (.cons (.neg (.int 1)) (.cons (.bin .pow (.int 10) (.int 29)) (.cons (.str "at") (.cons (.lst (.cons (.str "at") (.cons (.int 0) .nil))) (.cons (.tup (.cons (.str "at") .nil)) (.cons (.tup (.cons (.str "at") (.cons (.int 0) (.cons (.int 0) .nil)))) (.cons (.dct .nil) (.cons (.dct (.cons (.str "at") (.int 0) .nil)) .nil)))))))))))))) .nil))))⟩
def m_law : MDef := ⟨1, 14, (.cons (.for_ (.nm 1) (.rg1 (.blt .max (.cons (.int 2) (.cons (.blt .min (.cons (.int 10) (.cons (.blt .len (.cons (.var 0) .nil)) .nil))) .nil)))) (.cons (.asg 2 (.call 7 (.cons (.call 6 (.cons (.var 0) (.cons (.var 1) .nil))) .nil))) (.cons (.asg 3 (.call 12 (.cons (.var 2) (.cons (.int 5) (.cons (.int 1000) .nil))))) (.cons (.asg 4 (.call 16 (.cons (.var 2) (.cons (.var 3) .nil)))) (.cons (.par2 7 8 (.bin .sub (.call 8 (.cons (.var 2) (.cons (.int 7) .nil))) (.int 3)) (.bin .sub (.call 8 (.cons (.var 2) (.cons (.int 7) .nil))) (.int 1))) (.cons (.asg 5 (.bin .add (.call 17 (.cons (.var 2) .nil)) (.lst (.cons (.var 7) (.cons (.var 8) (.cons (.bin .sub (.var 7) (.int 1)) (.cons (.bin .add (.var 8) (.int 1)) .nil))))))) (.cons (.for_ (.nm 6) (.pl (.bin .add (.lst (.cons (.var 3) (.cons (.var 4) (.cons (.call 16 (.cons (.var 2) (.cons (.var 4) .nil))) (.cons (.call 16 (.cons (.var 2) (.cons (.var 3) .nil))) .nil))))) (.var 5))) (.cons (.asg 9 (.blt .repr (.cons (.var 6) .nil))) (.cons (.asg 10 (.and (.isi (.var 6) .tuple) (.cmp .eq (.comp (.var 13) (.nm 13) (.pl (.var 6)) (some (.not (.call 14 (.cons (.var 13) (.cons (.int 0) (.cons (.bin .pow (.int 10) (.int 31)) .nil)))))) [13]) (.lst .nil)))) (.cons (.asg 11 (.lst (.cons (.call 15 (.cons (.var 6) .nil)) (.cons (.call 13 (.cons (.var 6) .nil)) (.cons (.var 10) (.cons (.call 14 (.cons (.var 6) (.cons (.var 7) (.cons (.var 8) .nil)))) .nil)))))) (.cons (.asg 12 (.lst (.cons (.call 4 (.cons (.var 6) .nil)) (.cons (.call 2 (.cons (.var 6) .nil)) (.cons (.call 5 (.cons (.var 6) .nil)) (.cons (.call 0 (.cons (.var 6) (.cons (.var 7) (.cons (.var 8) .nil)))) .nil)))))) (.cons (.ite (.or (.cmp .ne (.blt .repr (.cons (.var 12) .nil)) (.blt .repr (.cons (.var 11) .nil))) (.cmp .ne (.blt .repr (.cons (.var 6) .nil)) (.var 9))) (.cons (.ret (.bl false)) .nil) .nil) .nil)))))) (.cons (.ite (.cmp .isn (.call 4 (.cons (.var 3) .nil)) (.bl true)) (.cons (.ret (.bl false)) .nil) .nil) .nil)))))))) (.cons (.ret (.bl true)) .nil))⟩
def d0 : DD := ⟨⟨("is_whole", none), "is_whole", "is_whole", defArgs (top 5), defBody (top 5), defScope (top 5), [], []⟩, ["thing", "low", "high"], ["thing", "low", "high"], m_is_whole⟩
def d1 : DD := ⟨⟨("is_number", none), "is_number", "is_number", defArgs (top 6), defBody (top 6), defScope (top 6), [], []⟩, ["thing"], ["thing"], m_is_number⟩
def d2 : DD := ⟨⟨("is_name", none), "is_name", "is_name", defArgs (top 7), defBody (top 7), defScope (top 7), [], []⟩, ["thing", "sign"], ["thing"], m_is_name⟩
def d3 : DD := ⟨⟨("has_form", none), "has_form", "has_form", defArgs (top 8), defBody (top 8), defScope (top 8), [], []⟩, ["letter", "thing"], ["letter", "thing"], m_has_form⟩
def d4 : DD := ⟨⟨("is_term", none), "is_term", "is_term", defArgs (top 9), defBody (top 9), defScope (top 9), [], []⟩, ["thing", "form", "letter", "part"], ["thing"], m_is_term⟩
def d5 : DD := ⟨⟨("is_spot", none), "is_spot", "is_spot", defArgs (top 10), defBody (top 10), defScope (top 10), [], []⟩, ["thing", "number"], ["thing"], m_is_spot⟩
def d6 : DD := ⟨⟨("_law_cell", none), "_law_cell", "_law_cell", defArgs (top 12), defBody (top 12), defScope (top 12), [], []⟩, ["_law_script", "_law_k"], ["_law_script", "_law_k"], m_law_cell⟩
def d7 : DD := ⟨⟨("_law_purse", none), "_law_purse", "_law_purse", defArgs (top 13), defBody (top 13), defScope (top 13), [], []⟩, ["_law_cell_here"], ["_law_cell_here"], m_law_purse⟩
def d8 : DD := ⟨⟨("_law_take", none), "_law_take", "_law_take", defArgs (top 14), defBody (top 14), defScope (top 14), [], []⟩, ["_law_purse_here", "_law_many", "_law_one", "_law_other", "_law_digit"], ["_law_purse_here", "_law_many"], m_law_take⟩
def d9 : DD := ⟨⟨("_law_forms", none), "_law_forms", "_law_forms", defArgs (top 15), defBody (top 15), defScope (top 15), [], []⟩, ["_law_forms_here", "_law_more"], [], m_law_forms⟩
def d10 : DD := ⟨⟨("_law_word", none), "_law_word", "_law_word", defArgs (top 16), defBody (top 16), defScope (top 16), [], []⟩, ["_law_purse_here", "_law_letters", "_law_word_here", "_law_k"], ["_law_purse_here"], m_law_word⟩
def d11 : DD := ⟨⟨("_law_term", none), "_law_term", "_law_term", defArgs (top 17), defBody (top 17), defScope (top 17), [], []⟩, ["_law_purse_here", "_law_depth", "_law_below", "_law_words", "_law_word_here", "_law_found", "_law_letter"], ["_law_purse_here", "_law_depth", "_law_below"], m_law_term⟩
def d12 : DD := ⟨⟨("_law_any", none), "_law_any", "_law_any", defArgs (top 18), defBody (top 18), defScope (top 18), [], []⟩, ["_law_purse_here", "_law_deep", "_law_below", "_law_found", "_law_turn", "_law_few"], ["_law_purse_here", "_law_deep", "_law_below"], m_law_any⟩
def d13 : DD := ⟨⟨("_law_is_name", none), "_law_is_name", "_law_is_name", defArgs (top 19), defBody (top 19), defScope (top 19), [], []⟩, ["_law_thing", "_law_sign"], ["_law_thing"], m_law_is_name⟩
def d14 : DD := ⟨⟨("_law_is_whole", none), "_law_is_whole", "_law_is_whole", defArgs (top 20), defBody (top 20), defScope (top 20), [], []⟩, ["_law_thing", "_law_low", "_law_high"], ["_law_thing", "_law_low", "_law_high"], m_law_is_whole⟩
def d15 : DD := ⟨⟨("_law_is_term", none), "_law_is_term", "_law_is_term", defArgs (top 21), defBody (top 21), defScope (top 21), [], []⟩, ["_law_thing", "_law_form", "_law_letter", "_law_part"], ["_law_thing"], m_law_is_term⟩
def d16 : DD := ⟨⟨("_law_spoilt", none), "_law_spoilt", "_law_spoilt", defArgs (top 22), defBody (top 22), defScope (top 22), [], []⟩, ["_law_purse_here", "_law_thing", "_law_odd", "_law_at", "_law_some"], ["_law_purse_here", "_law_thing"], m_law_spoilt⟩
def d17 : DD := ⟨⟨("_law_things", none), "_law_things", "_law_things", defArgs (top 23), defBody (top 23), defScope (top 23), [], []⟩, ["_law_purse_here", "_law_name", "_law_found"], ["_law_purse_here"], m_law_things⟩
def d18 : DD := ⟨⟨("law", none), "law", "law", defArgs (top 24), defBody (top 24), defScope (top 24), [], []⟩, ["_law_script", "_law_k", "_law_purse_here", "_law_term_here", "_law_spoilt_here", "_law_things_here", "_law_thing", "_law_low", "_law_high", "_law_shown", "_law_spot", "_law_due", "_law_told", "_law_one"], ["_law_script"], m_law⟩
def dat : Dat := ⟨[d0, d1, d2, d3, d4, d5, d6, d7, d8, d9, d10, d11, d12, d13, d14, d15, d16, d17, d18], ["is_whole", "is_number", "is_name", "has_form", "is_term", "is_spot", "_law_cell", "_law_purse", "_law_take", "_law_forms", "_law_word", "_law_term", "_law_any", "_law_is_name", "_law_is_whole", "_law_is_term", "_law_spoilt", "_law_things", "law", "KEPT", "SMALL", "MOST_KIND", "FORMS"], [], [(20, (.str "abcdefghijklmnopqrstuvwxyz")), (19, (.tup [(.str "all"), (.str "fun"), (.str "same"), (.str "self"), (.str "put")])), (21, (.int 5)), (22, .nm 22)], [(22, [("at", (.str "n")), ("kind", (.str "h")), ("all", (.str "tt")), ("fun", (.str "tt")), ("app", (.str "tt")), ("name", (.str "w")), ("thing", (.str "w")), ("maker", (.str "wn")), ("eater", (.str "wh")), ("same", (.str "ttt")), ("self", (.str "tt")), ("put", (.str "ttt"))])], [], 100000⟩
theorem b0 (K : PySem.W.Frag) (fa : Addr) (fd : FuncData) (F : FunD K d0.d.name d0.d.qual d0.d.params d0.d.body d0.d.scope (d0.d.dvs K) (d0.d.kws K) fa fd) : Binds K fd d0.ps [] :=
  FunD.bindsN F fun _ _ _ _ _ _ us hl => match us, hl with | [_, _, _], _ => rfl
theorem b1 (K : PySem.W.Frag) (fa : Addr) (fd : FuncData) (F : FunD K d1.d.name d1.d.qual d1.d.params d1.d.body d1.d.scope (d1.d.dvs K) (d1.d.kws K) fa fd) : Binds K fd d1.ps [] :=
  FunD.bindsN F fun _ _ _ _ _ _ us hl => match us, hl with | [_], _ => rfl
theorem b2 (K : PySem.W.Frag) (fa : Addr) (fd : FuncData) (F : FunD K d2.d.name d2.d.qual d2.d.params d2.d.body d2.d.scope (d2.d.dvs K) (d2.d.kws K) fa fd) : Binds K fd d2.ps [] :=
  FunD.bindsN F fun _ _ _ _ _ _ us hl => match us, hl with | [_], _ => rfl
theorem b3 (K : PySem.W.Frag) (fa : Addr) (fd : FuncData) (F : FunD K d3.d.name d3.d.qual d3.d.params d3.d.body d3.d.scope (d3.d.dvs K) (d3.d.kws K) fa fd) : Binds K fd d3.ps [] :=
  FunD.bindsN F fun _ _ _ _ _ _ us hl => match us, hl with | [_, _], _ => rfl
theorem b4 (K : PySem.W.Frag) (fa : Addr) (fd : FuncData) (F : FunD K d4.d.name d4.d.qual d4.d.params d4.d.body d4.d.scope (d4.d.dvs K) (d4.d.kws K) fa fd) : Binds K fd d4.ps [] :=
  FunD.bindsN F fun _ _ _ _ _ _ us hl => match us, hl with | [_], _ => rfl
theorem b5 (K : PySem.W.Frag) (fa : Addr) (fd : FuncData) (F : FunD K d5.d.name d5.d.qual d5.d.params d5.d.body d5.d.scope (d5.d.dvs K) (d5.d.kws K) fa fd) : Binds K fd d5.ps [] :=
  FunD.bindsN F fun _ _ _ _ _ _ us hl => match us, hl with | [_], _ => rfl
theorem b6 (K : PySem.W.Frag) (fa : Addr) (fd : FuncData) (F : FunD K d6.d.name d6.d.qual d6.d.params d6.d.body d6.d.scope (d6.d.dvs K) (d6.d.kws K) fa fd) : Binds K fd d6.ps [] :=
  FunD.bindsN F fun _ _ _ _ _ _ us hl => match us, hl with | [_, _], _ => rfl
theorem b7 (K : PySem.W.Frag) (fa : Addr) (fd : FuncData) (F : FunD K d7.d.name d7.d.qual d7.d.params d7.d.body d7.d.scope (d7.d.dvs K) (d7.d.kws K) fa fd) : Binds K fd d7.ps [] :=
  FunD.bindsN F fun _ _ _ _ _ _ us hl => match us, hl with | [_], _ => rfl
theorem b8 (K : PySem.W.Frag) (fa : Addr) (fd : FuncData) (F : FunD K d8.d.name d8.d.qual d8.d.params d8.d.body d8.d.scope (d8.d.dvs K) (d8.d.kws K) fa fd) : Binds K fd d8.ps [] :=
  FunD.bindsN F fun _ _ _ _ _ _ us hl => match us, hl with | [_, _], _ => rfl
theorem b9 (K : PySem.W.Frag) (fa : Addr) (fd : FuncData) (F : FunD K d9.d.name d9.d.qual d9.d.params d9.d.body d9.d.scope (d9.d.dvs K) (d9.d.kws K) fa fd) : Binds K fd d9.ps [] :=
  FunD.bindsN F fun _ _ _ _ _ _ us hl => match us, hl with | [], _ => rfl
theorem b10 (K : PySem.W.Frag) (fa : Addr) (fd : FuncData) (F : FunD K d10.d.name d10.d.qual d10.d.params d10.d.body d10.d.scope (d10.d.dvs K) (d10.d.kws K) fa fd) : Binds K fd d10.ps [] :=
  FunD.bindsN F fun _ _ _ _ _ _ us hl => match us, hl with | [_], _ => rfl
theorem b11 (K : PySem.W.Frag) (fa : Addr) (fd : FuncData) (F : FunD K d11.d.name d11.d.qual d11.d.params d11.d.body d11.d.scope (d11.d.dvs K) (d11.d.kws K) fa fd) : Binds K fd d11.ps [] :=
  FunD.bindsN F fun _ _ _ _ _ _ us hl => match us, hl with | [_, _, _], _ => rfl
theorem b12 (K : PySem.W.Frag) (fa : Addr) (fd : FuncData) (F : FunD K d12.d.name d12.d.qual d12.d.params d12.d.body d12.d.scope (d12.d.dvs K) (d12.d.kws K) fa fd) : Binds K fd d12.ps [] :=
  FunD.bindsN F fun _ _ _ _ _ _ us hl => match us, hl with | [_, _, _], _ => rfl
theorem b13 (K : PySem.W.Frag) (fa : Addr) (fd : FuncData) (F : FunD K d13.d.name d13.d.qual d13.d.params d13.d.body d13.d.scope (d13.d.dvs K) (d13.d.kws K) fa fd) : Binds K fd d13.ps [] :=
  FunD.bindsN F fun _ _ _ _ _ _ us hl => match us, hl with | [_], _ => rfl
theorem b14 (K : PySem.W.Frag) (fa : Addr) (fd : FuncData) (F : FunD K d14.d.name d14.d.qual d14.d.params d14.d.body d14.d.scope (d14.d.dvs K) (d14.d.kws K) fa fd) : Binds K fd d14.ps [] :=
  FunD.bindsN F fun _ _ _ _ _ _ us hl => match us, hl with | [_, _, _], _ => rfl
theorem b15 (K : PySem.W.Frag) (fa : Addr) (fd : FuncData) (F : FunD K d15.d.name d15.d.qual d15.d.params d15.d.body d15.d.scope (d15.d.dvs K) (d15.d.kws K) fa fd) : Binds K fd d15.ps [] :=
  FunD.bindsN F fun _ _ _ _ _ _ us hl => match us, hl with | [_], _ => rfl
theorem b16 (K : PySem.W.Frag) (fa : Addr) (fd : FuncData) (F : FunD K d16.d.name d16.d.qual d16.d.params d16.d.body d16.d.scope (d16.d.dvs K) (d16.d.kws K) fa fd) : Binds K fd d16.ps [] :=
  FunD.bindsN F fun _ _ _ _ _ _ us hl => match us, hl with | [_, _], _ => rfl
theorem b17 (K : PySem.W.Frag) (fa : Addr) (fd : FuncData) (F : FunD K d17.d.name d17.d.qual d17.d.params d17.d.body d17.d.scope (d17.d.dvs K) (d17.d.kws K) fa fd) : Binds K fd d17.ps [] :=
  FunD.bindsN F fun _ _ _ _ _ _ us hl => match us, hl with | [_], _ => rfl
theorem b18 (K : PySem.W.Frag) (fa : Addr) (fd : FuncData) (F : FunD K d18.d.name d18.d.qual d18.d.params d18.d.body d18.d.scope (d18.d.dvs K) (d18.d.kws K) fa fd) : Binds K fd d18.ps [] :=
  FunD.bindsN F fun _ _ _ _ _ _ us hl => match us, hl with | [_], _ => rfl
theorem binds (K : PySem.W.Frag) : ∀ q ∈ dat.dds, ∀ fa fd, FunD K q.d.name q.d.qual q.d.params q.d.body q.d.scope (q.d.dvs K) (q.d.kws K) fa fd → Binds K fd q.ps [] := by
  intro q hq
  simp only [dat, List.mem_cons, List.not_mem_nil, or_false] at hq
  rcases hq with rfl | rfl | rfl | rfl | rfl | rfl | rfl | rfl | rfl | rfl | rfl | rfl | rfl | rfl | rfl | rfl | rfl | rfl | rfl
  · exact b0 K
  · exact b1 K
  · exact b2 K
  · exact b3 K
  · exact b4 K
  · exact b5 K
  · exact b6 K
  · exact b7 K
  · exact b8 K
  · exact b9 K
  · exact b10 K
  · exact b11 K
  · exact b12 K
  · exact b13 K
  · exact b14 K
  · exact b15 K
  · exact b16 K
  · exact b17 K
  · exact b18 K
end K01
namespace K01
open PySem PySem.Spec PyProof.Rows L2 Mi
theorem dat_ok : dat.ok = true := by decide +kernel
theorem blaw (K : PySem.W.Frag) (fa : Addr) (fd : FuncData) (F : FunD K d18.d.name d18.d.qual d18.d.params d18.d.body d18.d.scope (d18.d.dvs K) (d18.d.kws K) fa fd) (s : Shared) (u : Value) : BindsTo s fd ⟨[u], []⟩ [("_law_script", u)] :=
  FunD.bindsA (ps := ["_law_script"]) F (fun _ _ _ _ _ _ us hl => match us, hl with | [_], _ => rfl) s [u] rfl
end K01
set_option Elab.async false
set_option linter.all false
set_option maxRecDepth 100000
set_option maxHeartbeats 4000000
namespace K01
open PySem PySem.Spec PyProof.Rows L2 Mi
abbrev T : Tab := dat.tab
def D : Nat → PDef
  | 7 => ⟨[], true⟩
  | 9 => ⟨[], true⟩
  | 11 => ⟨[5], false⟩
  | 12 => ⟨[5], false⟩
  | 17 => ⟨[], true⟩
  | _ => {}
abbrev Pc (k f : Nat) : PC := ppcfg T D (Mi.pv T D k) (D f) none
abbrev PL (k : Nat) : PC := ppcfg T D (Mi.pv T D k) (D 18) (some 2)
theorem pv_s (k f : Nat) (vs : List Mi.V) (σ : PS) (m : MDef) (hd : T.defs f = some m) (hl : vs.length = m.np) (ho : (D f).own.all (fun i => decide (m.np ≤ i)) = true) : Mi.pv T D (k + 1) f vs σ = pendOf (pexs (Pc k f) T.excs m.body (vs.map some ++ List.replicate (m.ns - m.np) none) σ) := by
  simp only [Mi.pv, hd, prun, hl, ho, and_self, if_true]
theorem pc_calm (k f : Nat) : (Pc k f).calm = true := rfl
theorem pc_exn (k f : Nat) : (Pc k f).exn = none := rfl
theorem pc_free (k f : Nat) (i : Nat) : pfree (Pc k f) i = true := rfl
theorem pc_wf (k f : Nat) : (Pc k f).wf = 100000 := rfl
theorem pl_calm (k : Nat) : (PL k).calm = true := rfl
theorem pl_exn (k : Nat) : (PL k).exn = none := rfl
theorem pl_free (k : Nat) (i : Nat) : pfree (PL k) i = true := rfl
theorem pl_wf (k : Nat) : (PL k).wf = 100000 := rfl
theorem pc_pu (k f : Nat) : (Pc k f).pu = none := rfl
theorem pl_pu (k : Nat) : (PL k).pu = (some 2) := rfl
theorem pc0_own (k : Nat) (i : Nat) : (Pc k 0).own i = false := rfl
theorem pc0_mf (k : Nat) : (Pc k 0).mf = false := rfl
theorem pc1_own (k : Nat) (i : Nat) : (Pc k 1).own i = false := rfl
theorem pc1_mf (k : Nat) : (Pc k 1).mf = false := rfl
theorem pc2_own (k : Nat) (i : Nat) : (Pc k 2).own i = false := rfl
theorem pc2_mf (k : Nat) : (Pc k 2).mf = false := rfl
theorem pc3_own (k : Nat) (i : Nat) : (Pc k 3).own i = false := rfl
theorem pc3_mf (k : Nat) : (Pc k 3).mf = false := rfl
theorem pc4_own (k : Nat) (i : Nat) : (Pc k 4).own i = false := rfl
theorem pc4_mf (k : Nat) : (Pc k 4).mf = false := rfl
theorem pc5_own (k : Nat) (i : Nat) : (Pc k 5).own i = false := rfl
theorem pc5_mf (k : Nat) : (Pc k 5).mf = false := rfl
theorem pc6_own (k : Nat) (i : Nat) : (Pc k 6).own i = false := rfl
theorem pc6_mf (k : Nat) : (Pc k 6).mf = false := rfl
theorem pc7_own (k : Nat) (i : Nat) : (Pc k 7).own i = false := rfl
theorem pc7_mf (k : Nat) : (Pc k 7).mf = true := rfl
theorem pc8_own (k : Nat) (i : Nat) : (Pc k 8).own i = false := rfl
theorem pc8_mf (k : Nat) : (Pc k 8).mf = false := rfl
theorem pc9_own (k : Nat) (i : Nat) : (Pc k 9).own i = false := rfl
theorem pc9_mf (k : Nat) : (Pc k 9).mf = true := rfl
theorem pc10_own (k : Nat) (i : Nat) : (Pc k 10).own i = false := rfl
theorem pc10_mf (k : Nat) : (Pc k 10).mf = false := rfl
theorem pc11_own (k : Nat) (i : Nat) : (Pc k 11).own i = ((i == 5)) := by
  show [5].contains i = _
  simp only [List.contains_cons, List.contains_nil, Bool.or_false]
theorem pc11_mf (k : Nat) : (Pc k 11).mf = false := rfl
theorem pc12_own (k : Nat) (i : Nat) : (Pc k 12).own i = ((i == 5)) := by
  show [5].contains i = _
  simp only [List.contains_cons, List.contains_nil, Bool.or_false]
theorem pc12_mf (k : Nat) : (Pc k 12).mf = false := rfl
theorem pc13_own (k : Nat) (i : Nat) : (Pc k 13).own i = false := rfl
theorem pc13_mf (k : Nat) : (Pc k 13).mf = false := rfl
theorem pc14_own (k : Nat) (i : Nat) : (Pc k 14).own i = false := rfl
theorem pc14_mf (k : Nat) : (Pc k 14).mf = false := rfl
theorem pc15_own (k : Nat) (i : Nat) : (Pc k 15).own i = false := rfl
theorem pc15_mf (k : Nat) : (Pc k 15).mf = false := rfl
theorem pc16_own (k : Nat) (i : Nat) : (Pc k 16).own i = false := rfl
theorem pc16_mf (k : Nat) : (Pc k 16).mf = false := rfl
theorem pc17_own (k : Nat) (i : Nat) : (Pc k 17).own i = false := rfl
theorem pc17_mf (k : Nat) : (Pc k 17).mf = true := rfl
theorem pc18_own (k : Nat) (i : Nat) : (Pc k 18).own i = false := rfl
theorem pc18_mf (k : Nat) : (Pc k 18).mf = false := rfl
theorem pl18_own (k : Nat) (i : Nat) : (PL k).own i = false := rfl
theorem pl18_mf (k : Nat) : (PL k).mf = false := rfl
theorem pc_has0 (k f : Nat) : (Pc k f).has 0 = true := rfl
theorem pc_call0 (k f : Nat) (vs : List Mi.V) (σ : PS) : (Pc k f).call 0 vs σ = Mi.pv T D k 0 vs σ := rfl
theorem pc_fr0 (k f : Nat) : (Pc k f).fr 0 = false := rfl
theorem pc_has1 (k f : Nat) : (Pc k f).has 1 = true := rfl
theorem pc_call1 (k f : Nat) (vs : List Mi.V) (σ : PS) : (Pc k f).call 1 vs σ = Mi.pv T D k 1 vs σ := rfl
theorem pc_fr1 (k f : Nat) : (Pc k f).fr 1 = false := rfl
theorem pc_has2 (k f : Nat) : (Pc k f).has 2 = true := rfl
theorem pc_call2 (k f : Nat) (vs : List Mi.V) (σ : PS) : (Pc k f).call 2 vs σ = Mi.pv T D k 2 vs σ := rfl
theorem pc_fr2 (k f : Nat) : (Pc k f).fr 2 = false := rfl
theorem pc_has3 (k f : Nat) : (Pc k f).has 3 = true := rfl
theorem pc_call3 (k f : Nat) (vs : List Mi.V) (σ : PS) : (Pc k f).call 3 vs σ = Mi.pv T D k 3 vs σ := rfl
theorem pc_fr3 (k f : Nat) : (Pc k f).fr 3 = false := rfl
theorem pc_has4 (k f : Nat) : (Pc k f).has 4 = true := rfl
theorem pc_call4 (k f : Nat) (vs : List Mi.V) (σ : PS) : (Pc k f).call 4 vs σ = Mi.pv T D k 4 vs σ := rfl
theorem pc_fr4 (k f : Nat) : (Pc k f).fr 4 = false := rfl
theorem pc_has5 (k f : Nat) : (Pc k f).has 5 = true := rfl
theorem pc_call5 (k f : Nat) (vs : List Mi.V) (σ : PS) : (Pc k f).call 5 vs σ = Mi.pv T D k 5 vs σ := rfl
theorem pc_fr5 (k f : Nat) : (Pc k f).fr 5 = false := rfl
theorem pc_has6 (k f : Nat) : (Pc k f).has 6 = true := rfl
theorem pc_call6 (k f : Nat) (vs : List Mi.V) (σ : PS) : (Pc k f).call 6 vs σ = Mi.pv T D k 6 vs σ := rfl
theorem pc_fr6 (k f : Nat) : (Pc k f).fr 6 = false := rfl
theorem pc_has7 (k f : Nat) : (Pc k f).has 7 = true := rfl
theorem pc_call7 (k f : Nat) (vs : List Mi.V) (σ : PS) : (Pc k f).call 7 vs σ = Mi.pv T D k 7 vs σ := rfl
theorem pc_fr7 (k f : Nat) : (Pc k f).fr 7 = true := rfl
theorem pc_has8 (k f : Nat) : (Pc k f).has 8 = true := rfl
theorem pc_call8 (k f : Nat) (vs : List Mi.V) (σ : PS) : (Pc k f).call 8 vs σ = Mi.pv T D k 8 vs σ := rfl
theorem pc_fr8 (k f : Nat) : (Pc k f).fr 8 = false := rfl
theorem pc_has9 (k f : Nat) : (Pc k f).has 9 = true := rfl
theorem pc_call9 (k f : Nat) (vs : List Mi.V) (σ : PS) : (Pc k f).call 9 vs σ = Mi.pv T D k 9 vs σ := rfl
theorem pc_fr9 (k f : Nat) : (Pc k f).fr 9 = true := rfl
theorem pc_has10 (k f : Nat) : (Pc k f).has 10 = true := rfl
theorem pc_call10 (k f : Nat) (vs : List Mi.V) (σ : PS) : (Pc k f).call 10 vs σ = Mi.pv T D k 10 vs σ := rfl
theorem pc_fr10 (k f : Nat) : (Pc k f).fr 10 = false := rfl
theorem pc_has11 (k f : Nat) : (Pc k f).has 11 = true := rfl
theorem pc_call11 (k f : Nat) (vs : List Mi.V) (σ : PS) : (Pc k f).call 11 vs σ = Mi.pv T D k 11 vs σ := rfl
theorem pc_fr11 (k f : Nat) : (Pc k f).fr 11 = false := rfl
theorem pc_has12 (k f : Nat) : (Pc k f).has 12 = true := rfl
theorem pc_call12 (k f : Nat) (vs : List Mi.V) (σ : PS) : (Pc k f).call 12 vs σ = Mi.pv T D k 12 vs σ := rfl
theorem pc_fr12 (k f : Nat) : (Pc k f).fr 12 = false := rfl
theorem pc_has13 (k f : Nat) : (Pc k f).has 13 = true := rfl
theorem pc_call13 (k f : Nat) (vs : List Mi.V) (σ : PS) : (Pc k f).call 13 vs σ = Mi.pv T D k 13 vs σ := rfl
theorem pc_fr13 (k f : Nat) : (Pc k f).fr 13 = false := rfl
theorem pc_has14 (k f : Nat) : (Pc k f).has 14 = true := rfl
theorem pc_call14 (k f : Nat) (vs : List Mi.V) (σ : PS) : (Pc k f).call 14 vs σ = Mi.pv T D k 14 vs σ := rfl
theorem pc_fr14 (k f : Nat) : (Pc k f).fr 14 = false := rfl
theorem pc_has15 (k f : Nat) : (Pc k f).has 15 = true := rfl
theorem pc_call15 (k f : Nat) (vs : List Mi.V) (σ : PS) : (Pc k f).call 15 vs σ = Mi.pv T D k 15 vs σ := rfl
theorem pc_fr15 (k f : Nat) : (Pc k f).fr 15 = false := rfl
theorem pc_has16 (k f : Nat) : (Pc k f).has 16 = true := rfl
theorem pc_call16 (k f : Nat) (vs : List Mi.V) (σ : PS) : (Pc k f).call 16 vs σ = Mi.pv T D k 16 vs σ := rfl
theorem pc_fr16 (k f : Nat) : (Pc k f).fr 16 = false := rfl
theorem pc_has17 (k f : Nat) : (Pc k f).has 17 = true := rfl
theorem pc_call17 (k f : Nat) (vs : List Mi.V) (σ : PS) : (Pc k f).call 17 vs σ = Mi.pv T D k 17 vs σ := rfl
theorem pc_fr17 (k f : Nat) : (Pc k f).fr 17 = true := rfl
theorem pc_has18 (k f : Nat) : (Pc k f).has 18 = true := rfl
theorem pc_call18 (k f : Nat) (vs : List Mi.V) (σ : PS) : (Pc k f).call 18 vs σ = Mi.pv T D k 18 vs σ := rfl
theorem pc_fr18 (k f : Nat) : (Pc k f).fr 18 = false := rfl
def N_SMALL : Mi.V := (.str "abcdefghijklmnopqrstuvwxyz")
theorem pc_glb20 (k f : Nat) : (Pc k f).glb 20 = some N_SMALL := rfl
def N_KEPT : Mi.V := (.tup [(.str "all"), (.str "fun"), (.str "same"), (.str "self"), (.str "put")])
theorem pc_glb19 (k f : Nat) : (Pc k f).glb 19 = some N_KEPT := rfl
def N_MOST_KIND : Mi.V := (.int 5)
theorem pc_glb21 (k f : Nat) : (Pc k f).glb 21 = some N_MOST_KIND := rfl
theorem pc_glb22 (k f : Nat) : (Pc k f).glb 22 = some (.nm 22) := rfl
def N_FORMS : List (Str × Mi.V) := [("at", (.str "n")), ("kind", (.str "h")), ("all", (.str "tt")), ("fun", (.str "tt")), ("app", (.str "tt")), ("name", (.str "w")), ("thing", (.str "w")), ("maker", (.str "wn")), ("eater", (.str "wh")), ("same", (.str "ttt")), ("self", (.str "tt")), ("put", (.str "ttt"))]
theorem pc_cdt22 (k f : Nat) : (Pc k f).cdt 22 = some N_FORMS := rfl
theorem pl_has0 (k : Nat) : (PL k).has 0 = true := rfl
theorem pl_call0 (k : Nat) (vs : List Mi.V) (σ : PS) : (PL k).call 0 vs σ = Mi.pv T D k 0 vs σ := rfl
theorem pl_fr0 (k : Nat) : (PL k).fr 0 = false := rfl
theorem pl_has1 (k : Nat) : (PL k).has 1 = true := rfl
theorem pl_call1 (k : Nat) (vs : List Mi.V) (σ : PS) : (PL k).call 1 vs σ = Mi.pv T D k 1 vs σ := rfl
theorem pl_fr1 (k : Nat) : (PL k).fr 1 = false := rfl
theorem pl_has2 (k : Nat) : (PL k).has 2 = true := rfl
theorem pl_call2 (k : Nat) (vs : List Mi.V) (σ : PS) : (PL k).call 2 vs σ = Mi.pv T D k 2 vs σ := rfl
theorem pl_fr2 (k : Nat) : (PL k).fr 2 = false := rfl
theorem pl_has3 (k : Nat) : (PL k).has 3 = true := rfl
theorem pl_call3 (k : Nat) (vs : List Mi.V) (σ : PS) : (PL k).call 3 vs σ = Mi.pv T D k 3 vs σ := rfl
theorem pl_fr3 (k : Nat) : (PL k).fr 3 = false := rfl
theorem pl_has4 (k : Nat) : (PL k).has 4 = true := rfl
theorem pl_call4 (k : Nat) (vs : List Mi.V) (σ : PS) : (PL k).call 4 vs σ = Mi.pv T D k 4 vs σ := rfl
theorem pl_fr4 (k : Nat) : (PL k).fr 4 = false := rfl
theorem pl_has5 (k : Nat) : (PL k).has 5 = true := rfl
theorem pl_call5 (k : Nat) (vs : List Mi.V) (σ : PS) : (PL k).call 5 vs σ = Mi.pv T D k 5 vs σ := rfl
theorem pl_fr5 (k : Nat) : (PL k).fr 5 = false := rfl
theorem pl_has6 (k : Nat) : (PL k).has 6 = true := rfl
theorem pl_call6 (k : Nat) (vs : List Mi.V) (σ : PS) : (PL k).call 6 vs σ = Mi.pv T D k 6 vs σ := rfl
theorem pl_fr6 (k : Nat) : (PL k).fr 6 = false := rfl
theorem pl_has7 (k : Nat) : (PL k).has 7 = true := rfl
theorem pl_call7 (k : Nat) (vs : List Mi.V) (σ : PS) : (PL k).call 7 vs σ = Mi.pv T D k 7 vs σ := rfl
theorem pl_fr7 (k : Nat) : (PL k).fr 7 = true := rfl
theorem pl_has8 (k : Nat) : (PL k).has 8 = true := rfl
theorem pl_call8 (k : Nat) (vs : List Mi.V) (σ : PS) : (PL k).call 8 vs σ = Mi.pv T D k 8 vs σ := rfl
theorem pl_fr8 (k : Nat) : (PL k).fr 8 = false := rfl
theorem pl_has9 (k : Nat) : (PL k).has 9 = true := rfl
theorem pl_call9 (k : Nat) (vs : List Mi.V) (σ : PS) : (PL k).call 9 vs σ = Mi.pv T D k 9 vs σ := rfl
theorem pl_fr9 (k : Nat) : (PL k).fr 9 = true := rfl
theorem pl_has10 (k : Nat) : (PL k).has 10 = true := rfl
theorem pl_call10 (k : Nat) (vs : List Mi.V) (σ : PS) : (PL k).call 10 vs σ = Mi.pv T D k 10 vs σ := rfl
theorem pl_fr10 (k : Nat) : (PL k).fr 10 = false := rfl
theorem pl_has11 (k : Nat) : (PL k).has 11 = true := rfl
theorem pl_call11 (k : Nat) (vs : List Mi.V) (σ : PS) : (PL k).call 11 vs σ = Mi.pv T D k 11 vs σ := rfl
theorem pl_fr11 (k : Nat) : (PL k).fr 11 = false := rfl
theorem pl_has12 (k : Nat) : (PL k).has 12 = true := rfl
theorem pl_call12 (k : Nat) (vs : List Mi.V) (σ : PS) : (PL k).call 12 vs σ = Mi.pv T D k 12 vs σ := rfl
theorem pl_fr12 (k : Nat) : (PL k).fr 12 = false := rfl
theorem pl_has13 (k : Nat) : (PL k).has 13 = true := rfl
theorem pl_call13 (k : Nat) (vs : List Mi.V) (σ : PS) : (PL k).call 13 vs σ = Mi.pv T D k 13 vs σ := rfl
theorem pl_fr13 (k : Nat) : (PL k).fr 13 = false := rfl
theorem pl_has14 (k : Nat) : (PL k).has 14 = true := rfl
theorem pl_call14 (k : Nat) (vs : List Mi.V) (σ : PS) : (PL k).call 14 vs σ = Mi.pv T D k 14 vs σ := rfl
theorem pl_fr14 (k : Nat) : (PL k).fr 14 = false := rfl
theorem pl_has15 (k : Nat) : (PL k).has 15 = true := rfl
theorem pl_call15 (k : Nat) (vs : List Mi.V) (σ : PS) : (PL k).call 15 vs σ = Mi.pv T D k 15 vs σ := rfl
theorem pl_fr15 (k : Nat) : (PL k).fr 15 = false := rfl
theorem pl_has16 (k : Nat) : (PL k).has 16 = true := rfl
theorem pl_call16 (k : Nat) (vs : List Mi.V) (σ : PS) : (PL k).call 16 vs σ = Mi.pv T D k 16 vs σ := rfl
theorem pl_fr16 (k : Nat) : (PL k).fr 16 = false := rfl
theorem pl_has17 (k : Nat) : (PL k).has 17 = true := rfl
theorem pl_call17 (k : Nat) (vs : List Mi.V) (σ : PS) : (PL k).call 17 vs σ = Mi.pv T D k 17 vs σ := rfl
theorem pl_fr17 (k : Nat) : (PL k).fr 17 = true := rfl
theorem pl_has18 (k : Nat) : (PL k).has 18 = true := rfl
theorem pl_call18 (k : Nat) (vs : List Mi.V) (σ : PS) : (PL k).call 18 vs σ = Mi.pv T D k 18 vs σ := rfl
theorem pl_fr18 (k : Nat) : (PL k).fr 18 = false := rfl
theorem pl_glb20 (k : Nat) : (PL k).glb 20 = some N_SMALL := rfl
theorem pl_glb19 (k : Nat) : (PL k).glb 19 = some N_KEPT := rfl
theorem pl_glb21 (k : Nat) : (PL k).glb 21 = some N_MOST_KIND := rfl
theorem pl_glb22 (k : Nat) : (PL k).glb 22 = some (.nm 22) := rfl
theorem pl_cdt22 (k : Nat) : (PL k).cdt 22 = some N_FORMS := rfl
end K01
set_option linter.all false
set_option maxRecDepth 100000
set_option maxHeartbeats 4000000
namespace K01
open PySem PySem.Spec Mi
theorem e_whole (k : Nat) (x : Mi.V) (lo hi : Int) (σ : PS) (hv : isD x = true) : Mi.pv T D (k + 1) 0 [x, .int lo, .int hi] σ = prt (.bl (wholeV x lo hi)) σ := by
  rw [pv_s k 0 _ σ m_is_whole rfl rfl rfl]
  simp only [↓pev_comp, ↓pex_for, ↓pex_whl, pexs, pex, pev, pevs, ppks, pevi, pevo, ptst, pevp, plook, psrc_str, psrc_tup, psrc_lst, List.map, List.replicate, List.cons_append, List.nil_append, Nat.sub_self, List.append_nil, Nat.reduceSub, Nat.reduceAdd, List.getElem?_cons_zero, List.getElem?_cons_succ, pbd_rt, pbd_ok, pbd_none, pup_some, pup_none, Option.map_some, Option.map_none, Option.isNone_none, Option.isNone_some, psE_rt, psE_ok, psE_none, psQ_nx, psQ_rt, psQ_bk, psQ_ct, pnoex_rt, if_true, if_false, Bool.false_eq_true, Bool.true_and, Bool.and_true, Bool.false_and, Bool.and_false, Bool.true_or, Bool.false_or, ne_eq, reduceCtorEq, not_false_eq_true, List.set_cons_zero, List.set_cons_succ, pendOf_rt, pendOf_nx, ptru_bl, ptru_int, Bool.not_true, Bool.not_false, Bool.and_self, Bool.or_false, Bool.or_true, not_true_eq_false, ptg, pwipe, pmE_call, pmE_app, pmE_ext, pmE_ins, pmE_clr, frE_lst, frE_list, frE_dict, frE_comp, frE_dct, frE_itl, frE_slc, frE_add, frE_spl, frE_call, frE_ite, isLD, List.all_cons, List.all_nil, Nat.reduceBEq, Nat.reduceEqDiff, Int.reduceEq, Int.reduceLT, Int.reduceLE, Int.reduceNeg, Int.reduceAdd, Int.reduceSub, reduceIte, decide_true, decide_false, Option.some.injEq, isV_var, isV_int, isV_str, isV_bl, isV_non, isV_glb, isV_tup, isV_lst, isV_bin, isV_neg, isV_cmp, isV_chn, isV_and, isV_or, isV_not, isV_ite, isV_idx, isV_slc, isV_call, isV_blt, isV_isi, isV_mth, isV_exf, isV_comp, isV_dct, isV_itl, tupE_var, tupE_int, tupE_str, tupE_bl, tupE_non, tupE_glb, tupE_tup, tupE_lst, tupE_bin, tupE_neg, tupE_cmp, tupE_chn, tupE_and, tupE_or, tupE_not, tupE_ite, tupE_idx, tupE_slc, tupE_call, tupE_blt, tupE_isi, tupE_mth, tupE_exf, tupE_comp, tupE_dct, tupE_itl, pc_calm, pc_exn, pc_free, pc_wf, pl_calm, pl_exn, pl_free, pl_wf, pc_pu, pl_pu, pc0_own, pc0_mf, pc1_own, pc1_mf, pc2_own, pc2_mf, pc3_own, pc3_mf, pc4_own, pc4_mf, pc5_own, pc5_mf, pc6_own, pc6_mf, pc7_own, pc7_mf, pc8_own, pc8_mf, pc9_own, pc9_mf, pc10_own, pc10_mf, pc11_own, pc11_mf, pc12_own, pc12_mf, pc13_own, pc13_mf, pc14_own, pc14_mf, pc15_own, pc15_mf, pc16_own, pc16_mf, pc17_own, pc17_mf, pc18_own, pc18_mf, pl18_own, pl18_mf, pc_has0, pc_call0, pc_fr0, pc_has1, pc_call1, pc_fr1, pc_has2, pc_call2, pc_fr2, pc_has3, pc_call3, pc_fr3, pc_has4, pc_call4, pc_fr4, pc_has5, pc_call5, pc_fr5, pc_has6, pc_call6, pc_fr6, pc_has7, pc_call7, pc_fr7, pc_has8, pc_call8, pc_fr8, pc_has9, pc_call9, pc_fr9, pc_has10, pc_call10, pc_fr10, pc_has11, pc_call11, pc_fr11, pc_has12, pc_call12, pc_fr12, pc_has13, pc_call13, pc_fr13, pc_has14, pc_call14, pc_fr14, pc_has15, pc_call15, pc_fr15, pc_has16, pc_call16, pc_fr16, pc_has17, pc_call17, pc_fr17, pc_has18, pc_call18, pc_fr18, pc_glb20, pc_glb19, pc_glb21, pc_glb22, pc_cdt22, pl_has0, pl_call0, pl_fr0, pl_has1, pl_call1, pl_fr1, pl_has2, pl_call2, pl_fr2, pl_has3, pl_call3, pl_fr3, pl_has4, pl_call4, pl_fr4, pl_has5, pl_call5, pl_fr5, pl_has6, pl_call6, pl_fr6, pl_has7, pl_call7, pl_fr7, pl_has8, pl_call8, pl_fr8, pl_has9, pl_call9, pl_fr9, pl_has10, pl_call10, pl_fr10, pl_has11, pl_call11, pl_fr11, pl_has12, pl_call12, pl_fr12, pl_has13, pl_call13, pl_fr13, pl_has14, pl_call14, pl_fr14, pl_has15, pl_call15, pl_fr15, pl_has16, pl_call16, pl_fr16, pl_has17, pl_call17, pl_fr17, pl_has18, pl_call18, pl_fr18, pl_glb20, pl_glb19, pl_glb21, pl_glb22, pl_cdt22, m_is_whole, pisi_d hv]
  cases x with
  | int i => by_cases h1 : lo ≤ i <;> simp [tyP, pcmpW, wholeV, h1]
  | _ => simp [tyP, pcmpW, wholeV]
theorem e_number (k : Nat) (x : Mi.V) (σ : PS) (hv : isD x = true) : Mi.pv T D (k + 1) 1 [x] σ = prt (.bl (numV x)) σ := by
  rw [pv_s k 1 _ σ m_is_number rfl rfl rfl]
  simp only [↓pev_comp, ↓pex_for, ↓pex_whl, pexs, pex, pev, pevs, ppks, pevi, pevo, ptst, pevp, plook, psrc_str, psrc_tup, psrc_lst, List.map, List.replicate, List.cons_append, List.nil_append, Nat.sub_self, List.append_nil, Nat.reduceSub, Nat.reduceAdd, List.getElem?_cons_zero, List.getElem?_cons_succ, pbd_rt, pbd_ok, pbd_none, pup_some, pup_none, Option.map_some, Option.map_none, Option.isNone_none, Option.isNone_some, psE_rt, psE_ok, psE_none, psQ_nx, psQ_rt, psQ_bk, psQ_ct, pnoex_rt, if_true, if_false, Bool.false_eq_true, Bool.true_and, Bool.and_true, Bool.false_and, Bool.and_false, Bool.true_or, Bool.false_or, ne_eq, reduceCtorEq, not_false_eq_true, List.set_cons_zero, List.set_cons_succ, pendOf_rt, pendOf_nx, ptru_bl, ptru_int, Bool.not_true, Bool.not_false, Bool.and_self, Bool.or_false, Bool.or_true, not_true_eq_false, ptg, pwipe, pmE_call, pmE_app, pmE_ext, pmE_ins, pmE_clr, frE_lst, frE_list, frE_dict, frE_comp, frE_dct, frE_itl, frE_slc, frE_add, frE_spl, frE_call, frE_ite, isLD, List.all_cons, List.all_nil, Nat.reduceBEq, Nat.reduceEqDiff, Int.reduceEq, Int.reduceLT, Int.reduceLE, Int.reduceNeg, Int.reduceAdd, Int.reduceSub, reduceIte, decide_true, decide_false, Option.some.injEq, isV_var, isV_int, isV_str, isV_bl, isV_non, isV_glb, isV_tup, isV_lst, isV_bin, isV_neg, isV_cmp, isV_chn, isV_and, isV_or, isV_not, isV_ite, isV_idx, isV_slc, isV_call, isV_blt, isV_isi, isV_mth, isV_exf, isV_comp, isV_dct, isV_itl, tupE_var, tupE_int, tupE_str, tupE_bl, tupE_non, tupE_glb, tupE_tup, tupE_lst, tupE_bin, tupE_neg, tupE_cmp, tupE_chn, tupE_and, tupE_or, tupE_not, tupE_ite, tupE_idx, tupE_slc, tupE_call, tupE_blt, tupE_isi, tupE_mth, tupE_exf, tupE_comp, tupE_dct, tupE_itl, pc_calm, pc_exn, pc_free, pc_wf, pl_calm, pl_exn, pl_free, pl_wf, pc_pu, pl_pu, pc0_own, pc0_mf, pc1_own, pc1_mf, pc2_own, pc2_mf, pc3_own, pc3_mf, pc4_own, pc4_mf, pc5_own, pc5_mf, pc6_own, pc6_mf, pc7_own, pc7_mf, pc8_own, pc8_mf, pc9_own, pc9_mf, pc10_own, pc10_mf, pc11_own, pc11_mf, pc12_own, pc12_mf, pc13_own, pc13_mf, pc14_own, pc14_mf, pc15_own, pc15_mf, pc16_own, pc16_mf, pc17_own, pc17_mf, pc18_own, pc18_mf, pl18_own, pl18_mf, pc_has0, pc_call0, pc_fr0, pc_has1, pc_call1, pc_fr1, pc_has2, pc_call2, pc_fr2, pc_has3, pc_call3, pc_fr3, pc_has4, pc_call4, pc_fr4, pc_has5, pc_call5, pc_fr5, pc_has6, pc_call6, pc_fr6, pc_has7, pc_call7, pc_fr7, pc_has8, pc_call8, pc_fr8, pc_has9, pc_call9, pc_fr9, pc_has10, pc_call10, pc_fr10, pc_has11, pc_call11, pc_fr11, pc_has12, pc_call12, pc_fr12, pc_has13, pc_call13, pc_fr13, pc_has14, pc_call14, pc_fr14, pc_has15, pc_call15, pc_fr15, pc_has16, pc_call16, pc_fr16, pc_has17, pc_call17, pc_fr17, pc_has18, pc_call18, pc_fr18, pc_glb20, pc_glb19, pc_glb21, pc_glb22, pc_cdt22, pl_has0, pl_call0, pl_fr0, pl_has1, pl_call1, pl_fr1, pl_has2, pl_call2, pl_fr2, pl_has3, pl_call3, pl_fr3, pl_has4, pl_call4, pl_fr4, pl_has5, pl_call5, pl_fr5, pl_has6, pl_call6, pl_fr6, pl_has7, pl_call7, pl_fr7, pl_has8, pl_call8, pl_fr8, pl_has9, pl_call9, pl_fr9, pl_has10, pl_call10, pl_fr10, pl_has11, pl_call11, pl_fr11, pl_has12, pl_call12, pl_fr12, pl_has13, pl_call13, pl_fr13, pl_has14, pl_call14, pl_fr14, pl_has15, pl_call15, pl_fr15, pl_has16, pl_call16, pl_fr16, pl_has17, pl_call17, pl_fr17, pl_has18, pl_call18, pl_fr18, pl_glb20, pl_glb19, pl_glb21, pl_glb22, pl_cdt22, m_is_number, pisi_d hv]
  cases x <;> simp [tyP, pcmpW, numV]
theorem e_name (k : Nat) (x : V) (σ : PS) (hv : isD x = true) (hl : ∀ s, x = .str s → s.length ≤ sizeLine) : Mi.pv T D (k + 1) 2 [x] σ = prt (.bl (nameV x)) σ := by
  rw [pv_s k 2 _ σ m_is_name rfl rfl rfl]
  simp only [m_is_name]
  cases x with
  | str s =>
    have hs := hl s rfl
    have e1 : pinV (Pc k 2) (.str s) N_KEPT = some (inFV (.str s) KEPTV) := rfl
    simp only [↓pev_comp, ↓pex_for, ↓pex_whl, pexs, pex, pev, pevs, ppks, pevi, pevo, ptst, pevp, plook, psrc_str, psrc_tup, psrc_lst, List.map, List.replicate, List.cons_append, List.nil_append, Nat.sub_self, List.append_nil, Nat.reduceSub, Nat.reduceAdd, List.getElem?_cons_zero, List.getElem?_cons_succ, pbd_rt, pbd_ok, pbd_none, pup_some, pup_none, Option.map_some, Option.map_none, Option.isNone_none, Option.isNone_some, psE_rt, psE_ok, psE_none, psQ_nx, psQ_rt, psQ_bk, psQ_ct, pnoex_rt, if_true, if_false, Bool.false_eq_true, Bool.true_and, Bool.and_true, Bool.false_and, Bool.and_false, Bool.true_or, Bool.false_or, ne_eq, reduceCtorEq, not_false_eq_true, List.set_cons_zero, List.set_cons_succ, pendOf_rt, pendOf_nx, ptru_bl, ptru_int, Bool.not_true, Bool.not_false, Bool.and_self, Bool.or_false, Bool.or_true, not_true_eq_false, ptg, pwipe, pmE_call, pmE_app, pmE_ext, pmE_ins, pmE_clr, frE_lst, frE_list, frE_dict, frE_comp, frE_dct, frE_itl, frE_slc, frE_add, frE_spl, frE_call, frE_ite, isLD, List.all_cons, List.all_nil, Nat.reduceBEq, Nat.reduceEqDiff, Int.reduceEq, Int.reduceLT, Int.reduceLE, Int.reduceNeg, Int.reduceAdd, Int.reduceSub, reduceIte, decide_true, decide_false, Option.some.injEq, isV_var, isV_int, isV_str, isV_bl, isV_non, isV_glb, isV_tup, isV_lst, isV_bin, isV_neg, isV_cmp, isV_chn, isV_and, isV_or, isV_not, isV_ite, isV_idx, isV_slc, isV_call, isV_blt, isV_isi, isV_mth, isV_exf, isV_comp, isV_dct, isV_itl, tupE_var, tupE_int, tupE_str, tupE_bl, tupE_non, tupE_glb, tupE_tup, tupE_lst, tupE_bin, tupE_neg, tupE_cmp, tupE_chn, tupE_and, tupE_or, tupE_not, tupE_ite, tupE_idx, tupE_slc, tupE_call, tupE_blt, tupE_isi, tupE_mth, tupE_exf, tupE_comp, tupE_dct, tupE_itl, pc_calm, pc_exn, pc_free, pc_wf, pl_calm, pl_exn, pl_free, pl_wf, pc_pu, pl_pu, pc0_own, pc0_mf, pc1_own, pc1_mf, pc2_own, pc2_mf, pc3_own, pc3_mf, pc4_own, pc4_mf, pc5_own, pc5_mf, pc6_own, pc6_mf, pc7_own, pc7_mf, pc8_own, pc8_mf, pc9_own, pc9_mf, pc10_own, pc10_mf, pc11_own, pc11_mf, pc12_own, pc12_mf, pc13_own, pc13_mf, pc14_own, pc14_mf, pc15_own, pc15_mf, pc16_own, pc16_mf, pc17_own, pc17_mf, pc18_own, pc18_mf, pl18_own, pl18_mf, pc_has0, pc_call0, pc_fr0, pc_has1, pc_call1, pc_fr1, pc_has2, pc_call2, pc_fr2, pc_has3, pc_call3, pc_fr3, pc_has4, pc_call4, pc_fr4, pc_has5, pc_call5, pc_fr5, pc_has6, pc_call6, pc_fr6, pc_has7, pc_call7, pc_fr7, pc_has8, pc_call8, pc_fr8, pc_has9, pc_call9, pc_fr9, pc_has10, pc_call10, pc_fr10, pc_has11, pc_call11, pc_fr11, pc_has12, pc_call12, pc_fr12, pc_has13, pc_call13, pc_fr13, pc_has14, pc_call14, pc_fr14, pc_has15, pc_call15, pc_fr15, pc_has16, pc_call16, pc_fr16, pc_has17, pc_call17, pc_fr17, pc_has18, pc_call18, pc_fr18, pc_glb20, pc_glb19, pc_glb21, pc_glb22, pc_cdt22, pl_has0, pl_call0, pl_fr0, pl_has1, pl_call1, pl_fr1, pl_has2, pl_call2, pl_fr2, pl_has3, pl_call3, pl_fr3, pl_has4, pl_call4, pl_fr4, pl_has5, pl_call5, pl_fr5, pl_has6, pl_call6, pl_fr6, pl_has7, pl_call7, pl_fr7, pl_has8, pl_call8, pl_fr8, pl_has9, pl_call9, pl_fr9, pl_has10, pl_call10, pl_fr10, pl_has11, pl_call11, pl_fr11, pl_has12, pl_call12, pl_fr12, pl_has13, pl_call13, pl_fr13, pl_has14, pl_call14, pl_fr14, pl_has15, pl_call15, pl_fr15, pl_has16, pl_call16, pl_fr16, pl_has17, pl_call17, pl_fr17, pl_has18, pl_call18, pl_fr18, pl_glb20, pl_glb19, pl_glb21, pl_glb22, pl_cdt22, pisi_d hv, tyP, plen_str hs, ple_int, pin_, e1, N_SMALL]
    by_cases h1 : 1 ≤ (s.length : Int)
    · by_cases h2 : (s.length : Int) ≤ 8
      · cases h3 : inFV (.str s) KEPTV with
        | true =>
          simp only [↓pev_comp, ↓pex_for, ↓pex_whl, pexs, pex, pev, pevs, ppks, pevi, pevo, ptst, pevp, plook, psrc_str, psrc_tup, psrc_lst, List.map, List.replicate, List.cons_append, List.nil_append, Nat.sub_self, List.append_nil, Nat.reduceSub, Nat.reduceAdd, List.getElem?_cons_zero, List.getElem?_cons_succ, pbd_rt, pbd_ok, pbd_none, pup_some, pup_none, Option.map_some, Option.map_none, Option.isNone_none, Option.isNone_some, psE_rt, psE_ok, psE_none, psQ_nx, psQ_rt, psQ_bk, psQ_ct, pnoex_rt, if_true, if_false, Bool.false_eq_true, Bool.true_and, Bool.and_true, Bool.false_and, Bool.and_false, Bool.true_or, Bool.false_or, ne_eq, reduceCtorEq, not_false_eq_true, List.set_cons_zero, List.set_cons_succ, pendOf_rt, pendOf_nx, ptru_bl, ptru_int, Bool.not_true, Bool.not_false, Bool.and_self, Bool.or_false, Bool.or_true, not_true_eq_false, ptg, pwipe, pmE_call, pmE_app, pmE_ext, pmE_ins, pmE_clr, frE_lst, frE_list, frE_dict, frE_comp, frE_dct, frE_itl, frE_slc, frE_add, frE_spl, frE_call, frE_ite, isLD, List.all_cons, List.all_nil, Nat.reduceBEq, Nat.reduceEqDiff, Int.reduceEq, Int.reduceLT, Int.reduceLE, Int.reduceNeg, Int.reduceAdd, Int.reduceSub, reduceIte, decide_true, decide_false, Option.some.injEq, isV_var, isV_int, isV_str, isV_bl, isV_non, isV_glb, isV_tup, isV_lst, isV_bin, isV_neg, isV_cmp, isV_chn, isV_and, isV_or, isV_not, isV_ite, isV_idx, isV_slc, isV_call, isV_blt, isV_isi, isV_mth, isV_exf, isV_comp, isV_dct, isV_itl, tupE_var, tupE_int, tupE_str, tupE_bl, tupE_non, tupE_glb, tupE_tup, tupE_lst, tupE_bin, tupE_neg, tupE_cmp, tupE_chn, tupE_and, tupE_or, tupE_not, tupE_ite, tupE_idx, tupE_slc, tupE_call, tupE_blt, tupE_isi, tupE_mth, tupE_exf, tupE_comp, tupE_dct, tupE_itl, pc_calm, pc_exn, pc_free, pc_wf, pl_calm, pl_exn, pl_free, pl_wf, pc_pu, pl_pu, pc0_own, pc0_mf, pc1_own, pc1_mf, pc2_own, pc2_mf, pc3_own, pc3_mf, pc4_own, pc4_mf, pc5_own, pc5_mf, pc6_own, pc6_mf, pc7_own, pc7_mf, pc8_own, pc8_mf, pc9_own, pc9_mf, pc10_own, pc10_mf, pc11_own, pc11_mf, pc12_own, pc12_mf, pc13_own, pc13_mf, pc14_own, pc14_mf, pc15_own, pc15_mf, pc16_own, pc16_mf, pc17_own, pc17_mf, pc18_own, pc18_mf, pl18_own, pl18_mf, pc_has0, pc_call0, pc_fr0, pc_has1, pc_call1, pc_fr1, pc_has2, pc_call2, pc_fr2, pc_has3, pc_call3, pc_fr3, pc_has4, pc_call4, pc_fr4, pc_has5, pc_call5, pc_fr5, pc_has6, pc_call6, pc_fr6, pc_has7, pc_call7, pc_fr7, pc_has8, pc_call8, pc_fr8, pc_has9, pc_call9, pc_fr9, pc_has10, pc_call10, pc_fr10, pc_has11, pc_call11, pc_fr11, pc_has12, pc_call12, pc_fr12, pc_has13, pc_call13, pc_fr13, pc_has14, pc_call14, pc_fr14, pc_has15, pc_call15, pc_fr15, pc_has16, pc_call16, pc_fr16, pc_has17, pc_call17, pc_fr17, pc_has18, pc_call18, pc_fr18, pc_glb20, pc_glb19, pc_glb21, pc_glb22, pc_cdt22, pl_has0, pl_call0, pl_fr0, pl_has1, pl_call1, pl_fr1, pl_has2, pl_call2, pl_fr2, pl_has3, pl_call3, pl_fr3, pl_has4, pl_call4, pl_fr4, pl_has5, pl_call5, pl_fr5, pl_has6, pl_call6, pl_fr6, pl_has7, pl_call7, pl_fr7, pl_has8, pl_call8, pl_fr8, pl_has9, pl_call9, pl_fr9, pl_has10, pl_call10, pl_fr10, pl_has11, pl_call11, pl_fr11, pl_has12, pl_call12, pl_fr12, pl_has13, pl_call13, pl_fr13, pl_has14, pl_call14, pl_fr14, pl_has15, pl_call15, pl_fr15, pl_has16, pl_call16, pl_fr16, pl_has17, pl_call17, pl_fr17, pl_has18, pl_call18, pl_fr18, pl_glb20, pl_glb19, pl_glb21, pl_glb22, pl_cdt22, h1, h2, decide_true]
          simp [nameV, h3]
        | false =>
          simp only [↓pev_comp, ↓pex_for, ↓pex_whl, pexs, pex, pev, pevs, ppks, pevi, pevo, ptst, pevp, plook, psrc_str, psrc_tup, psrc_lst, List.map, List.replicate, List.cons_append, List.nil_append, Nat.sub_self, List.append_nil, Nat.reduceSub, Nat.reduceAdd, List.getElem?_cons_zero, List.getElem?_cons_succ, pbd_rt, pbd_ok, pbd_none, pup_some, pup_none, Option.map_some, Option.map_none, Option.isNone_none, Option.isNone_some, psE_rt, psE_ok, psE_none, psQ_nx, psQ_rt, psQ_bk, psQ_ct, pnoex_rt, if_true, if_false, Bool.false_eq_true, Bool.true_and, Bool.and_true, Bool.false_and, Bool.and_false, Bool.true_or, Bool.false_or, ne_eq, reduceCtorEq, not_false_eq_true, List.set_cons_zero, List.set_cons_succ, pendOf_rt, pendOf_nx, ptru_bl, ptru_int, Bool.not_true, Bool.not_false, Bool.and_self, Bool.or_false, Bool.or_true, not_true_eq_false, ptg, pwipe, pmE_call, pmE_app, pmE_ext, pmE_ins, pmE_clr, frE_lst, frE_list, frE_dict, frE_comp, frE_dct, frE_itl, frE_slc, frE_add, frE_spl, frE_call, frE_ite, isLD, List.all_cons, List.all_nil, Nat.reduceBEq, Nat.reduceEqDiff, Int.reduceEq, Int.reduceLT, Int.reduceLE, Int.reduceNeg, Int.reduceAdd, Int.reduceSub, reduceIte, decide_true, decide_false, Option.some.injEq, isV_var, isV_int, isV_str, isV_bl, isV_non, isV_glb, isV_tup, isV_lst, isV_bin, isV_neg, isV_cmp, isV_chn, isV_and, isV_or, isV_not, isV_ite, isV_idx, isV_slc, isV_call, isV_blt, isV_isi, isV_mth, isV_exf, isV_comp, isV_dct, isV_itl, tupE_var, tupE_int, tupE_str, tupE_bl, tupE_non, tupE_glb, tupE_tup, tupE_lst, tupE_bin, tupE_neg, tupE_cmp, tupE_chn, tupE_and, tupE_or, tupE_not, tupE_ite, tupE_idx, tupE_slc, tupE_call, tupE_blt, tupE_isi, tupE_mth, tupE_exf, tupE_comp, tupE_dct, tupE_itl, pc_calm, pc_exn, pc_free, pc_wf, pl_calm, pl_exn, pl_free, pl_wf, pc_pu, pl_pu, pc0_own, pc0_mf, pc1_own, pc1_mf, pc2_own, pc2_mf, pc3_own, pc3_mf, pc4_own, pc4_mf, pc5_own, pc5_mf, pc6_own, pc6_mf, pc7_own, pc7_mf, pc8_own, pc8_mf, pc9_own, pc9_mf, pc10_own, pc10_mf, pc11_own, pc11_mf, pc12_own, pc12_mf, pc13_own, pc13_mf, pc14_own, pc14_mf, pc15_own, pc15_mf, pc16_own, pc16_mf, pc17_own, pc17_mf, pc18_own, pc18_mf, pl18_own, pl18_mf, pc_has0, pc_call0, pc_fr0, pc_has1, pc_call1, pc_fr1, pc_has2, pc_call2, pc_fr2, pc_has3, pc_call3, pc_fr3, pc_has4, pc_call4, pc_fr4, pc_has5, pc_call5, pc_fr5, pc_has6, pc_call6, pc_fr6, pc_has7, pc_call7, pc_fr7, pc_has8, pc_call8, pc_fr8, pc_has9, pc_call9, pc_fr9, pc_has10, pc_call10, pc_fr10, pc_has11, pc_call11, pc_fr11, pc_has12, pc_call12, pc_fr12, pc_has13, pc_call13, pc_fr13, pc_has14, pc_call14, pc_fr14, pc_has15, pc_call15, pc_fr15, pc_has16, pc_call16, pc_fr16, pc_has17, pc_call17, pc_fr17, pc_has18, pc_call18, pc_fr18, pc_glb20, pc_glb19, pc_glb21, pc_glb22, pc_cdt22, pl_has0, pl_call0, pl_fr0, pl_has1, pl_call1, pl_fr1, pl_has2, pl_call2, pl_fr2, pl_has3, pl_call3, pl_fr3, pl_has4, pl_call4, pl_fr4, pl_has5, pl_call5, pl_fr5, pl_has6, pl_call6, pl_fr6, pl_has7, pl_call7, pl_fr7, pl_has8, pl_call8, pl_fr8, pl_has9, pl_call9, pl_fr9, pl_has10, pl_call10, pl_fr10, pl_has11, pl_call11, pl_fr11, pl_has12, pl_call12, pl_fr12, pl_has13, pl_call13, pl_fr13, pl_has14, pl_call14, pl_fr14, pl_has15, pl_call15, pl_fr15, pl_has16, pl_call16, pl_fr16, pl_has17, pl_call17, pl_fr17, pl_has18, pl_call18, pl_fr18, pl_glb20, pl_glb19, pl_glb21, pl_glb22, pl_cdt22, h1, h2, decide_true]
          rw [pcomp_map chrV (fun c => .bl (inSm c))]
          · simp only [↓pev_comp, ↓pex_for, ↓pex_whl, pexs, pex, pev, pevs, ppks, pevi, pevo, ptst, pevp, plook, psrc_str, psrc_tup, psrc_lst, List.map, List.replicate, List.cons_append, List.nil_append, Nat.sub_self, List.append_nil, Nat.reduceSub, Nat.reduceAdd, List.getElem?_cons_zero, List.getElem?_cons_succ, pbd_rt, pbd_ok, pbd_none, pup_some, pup_none, Option.map_some, Option.map_none, Option.isNone_none, Option.isNone_some, psE_rt, psE_ok, psE_none, psQ_nx, psQ_rt, psQ_bk, psQ_ct, pnoex_rt, if_true, if_false, Bool.false_eq_true, Bool.true_and, Bool.and_true, Bool.false_and, Bool.and_false, Bool.true_or, Bool.false_or, ne_eq, reduceCtorEq, not_false_eq_true, List.set_cons_zero, List.set_cons_succ, pendOf_rt, pendOf_nx, ptru_bl, ptru_int, Bool.not_true, Bool.not_false, Bool.and_self, Bool.or_false, Bool.or_true, not_true_eq_false, ptg, pwipe, pmE_call, pmE_app, pmE_ext, pmE_ins, pmE_clr, frE_lst, frE_list, frE_dict, frE_comp, frE_dct, frE_itl, frE_slc, frE_add, frE_spl, frE_call, frE_ite, isLD, List.all_cons, List.all_nil, Nat.reduceBEq, Nat.reduceEqDiff, Int.reduceEq, Int.reduceLT, Int.reduceLE, Int.reduceNeg, Int.reduceAdd, Int.reduceSub, reduceIte, decide_true, decide_false, Option.some.injEq, isV_var, isV_int, isV_str, isV_bl, isV_non, isV_glb, isV_tup, isV_lst, isV_bin, isV_neg, isV_cmp, isV_chn, isV_and, isV_or, isV_not, isV_ite, isV_idx, isV_slc, isV_call, isV_blt, isV_isi, isV_mth, isV_exf, isV_comp, isV_dct, isV_itl, tupE_var, tupE_int, tupE_str, tupE_bl, tupE_non, tupE_glb, tupE_tup, tupE_lst, tupE_bin, tupE_neg, tupE_cmp, tupE_chn, tupE_and, tupE_or, tupE_not, tupE_ite, tupE_idx, tupE_slc, tupE_call, tupE_blt, tupE_isi, tupE_mth, tupE_exf, tupE_comp, tupE_dct, tupE_itl, pc_calm, pc_exn, pc_free, pc_wf, pl_calm, pl_exn, pl_free, pl_wf, pc_pu, pl_pu, pc0_own, pc0_mf, pc1_own, pc1_mf, pc2_own, pc2_mf, pc3_own, pc3_mf, pc4_own, pc4_mf, pc5_own, pc5_mf, pc6_own, pc6_mf, pc7_own, pc7_mf, pc8_own, pc8_mf, pc9_own, pc9_mf, pc10_own, pc10_mf, pc11_own, pc11_mf, pc12_own, pc12_mf, pc13_own, pc13_mf, pc14_own, pc14_mf, pc15_own, pc15_mf, pc16_own, pc16_mf, pc17_own, pc17_mf, pc18_own, pc18_mf, pl18_own, pl18_mf, pc_has0, pc_call0, pc_fr0, pc_has1, pc_call1, pc_fr1, pc_has2, pc_call2, pc_fr2, pc_has3, pc_call3, pc_fr3, pc_has4, pc_call4, pc_fr4, pc_has5, pc_call5, pc_fr5, pc_has6, pc_call6, pc_fr6, pc_has7, pc_call7, pc_fr7, pc_has8, pc_call8, pc_fr8, pc_has9, pc_call9, pc_fr9, pc_has10, pc_call10, pc_fr10, pc_has11, pc_call11, pc_fr11, pc_has12, pc_call12, pc_fr12, pc_has13, pc_call13, pc_fr13, pc_has14, pc_call14, pc_fr14, pc_has15, pc_call15, pc_fr15, pc_has16, pc_call16, pc_fr16, pc_has17, pc_call17, pc_fr17, pc_has18, pc_call18, pc_fr18, pc_glb20, pc_glb19, pc_glb21, pc_glb22, pc_cdt22, pl_has0, pl_call0, pl_fr0, pl_has1, pl_call1, pl_fr1, pl_has2, pl_call2, pl_fr2, pl_has3, pl_call3, pl_fr3, pl_has4, pl_call4, pl_fr4, pl_has5, pl_call5, pl_fr5, pl_has6, pl_call6, pl_fr6, pl_has7, pl_call7, pl_fr7, pl_has8, pl_call8, pl_fr8, pl_has9, pl_call9, pl_fr9, pl_has10, pl_call10, pl_fr10, pl_has11, pl_call11, pl_fr11, pl_has12, pl_call12, pl_fr12, pl_has13, pl_call13, pl_fr13, pl_has14, pl_call14, pl_fr14, pl_has15, pl_call15, pl_fr15, pl_has16, pl_call16, pl_fr16, pl_has17, pl_call17, pl_fr17, pl_has18, pl_call18, pl_fr18, pl_glb20, pl_glb19, pl_glb21, pl_glb22, pl_cdt22, pall_bl (pc_calm k 2)]
            have h1' : 1 ≤ s.length := by omega
            have h2' : s.length ≤ 8 := by omega
            simp [nameV, h3, h1', h2']
          · rw [str_len]; omega
          · intro c _
            simp only [pcmpF]
            simp only [↓pev_comp, ↓pex_for, ↓pex_whl, pexs, pex, pev, pevs, ppks, pevi, pevo, ptst, pevp, plook, psrc_str, psrc_tup, psrc_lst, List.map, List.replicate, List.cons_append, List.nil_append, Nat.sub_self, List.append_nil, Nat.reduceSub, Nat.reduceAdd, List.getElem?_cons_zero, List.getElem?_cons_succ, pbd_rt, pbd_ok, pbd_none, pup_some, pup_none, Option.map_some, Option.map_none, Option.isNone_none, Option.isNone_some, psE_rt, psE_ok, psE_none, psQ_nx, psQ_rt, psQ_bk, psQ_ct, pnoex_rt, if_true, if_false, Bool.false_eq_true, Bool.true_and, Bool.and_true, Bool.false_and, Bool.and_false, Bool.true_or, Bool.false_or, ne_eq, reduceCtorEq, not_false_eq_true, List.set_cons_zero, List.set_cons_succ, pendOf_rt, pendOf_nx, ptru_bl, ptru_int, Bool.not_true, Bool.not_false, Bool.and_self, Bool.or_false, Bool.or_true, not_true_eq_false, ptg, pwipe, pmE_call, pmE_app, pmE_ext, pmE_ins, pmE_clr, frE_lst, frE_list, frE_dict, frE_comp, frE_dct, frE_itl, frE_slc, frE_add, frE_spl, frE_call, frE_ite, isLD, List.all_cons, List.all_nil, Nat.reduceBEq, Nat.reduceEqDiff, Int.reduceEq, Int.reduceLT, Int.reduceLE, Int.reduceNeg, Int.reduceAdd, Int.reduceSub, reduceIte, decide_true, decide_false, Option.some.injEq, isV_var, isV_int, isV_str, isV_bl, isV_non, isV_glb, isV_tup, isV_lst, isV_bin, isV_neg, isV_cmp, isV_chn, isV_and, isV_or, isV_not, isV_ite, isV_idx, isV_slc, isV_call, isV_blt, isV_isi, isV_mth, isV_exf, isV_comp, isV_dct, isV_itl, tupE_var, tupE_int, tupE_str, tupE_bl, tupE_non, tupE_glb, tupE_tup, tupE_lst, tupE_bin, tupE_neg, tupE_cmp, tupE_chn, tupE_and, tupE_or, tupE_not, tupE_ite, tupE_idx, tupE_slc, tupE_call, tupE_blt, tupE_isi, tupE_mth, tupE_exf, tupE_comp, tupE_dct, tupE_itl, pc_calm, pc_exn, pc_free, pc_wf, pl_calm, pl_exn, pl_free, pl_wf, pc_pu, pl_pu, pc0_own, pc0_mf, pc1_own, pc1_mf, pc2_own, pc2_mf, pc3_own, pc3_mf, pc4_own, pc4_mf, pc5_own, pc5_mf, pc6_own, pc6_mf, pc7_own, pc7_mf, pc8_own, pc8_mf, pc9_own, pc9_mf, pc10_own, pc10_mf, pc11_own, pc11_mf, pc12_own, pc12_mf, pc13_own, pc13_mf, pc14_own, pc14_mf, pc15_own, pc15_mf, pc16_own, pc16_mf, pc17_own, pc17_mf, pc18_own, pc18_mf, pl18_own, pl18_mf, pc_has0, pc_call0, pc_fr0, pc_has1, pc_call1, pc_fr1, pc_has2, pc_call2, pc_fr2, pc_has3, pc_call3, pc_fr3, pc_has4, pc_call4, pc_fr4, pc_has5, pc_call5, pc_fr5, pc_has6, pc_call6, pc_fr6, pc_has7, pc_call7, pc_fr7, pc_has8, pc_call8, pc_fr8, pc_has9, pc_call9, pc_fr9, pc_has10, pc_call10, pc_fr10, pc_has11, pc_call11, pc_fr11, pc_has12, pc_call12, pc_fr12, pc_has13, pc_call13, pc_fr13, pc_has14, pc_call14, pc_fr14, pc_has15, pc_call15, pc_fr15, pc_has16, pc_call16, pc_fr16, pc_has17, pc_call17, pc_fr17, pc_has18, pc_call18, pc_fr18, pc_glb20, pc_glb19, pc_glb21, pc_glb22, pc_cdt22, pl_has0, pl_call0, pl_fr0, pl_has1, pl_call1, pl_fr1, pl_has2, pl_call2, pl_fr2, pl_has3, pl_call3, pl_fr3, pl_has4, pl_call4, pl_fr4, pl_has5, pl_call5, pl_fr5, pl_has6, pl_call6, pl_fr6, pl_has7, pl_call7, pl_fr7, pl_has8, pl_call8, pl_fr8, pl_has9, pl_call9, pl_fr9, pl_has10, pl_call10, pl_fr10, pl_has11, pl_call11, pl_fr11, pl_has12, pl_call12, pl_fr12, pl_has13, pl_call13, pl_fr13, pl_has14, pl_call14, pl_fr14, pl_has15, pl_call15, pl_fr15, pl_has16, pl_call16, pl_fr16, pl_has17, pl_call17, pl_fr17, pl_has18, pl_call18, pl_fr18, pl_glb20, pl_glb19, pl_glb21, pl_glb22, pl_cdt22, pin_, pin_chr, N_SMALL]
      · have h2' : ¬ s.length ≤ 8 := by omega
        simp only [↓pev_comp, ↓pex_for, ↓pex_whl, pexs, pex, pev, pevs, ppks, pevi, pevo, ptst, pevp, plook, psrc_str, psrc_tup, psrc_lst, List.map, List.replicate, List.cons_append, List.nil_append, Nat.sub_self, List.append_nil, Nat.reduceSub, Nat.reduceAdd, List.getElem?_cons_zero, List.getElem?_cons_succ, pbd_rt, pbd_ok, pbd_none, pup_some, pup_none, Option.map_some, Option.map_none, Option.isNone_none, Option.isNone_some, psE_rt, psE_ok, psE_none, psQ_nx, psQ_rt, psQ_bk, psQ_ct, pnoex_rt, if_true, if_false, Bool.false_eq_true, Bool.true_and, Bool.and_true, Bool.false_and, Bool.and_false, Bool.true_or, Bool.false_or, ne_eq, reduceCtorEq, not_false_eq_true, List.set_cons_zero, List.set_cons_succ, pendOf_rt, pendOf_nx, ptru_bl, ptru_int, Bool.not_true, Bool.not_false, Bool.and_self, Bool.or_false, Bool.or_true, not_true_eq_false, ptg, pwipe, pmE_call, pmE_app, pmE_ext, pmE_ins, pmE_clr, frE_lst, frE_list, frE_dict, frE_comp, frE_dct, frE_itl, frE_slc, frE_add, frE_spl, frE_call, frE_ite, isLD, List.all_cons, List.all_nil, Nat.reduceBEq, Nat.reduceEqDiff, Int.reduceEq, Int.reduceLT, Int.reduceLE, Int.reduceNeg, Int.reduceAdd, Int.reduceSub, reduceIte, decide_true, decide_false, Option.some.injEq, isV_var, isV_int, isV_str, isV_bl, isV_non, isV_glb, isV_tup, isV_lst, isV_bin, isV_neg, isV_cmp, isV_chn, isV_and, isV_or, isV_not, isV_ite, isV_idx, isV_slc, isV_call, isV_blt, isV_isi, isV_mth, isV_exf, isV_comp, isV_dct, isV_itl, tupE_var, tupE_int, tupE_str, tupE_bl, tupE_non, tupE_glb, tupE_tup, tupE_lst, tupE_bin, tupE_neg, tupE_cmp, tupE_chn, tupE_and, tupE_or, tupE_not, tupE_ite, tupE_idx, tupE_slc, tupE_call, tupE_blt, tupE_isi, tupE_mth, tupE_exf, tupE_comp, tupE_dct, tupE_itl, pc_calm, pc_exn, pc_free, pc_wf, pl_calm, pl_exn, pl_free, pl_wf, pc_pu, pl_pu, pc0_own, pc0_mf, pc1_own, pc1_mf, pc2_own, pc2_mf, pc3_own, pc3_mf, pc4_own, pc4_mf, pc5_own, pc5_mf, pc6_own, pc6_mf, pc7_own, pc7_mf, pc8_own, pc8_mf, pc9_own, pc9_mf, pc10_own, pc10_mf, pc11_own, pc11_mf, pc12_own, pc12_mf, pc13_own, pc13_mf, pc14_own, pc14_mf, pc15_own, pc15_mf, pc16_own, pc16_mf, pc17_own, pc17_mf, pc18_own, pc18_mf, pl18_own, pl18_mf, pc_has0, pc_call0, pc_fr0, pc_has1, pc_call1, pc_fr1, pc_has2, pc_call2, pc_fr2, pc_has3, pc_call3, pc_fr3, pc_has4, pc_call4, pc_fr4, pc_has5, pc_call5, pc_fr5, pc_has6, pc_call6, pc_fr6, pc_has7, pc_call7, pc_fr7, pc_has8, pc_call8, pc_fr8, pc_has9, pc_call9, pc_fr9, pc_has10, pc_call10, pc_fr10, pc_has11, pc_call11, pc_fr11, pc_has12, pc_call12, pc_fr12, pc_has13, pc_call13, pc_fr13, pc_has14, pc_call14, pc_fr14, pc_has15, pc_call15, pc_fr15, pc_has16, pc_call16, pc_fr16, pc_has17, pc_call17, pc_fr17, pc_has18, pc_call18, pc_fr18, pc_glb20, pc_glb19, pc_glb21, pc_glb22, pc_cdt22, pl_has0, pl_call0, pl_fr0, pl_has1, pl_call1, pl_fr1, pl_has2, pl_call2, pl_fr2, pl_has3, pl_call3, pl_fr3, pl_has4, pl_call4, pl_fr4, pl_has5, pl_call5, pl_fr5, pl_has6, pl_call6, pl_fr6, pl_has7, pl_call7, pl_fr7, pl_has8, pl_call8, pl_fr8, pl_has9, pl_call9, pl_fr9, pl_has10, pl_call10, pl_fr10, pl_has11, pl_call11, pl_fr11, pl_has12, pl_call12, pl_fr12, pl_has13, pl_call13, pl_fr13, pl_has14, pl_call14, pl_fr14, pl_has15, pl_call15, pl_fr15, pl_has16, pl_call16, pl_fr16, pl_has17, pl_call17, pl_fr17, pl_has18, pl_call18, pl_fr18, pl_glb20, pl_glb19, pl_glb21, pl_glb22, pl_cdt22, h1, h2, decide_true, decide_false]
        simp [nameV, h2']
    · have h1' : ¬ 1 ≤ s.length := by omega
      simp only [↓pev_comp, ↓pex_for, ↓pex_whl, pexs, pex, pev, pevs, ppks, pevi, pevo, ptst, pevp, plook, psrc_str, psrc_tup, psrc_lst, List.map, List.replicate, List.cons_append, List.nil_append, Nat.sub_self, List.append_nil, Nat.reduceSub, Nat.reduceAdd, List.getElem?_cons_zero, List.getElem?_cons_succ, pbd_rt, pbd_ok, pbd_none, pup_some, pup_none, Option.map_some, Option.map_none, Option.isNone_none, Option.isNone_some, psE_rt, psE_ok, psE_none, psQ_nx, psQ_rt, psQ_bk, psQ_ct, pnoex_rt, if_true, if_false, Bool.false_eq_true, Bool.true_and, Bool.and_true, Bool.false_and, Bool.and_false, Bool.true_or, Bool.false_or, ne_eq, reduceCtorEq, not_false_eq_true, List.set_cons_zero, List.set_cons_succ, pendOf_rt, pendOf_nx, ptru_bl, ptru_int, Bool.not_true, Bool.not_false, Bool.and_self, Bool.or_false, Bool.or_true, not_true_eq_false, ptg, pwipe, pmE_call, pmE_app, pmE_ext, pmE_ins, pmE_clr, frE_lst, frE_list, frE_dict, frE_comp, frE_dct, frE_itl, frE_slc, frE_add, frE_spl, frE_call, frE_ite, isLD, List.all_cons, List.all_nil, Nat.reduceBEq, Nat.reduceEqDiff, Int.reduceEq, Int.reduceLT, Int.reduceLE, Int.reduceNeg, Int.reduceAdd, Int.reduceSub, reduceIte, decide_true, decide_false, Option.some.injEq, isV_var, isV_int, isV_str, isV_bl, isV_non, isV_glb, isV_tup, isV_lst, isV_bin, isV_neg, isV_cmp, isV_chn, isV_and, isV_or, isV_not, isV_ite, isV_idx, isV_slc, isV_call, isV_blt, isV_isi, isV_mth, isV_exf, isV_comp, isV_dct, isV_itl, tupE_var, tupE_int, tupE_str, tupE_bl, tupE_non, tupE_glb, tupE_tup, tupE_lst, tupE_bin, tupE_neg, tupE_cmp, tupE_chn, tupE_and, tupE_or, tupE_not, tupE_ite, tupE_idx, tupE_slc, tupE_call, tupE_blt, tupE_isi, tupE_mth, tupE_exf, tupE_comp, tupE_dct, tupE_itl, pc_calm, pc_exn, pc_free, pc_wf, pl_calm, pl_exn, pl_free, pl_wf, pc_pu, pl_pu, pc0_own, pc0_mf, pc1_own, pc1_mf, pc2_own, pc2_mf, pc3_own, pc3_mf, pc4_own, pc4_mf, pc5_own, pc5_mf, pc6_own, pc6_mf, pc7_own, pc7_mf, pc8_own, pc8_mf, pc9_own, pc9_mf, pc10_own, pc10_mf, pc11_own, pc11_mf, pc12_own, pc12_mf, pc13_own, pc13_mf, pc14_own, pc14_mf, pc15_own, pc15_mf, pc16_own, pc16_mf, pc17_own, pc17_mf, pc18_own, pc18_mf, pl18_own, pl18_mf, pc_has0, pc_call0, pc_fr0, pc_has1, pc_call1, pc_fr1, pc_has2, pc_call2, pc_fr2, pc_has3, pc_call3, pc_fr3, pc_has4, pc_call4, pc_fr4, pc_has5, pc_call5, pc_fr5, pc_has6, pc_call6, pc_fr6, pc_has7, pc_call7, pc_fr7, pc_has8, pc_call8, pc_fr8, pc_has9, pc_call9, pc_fr9, pc_has10, pc_call10, pc_fr10, pc_has11, pc_call11, pc_fr11, pc_has12, pc_call12, pc_fr12, pc_has13, pc_call13, pc_fr13, pc_has14, pc_call14, pc_fr14, pc_has15, pc_call15, pc_fr15, pc_has16, pc_call16, pc_fr16, pc_has17, pc_call17, pc_fr17, pc_has18, pc_call18, pc_fr18, pc_glb20, pc_glb19, pc_glb21, pc_glb22, pc_cdt22, pl_has0, pl_call0, pl_fr0, pl_has1, pl_call1, pl_fr1, pl_has2, pl_call2, pl_fr2, pl_has3, pl_call3, pl_fr3, pl_has4, pl_call4, pl_fr4, pl_has5, pl_call5, pl_fr5, pl_has6, pl_call6, pl_fr6, pl_has7, pl_call7, pl_fr7, pl_has8, pl_call8, pl_fr8, pl_has9, pl_call9, pl_fr9, pl_has10, pl_call10, pl_fr10, pl_has11, pl_call11, pl_fr11, pl_has12, pl_call12, pl_fr12, pl_has13, pl_call13, pl_fr13, pl_has14, pl_call14, pl_fr14, pl_has15, pl_call15, pl_fr15, pl_has16, pl_call16, pl_fr16, pl_has17, pl_call17, pl_fr17, pl_has18, pl_call18, pl_fr18, pl_glb20, pl_glb19, pl_glb21, pl_glb22, pl_cdt22, h1, decide_false]
      simp [nameV, h1']
  | _ => simp only [↓pev_comp, ↓pex_for, ↓pex_whl, pexs, pex, pev, pevs, ppks, pevi, pevo, ptst, pevp, plook, psrc_str, psrc_tup, psrc_lst, List.map, List.replicate, List.cons_append, List.nil_append, Nat.sub_self, List.append_nil, Nat.reduceSub, Nat.reduceAdd, List.getElem?_cons_zero, List.getElem?_cons_succ, pbd_rt, pbd_ok, pbd_none, pup_some, pup_none, Option.map_some, Option.map_none, Option.isNone_none, Option.isNone_some, psE_rt, psE_ok, psE_none, psQ_nx, psQ_rt, psQ_bk, psQ_ct, pnoex_rt, if_true, if_false, Bool.false_eq_true, Bool.true_and, Bool.and_true, Bool.false_and, Bool.and_false, Bool.true_or, Bool.false_or, ne_eq, reduceCtorEq, not_false_eq_true, List.set_cons_zero, List.set_cons_succ, pendOf_rt, pendOf_nx, ptru_bl, ptru_int, Bool.not_true, Bool.not_false, Bool.and_self, Bool.or_false, Bool.or_true, not_true_eq_false, ptg, pwipe, pmE_call, pmE_app, pmE_ext, pmE_ins, pmE_clr, frE_lst, frE_list, frE_dict, frE_comp, frE_dct, frE_itl, frE_slc, frE_add, frE_spl, frE_call, frE_ite, isLD, List.all_cons, List.all_nil, Nat.reduceBEq, Nat.reduceEqDiff, Int.reduceEq, Int.reduceLT, Int.reduceLE, Int.reduceNeg, Int.reduceAdd, Int.reduceSub, reduceIte, decide_true, decide_false, Option.some.injEq, isV_var, isV_int, isV_str, isV_bl, isV_non, isV_glb, isV_tup, isV_lst, isV_bin, isV_neg, isV_cmp, isV_chn, isV_and, isV_or, isV_not, isV_ite, isV_idx, isV_slc, isV_call, isV_blt, isV_isi, isV_mth, isV_exf, isV_comp, isV_dct, isV_itl, tupE_var, tupE_int, tupE_str, tupE_bl, tupE_non, tupE_glb, tupE_tup, tupE_lst, tupE_bin, tupE_neg, tupE_cmp, tupE_chn, tupE_and, tupE_or, tupE_not, tupE_ite, tupE_idx, tupE_slc, tupE_call, tupE_blt, tupE_isi, tupE_mth, tupE_exf, tupE_comp, tupE_dct, tupE_itl, pc_calm, pc_exn, pc_free, pc_wf, pl_calm, pl_exn, pl_free, pl_wf, pc_pu, pl_pu, pc0_own, pc0_mf, pc1_own, pc1_mf, pc2_own, pc2_mf, pc3_own, pc3_mf, pc4_own, pc4_mf, pc5_own, pc5_mf, pc6_own, pc6_mf, pc7_own, pc7_mf, pc8_own, pc8_mf, pc9_own, pc9_mf, pc10_own, pc10_mf, pc11_own, pc11_mf, pc12_own, pc12_mf, pc13_own, pc13_mf, pc14_own, pc14_mf, pc15_own, pc15_mf, pc16_own, pc16_mf, pc17_own, pc17_mf, pc18_own, pc18_mf, pl18_own, pl18_mf, pc_has0, pc_call0, pc_fr0, pc_has1, pc_call1, pc_fr1, pc_has2, pc_call2, pc_fr2, pc_has3, pc_call3, pc_fr3, pc_has4, pc_call4, pc_fr4, pc_has5, pc_call5, pc_fr5, pc_has6, pc_call6, pc_fr6, pc_has7, pc_call7, pc_fr7, pc_has8, pc_call8, pc_fr8, pc_has9, pc_call9, pc_fr9, pc_has10, pc_call10, pc_fr10, pc_has11, pc_call11, pc_fr11, pc_has12, pc_call12, pc_fr12, pc_has13, pc_call13, pc_fr13, pc_has14, pc_call14, pc_fr14, pc_has15, pc_call15, pc_fr15, pc_has16, pc_call16, pc_fr16, pc_has17, pc_call17, pc_fr17, pc_has18, pc_call18, pc_fr18, pc_glb20, pc_glb19, pc_glb21, pc_glb22, pc_cdt22, pl_has0, pl_call0, pl_fr0, pl_has1, pl_call1, pl_fr1, pl_has2, pl_call2, pl_fr2, pl_has3, pl_call3, pl_fr3, pl_has4, pl_call4, pl_fr4, pl_has5, pl_call5, pl_fr5, pl_has6, pl_call6, pl_fr6, pl_has7, pl_call7, pl_fr7, pl_has8, pl_call8, pl_fr8, pl_has9, pl_call9, pl_fr9, pl_has10, pl_call10, pl_fr10, pl_has11, pl_call11, pl_fr11, pl_has12, pl_call12, pl_fr12, pl_has13, pl_call13, pl_fr13, pl_has14, pl_call14, pl_fr14, pl_has15, pl_call15, pl_fr15, pl_has16, pl_call16, pl_fr16, pl_has17, pl_call17, pl_fr17, pl_has18, pl_call18, pl_fr18, pl_glb20, pl_glb19, pl_glb21, pl_glb22, pl_cdt22, pisi_d hv, tyP, nameV]
theorem e_spot (k : Nat) (x : V) (σ : PS) (hv : isD x = true) (hx : ∀ xs, x = .tup xs → xs.length ≤ sizeLine ∧ ∀ y ∈ xs, isD y = true) : Mi.pv T D (k + 2) 5 [x] σ = prt (.bl (spotV x)) σ := by
  rw [pv_s (k + 1) 5 _ σ m_is_spot rfl rfl rfl]
  simp only [m_is_spot]
  cases x with
  | tup xs =>
    obtain ⟨hz, hy⟩ := hx xs rfl
    simp only [↓pev_comp, ↓pex_for, ↓pex_whl, pexs, pex, pev, pevs, ppks, pevi, pevo, ptst, pevp, plook, psrc_str, psrc_tup, psrc_lst, List.map, List.replicate, List.cons_append, List.nil_append, Nat.sub_self, List.append_nil, Nat.reduceSub, Nat.reduceAdd, List.getElem?_cons_zero, List.getElem?_cons_succ, pbd_rt, pbd_ok, pbd_none, pup_some, pup_none, Option.map_some, Option.map_none, Option.isNone_none, Option.isNone_some, psE_rt, psE_ok, psE_none, psQ_nx, psQ_rt, psQ_bk, psQ_ct, pnoex_rt, if_true, if_false, Bool.false_eq_true, Bool.true_and, Bool.and_true, Bool.false_and, Bool.and_false, Bool.true_or, Bool.false_or, ne_eq, reduceCtorEq, not_false_eq_true, List.set_cons_zero, List.set_cons_succ, pendOf_rt, pendOf_nx, ptru_bl, ptru_int, Bool.not_true, Bool.not_false, Bool.and_self, Bool.or_false, Bool.or_true, not_true_eq_false, ptg, pwipe, pmE_call, pmE_app, pmE_ext, pmE_ins, pmE_clr, frE_lst, frE_list, frE_dict, frE_comp, frE_dct, frE_itl, frE_slc, frE_add, frE_spl, frE_call, frE_ite, isLD, List.all_cons, List.all_nil, Nat.reduceBEq, Nat.reduceEqDiff, Int.reduceEq, Int.reduceLT, Int.reduceLE, Int.reduceNeg, Int.reduceAdd, Int.reduceSub, reduceIte, decide_true, decide_false, Option.some.injEq, isV_var, isV_int, isV_str, isV_bl, isV_non, isV_glb, isV_tup, isV_lst, isV_bin, isV_neg, isV_cmp, isV_chn, isV_and, isV_or, isV_not, isV_ite, isV_idx, isV_slc, isV_call, isV_blt, isV_isi, isV_mth, isV_exf, isV_comp, isV_dct, isV_itl, tupE_var, tupE_int, tupE_str, tupE_bl, tupE_non, tupE_glb, tupE_tup, tupE_lst, tupE_bin, tupE_neg, tupE_cmp, tupE_chn, tupE_and, tupE_or, tupE_not, tupE_ite, tupE_idx, tupE_slc, tupE_call, tupE_blt, tupE_isi, tupE_mth, tupE_exf, tupE_comp, tupE_dct, tupE_itl, pc_calm, pc_exn, pc_free, pc_wf, pl_calm, pl_exn, pl_free, pl_wf, pc_pu, pl_pu, pc0_own, pc0_mf, pc1_own, pc1_mf, pc2_own, pc2_mf, pc3_own, pc3_mf, pc4_own, pc4_mf, pc5_own, pc5_mf, pc6_own, pc6_mf, pc7_own, pc7_mf, pc8_own, pc8_mf, pc9_own, pc9_mf, pc10_own, pc10_mf, pc11_own, pc11_mf, pc12_own, pc12_mf, pc13_own, pc13_mf, pc14_own, pc14_mf, pc15_own, pc15_mf, pc16_own, pc16_mf, pc17_own, pc17_mf, pc18_own, pc18_mf, pl18_own, pl18_mf, pc_has0, pc_call0, pc_fr0, pc_has1, pc_call1, pc_fr1, pc_has2, pc_call2, pc_fr2, pc_has3, pc_call3, pc_fr3, pc_has4, pc_call4, pc_fr4, pc_has5, pc_call5, pc_fr5, pc_has6, pc_call6, pc_fr6, pc_has7, pc_call7, pc_fr7, pc_has8, pc_call8, pc_fr8, pc_has9, pc_call9, pc_fr9, pc_has10, pc_call10, pc_fr10, pc_has11, pc_call11, pc_fr11, pc_has12, pc_call12, pc_fr12, pc_has13, pc_call13, pc_fr13, pc_has14, pc_call14, pc_fr14, pc_has15, pc_call15, pc_fr15, pc_has16, pc_call16, pc_fr16, pc_has17, pc_call17, pc_fr17, pc_has18, pc_call18, pc_fr18, pc_glb20, pc_glb19, pc_glb21, pc_glb22, pc_cdt22, pl_has0, pl_call0, pl_fr0, pl_has1, pl_call1, pl_fr1, pl_has2, pl_call2, pl_fr2, pl_has3, pl_call3, pl_fr3, pl_has4, pl_call4, pl_fr4, pl_has5, pl_call5, pl_fr5, pl_has6, pl_call6, pl_fr6, pl_has7, pl_call7, pl_fr7, pl_has8, pl_call8, pl_fr8, pl_has9, pl_call9, pl_fr9, pl_has10, pl_call10, pl_fr10, pl_has11, pl_call11, pl_fr11, pl_has12, pl_call12, pl_fr12, pl_has13, pl_call13, pl_fr13, pl_has14, pl_call14, pl_fr14, pl_has15, pl_call15, pl_fr15, pl_has16, pl_call16, pl_fr16, pl_has17, pl_call17, pl_fr17, pl_has18, pl_call18, pl_fr18, pl_glb20, pl_glb19, pl_glb21, pl_glb22, pl_cdt22, pisi_d hv, tyP]
    rw [pcomp_all (fun c => .bl (numV c)) (by omega) (fun c hc => by
      simp only [pcmpF]
      simp only [↓pev_comp, ↓pex_for, ↓pex_whl, pexs, pex, pev, pevs, ppks, pevi, pevo, ptst, pevp, plook, psrc_str, psrc_tup, psrc_lst, List.map, List.replicate, List.cons_append, List.nil_append, Nat.sub_self, List.append_nil, Nat.reduceSub, Nat.reduceAdd, List.getElem?_cons_zero, List.getElem?_cons_succ, pbd_rt, pbd_ok, pbd_none, pup_some, pup_none, Option.map_some, Option.map_none, Option.isNone_none, Option.isNone_some, psE_rt, psE_ok, psE_none, psQ_nx, psQ_rt, psQ_bk, psQ_ct, pnoex_rt, if_true, if_false, Bool.false_eq_true, Bool.true_and, Bool.and_true, Bool.false_and, Bool.and_false, Bool.true_or, Bool.false_or, ne_eq, reduceCtorEq, not_false_eq_true, List.set_cons_zero, List.set_cons_succ, pendOf_rt, pendOf_nx, ptru_bl, ptru_int, Bool.not_true, Bool.not_false, Bool.and_self, Bool.or_false, Bool.or_true, not_true_eq_false, ptg, pwipe, pmE_call, pmE_app, pmE_ext, pmE_ins, pmE_clr, frE_lst, frE_list, frE_dict, frE_comp, frE_dct, frE_itl, frE_slc, frE_add, frE_spl, frE_call, frE_ite, isLD, List.all_cons, List.all_nil, Nat.reduceBEq, Nat.reduceEqDiff, Int.reduceEq, Int.reduceLT, Int.reduceLE, Int.reduceNeg, Int.reduceAdd, Int.reduceSub, reduceIte, decide_true, decide_false, Option.some.injEq, isV_var, isV_int, isV_str, isV_bl, isV_non, isV_glb, isV_tup, isV_lst, isV_bin, isV_neg, isV_cmp, isV_chn, isV_and, isV_or, isV_not, isV_ite, isV_idx, isV_slc, isV_call, isV_blt, isV_isi, isV_mth, isV_exf, isV_comp, isV_dct, isV_itl, tupE_var, tupE_int, tupE_str, tupE_bl, tupE_non, tupE_glb, tupE_tup, tupE_lst, tupE_bin, tupE_neg, tupE_cmp, tupE_chn, tupE_and, tupE_or, tupE_not, tupE_ite, tupE_idx, tupE_slc, tupE_call, tupE_blt, tupE_isi, tupE_mth, tupE_exf, tupE_comp, tupE_dct, tupE_itl, pc_calm, pc_exn, pc_free, pc_wf, pl_calm, pl_exn, pl_free, pl_wf, pc_pu, pl_pu, pc0_own, pc0_mf, pc1_own, pc1_mf, pc2_own, pc2_mf, pc3_own, pc3_mf, pc4_own, pc4_mf, pc5_own, pc5_mf, pc6_own, pc6_mf, pc7_own, pc7_mf, pc8_own, pc8_mf, pc9_own, pc9_mf, pc10_own, pc10_mf, pc11_own, pc11_mf, pc12_own, pc12_mf, pc13_own, pc13_mf, pc14_own, pc14_mf, pc15_own, pc15_mf, pc16_own, pc16_mf, pc17_own, pc17_mf, pc18_own, pc18_mf, pl18_own, pl18_mf, pc_has0, pc_call0, pc_fr0, pc_has1, pc_call1, pc_fr1, pc_has2, pc_call2, pc_fr2, pc_has3, pc_call3, pc_fr3, pc_has4, pc_call4, pc_fr4, pc_has5, pc_call5, pc_fr5, pc_has6, pc_call6, pc_fr6, pc_has7, pc_call7, pc_fr7, pc_has8, pc_call8, pc_fr8, pc_has9, pc_call9, pc_fr9, pc_has10, pc_call10, pc_fr10, pc_has11, pc_call11, pc_fr11, pc_has12, pc_call12, pc_fr12, pc_has13, pc_call13, pc_fr13, pc_has14, pc_call14, pc_fr14, pc_has15, pc_call15, pc_fr15, pc_has16, pc_call16, pc_fr16, pc_has17, pc_call17, pc_fr17, pc_has18, pc_call18, pc_fr18, pc_glb20, pc_glb19, pc_glb21, pc_glb22, pc_cdt22, pl_has0, pl_call0, pl_fr0, pl_has1, pl_call1, pl_fr1, pl_has2, pl_call2, pl_fr2, pl_has3, pl_call3, pl_fr3, pl_has4, pl_call4, pl_fr4, pl_has5, pl_call5, pl_fr5, pl_has6, pl_call6, pl_fr6, pl_has7, pl_call7, pl_fr7, pl_has8, pl_call8, pl_fr8, pl_has9, pl_call9, pl_fr9, pl_has10, pl_call10, pl_fr10, pl_has11, pl_call11, pl_fr11, pl_has12, pl_call12, pl_fr12, pl_has13, pl_call13, pl_fr13, pl_has14, pl_call14, pl_fr14, pl_has15, pl_call15, pl_fr15, pl_has16, pl_call16, pl_fr16, pl_has17, pl_call17, pl_fr17, pl_has18, pl_call18, pl_fr18, pl_glb20, pl_glb19, pl_glb21, pl_glb22, pl_cdt22, e_number k c σ (hy c hc)])]
    simp only [↓pev_comp, ↓pex_for, ↓pex_whl, pexs, pex, pev, pevs, ppks, pevi, pevo, ptst, pevp, plook, psrc_str, psrc_tup, psrc_lst, List.map, List.replicate, List.cons_append, List.nil_append, Nat.sub_self, List.append_nil, Nat.reduceSub, Nat.reduceAdd, List.getElem?_cons_zero, List.getElem?_cons_succ, pbd_rt, pbd_ok, pbd_none, pup_some, pup_none, Option.map_some, Option.map_none, Option.isNone_none, Option.isNone_some, psE_rt, psE_ok, psE_none, psQ_nx, psQ_rt, psQ_bk, psQ_ct, pnoex_rt, if_true, if_false, Bool.false_eq_true, Bool.true_and, Bool.and_true, Bool.false_and, Bool.and_false, Bool.true_or, Bool.false_or, ne_eq, reduceCtorEq, not_false_eq_true, List.set_cons_zero, List.set_cons_succ, pendOf_rt, pendOf_nx, ptru_bl, ptru_int, Bool.not_true, Bool.not_false, Bool.and_self, Bool.or_false, Bool.or_true, not_true_eq_false, ptg, pwipe, pmE_call, pmE_app, pmE_ext, pmE_ins, pmE_clr, frE_lst, frE_list, frE_dict, frE_comp, frE_dct, frE_itl, frE_slc, frE_add, frE_spl, frE_call, frE_ite, isLD, List.all_cons, List.all_nil, Nat.reduceBEq, Nat.reduceEqDiff, Int.reduceEq, Int.reduceLT, Int.reduceLE, Int.reduceNeg, Int.reduceAdd, Int.reduceSub, reduceIte, decide_true, decide_false, Option.some.injEq, isV_var, isV_int, isV_str, isV_bl, isV_non, isV_glb, isV_tup, isV_lst, isV_bin, isV_neg, isV_cmp, isV_chn, isV_and, isV_or, isV_not, isV_ite, isV_idx, isV_slc, isV_call, isV_blt, isV_isi, isV_mth, isV_exf, isV_comp, isV_dct, isV_itl, tupE_var, tupE_int, tupE_str, tupE_bl, tupE_non, tupE_glb, tupE_tup, tupE_lst, tupE_bin, tupE_neg, tupE_cmp, tupE_chn, tupE_and, tupE_or, tupE_not, tupE_ite, tupE_idx, tupE_slc, tupE_call, tupE_blt, tupE_isi, tupE_mth, tupE_exf, tupE_comp, tupE_dct, tupE_itl, pc_calm, pc_exn, pc_free, pc_wf, pl_calm, pl_exn, pl_free, pl_wf, pc_pu, pl_pu, pc0_own, pc0_mf, pc1_own, pc1_mf, pc2_own, pc2_mf, pc3_own, pc3_mf, pc4_own, pc4_mf, pc5_own, pc5_mf, pc6_own, pc6_mf, pc7_own, pc7_mf, pc8_own, pc8_mf, pc9_own, pc9_mf, pc10_own, pc10_mf, pc11_own, pc11_mf, pc12_own, pc12_mf, pc13_own, pc13_mf, pc14_own, pc14_mf, pc15_own, pc15_mf, pc16_own, pc16_mf, pc17_own, pc17_mf, pc18_own, pc18_mf, pl18_own, pl18_mf, pc_has0, pc_call0, pc_fr0, pc_has1, pc_call1, pc_fr1, pc_has2, pc_call2, pc_fr2, pc_has3, pc_call3, pc_fr3, pc_has4, pc_call4, pc_fr4, pc_has5, pc_call5, pc_fr5, pc_has6, pc_call6, pc_fr6, pc_has7, pc_call7, pc_fr7, pc_has8, pc_call8, pc_fr8, pc_has9, pc_call9, pc_fr9, pc_has10, pc_call10, pc_fr10, pc_has11, pc_call11, pc_fr11, pc_has12, pc_call12, pc_fr12, pc_has13, pc_call13, pc_fr13, pc_has14, pc_call14, pc_fr14, pc_has15, pc_call15, pc_fr15, pc_has16, pc_call16, pc_fr16, pc_has17, pc_call17, pc_fr17, pc_has18, pc_call18, pc_fr18, pc_glb20, pc_glb19, pc_glb21, pc_glb22, pc_cdt22, pl_has0, pl_call0, pl_fr0, pl_has1, pl_call1, pl_fr1, pl_has2, pl_call2, pl_fr2, pl_has3, pl_call3, pl_fr3, pl_has4, pl_call4, pl_fr4, pl_has5, pl_call5, pl_fr5, pl_has6, pl_call6, pl_fr6, pl_has7, pl_call7, pl_fr7, pl_has8, pl_call8, pl_fr8, pl_has9, pl_call9, pl_fr9, pl_has10, pl_call10, pl_fr10, pl_has11, pl_call11, pl_fr11, pl_has12, pl_call12, pl_fr12, pl_has13, pl_call13, pl_fr13, pl_has14, pl_call14, pl_fr14, pl_has15, pl_call15, pl_fr15, pl_has16, pl_call16, pl_fr16, pl_has17, pl_call17, pl_fr17, pl_has18, pl_call18, pl_fr18, pl_glb20, pl_glb19, pl_glb21, pl_glb22, pl_cdt22, pall_bl (pc_calm (k + 1) 5)]
    rfl
  | _ => simp only [↓pev_comp, ↓pex_for, ↓pex_whl, pexs, pex, pev, pevs, ppks, pevi, pevo, ptst, pevp, plook, psrc_str, psrc_tup, psrc_lst, List.map, List.replicate, List.cons_append, List.nil_append, Nat.sub_self, List.append_nil, Nat.reduceSub, Nat.reduceAdd, List.getElem?_cons_zero, List.getElem?_cons_succ, pbd_rt, pbd_ok, pbd_none, pup_some, pup_none, Option.map_some, Option.map_none, Option.isNone_none, Option.isNone_some, psE_rt, psE_ok, psE_none, psQ_nx, psQ_rt, psQ_bk, psQ_ct, pnoex_rt, if_true, if_false, Bool.false_eq_true, Bool.true_and, Bool.and_true, Bool.false_and, Bool.and_false, Bool.true_or, Bool.false_or, ne_eq, reduceCtorEq, not_false_eq_true, List.set_cons_zero, List.set_cons_succ, pendOf_rt, pendOf_nx, ptru_bl, ptru_int, Bool.not_true, Bool.not_false, Bool.and_self, Bool.or_false, Bool.or_true, not_true_eq_false, ptg, pwipe, pmE_call, pmE_app, pmE_ext, pmE_ins, pmE_clr, frE_lst, frE_list, frE_dict, frE_comp, frE_dct, frE_itl, frE_slc, frE_add, frE_spl, frE_call, frE_ite, isLD, List.all_cons, List.all_nil, Nat.reduceBEq, Nat.reduceEqDiff, Int.reduceEq, Int.reduceLT, Int.reduceLE, Int.reduceNeg, Int.reduceAdd, Int.reduceSub, reduceIte, decide_true, decide_false, Option.some.injEq, isV_var, isV_int, isV_str, isV_bl, isV_non, isV_glb, isV_tup, isV_lst, isV_bin, isV_neg, isV_cmp, isV_chn, isV_and, isV_or, isV_not, isV_ite, isV_idx, isV_slc, isV_call, isV_blt, isV_isi, isV_mth, isV_exf, isV_comp, isV_dct, isV_itl, tupE_var, tupE_int, tupE_str, tupE_bl, tupE_non, tupE_glb, tupE_tup, tupE_lst, tupE_bin, tupE_neg, tupE_cmp, tupE_chn, tupE_and, tupE_or, tupE_not, tupE_ite, tupE_idx, tupE_slc, tupE_call, tupE_blt, tupE_isi, tupE_mth, tupE_exf, tupE_comp, tupE_dct, tupE_itl, pc_calm, pc_exn, pc_free, pc_wf, pl_calm, pl_exn, pl_free, pl_wf, pc_pu, pl_pu, pc0_own, pc0_mf, pc1_own, pc1_mf, pc2_own, pc2_mf, pc3_own, pc3_mf, pc4_own, pc4_mf, pc5_own, pc5_mf, pc6_own, pc6_mf, pc7_own, pc7_mf, pc8_own, pc8_mf, pc9_own, pc9_mf, pc10_own, pc10_mf, pc11_own, pc11_mf, pc12_own, pc12_mf, pc13_own, pc13_mf, pc14_own, pc14_mf, pc15_own, pc15_mf, pc16_own, pc16_mf, pc17_own, pc17_mf, pc18_own, pc18_mf, pl18_own, pl18_mf, pc_has0, pc_call0, pc_fr0, pc_has1, pc_call1, pc_fr1, pc_has2, pc_call2, pc_fr2, pc_has3, pc_call3, pc_fr3, pc_has4, pc_call4, pc_fr4, pc_has5, pc_call5, pc_fr5, pc_has6, pc_call6, pc_fr6, pc_has7, pc_call7, pc_fr7, pc_has8, pc_call8, pc_fr8, pc_has9, pc_call9, pc_fr9, pc_has10, pc_call10, pc_fr10, pc_has11, pc_call11, pc_fr11, pc_has12, pc_call12, pc_fr12, pc_has13, pc_call13, pc_fr13, pc_has14, pc_call14, pc_fr14, pc_has15, pc_call15, pc_fr15, pc_has16, pc_call16, pc_fr16, pc_has17, pc_call17, pc_fr17, pc_has18, pc_call18, pc_fr18, pc_glb20, pc_glb19, pc_glb21, pc_glb22, pc_cdt22, pl_has0, pl_call0, pl_fr0, pl_has1, pl_call1, pl_fr1, pl_has2, pl_call2, pl_fr2, pl_has3, pl_call3, pl_fr3, pl_has4, pl_call4, pl_fr4, pl_has5, pl_call5, pl_fr5, pl_has6, pl_call6, pl_fr6, pl_has7, pl_call7, pl_fr7, pl_has8, pl_call8, pl_fr8, pl_has9, pl_call9, pl_fr9, pl_has10, pl_call10, pl_fr10, pl_has11, pl_call11, pl_fr11, pl_has12, pl_call12, pl_fr12, pl_has13, pl_call13, pl_fr13, pl_has14, pl_call14, pl_fr14, pl_has15, pl_call15, pl_fr15, pl_has16, pl_call16, pl_fr16, pl_has17, pl_call17, pl_fr17, pl_has18, pl_call18, pl_fr18, pl_glb20, pl_glb19, pl_glb21, pl_glb22, pl_cdt22, pisi_d hv, tyP, spotV]
theorem nFORMS : N_FORMS = FORMS := rfl
theorem e_form {k : Nat} (hk : 2 ≤ k) (c : Nat) (v : V) (σ : PS) (g : gv v = true) (ht : Mi.pv T D k 4 [v] σ = prt (.bl (isT v)) σ) : Mi.pv T D (k + 1) 3 [chrV c, v] σ = prt (.bl (fmT c v)) σ := by
  obtain ⟨k, rfl⟩ : ∃ j, k = j + 1 := ⟨k - 1, by omega⟩
  rw [pv_s (k + 1) 3 _ σ m_has_form rfl rfl rfl]
  simp only [m_has_form, chrV]
  have hv := gv_isD g
  by_cases h1 : c = 110
  · simp only [↓pev_comp, ↓pex_for, ↓pex_whl, pexs, pex, pev, pevs, ppks, pevi, pevo, ptst, pevp, plook, psrc_str, psrc_tup, psrc_lst, List.map, List.replicate, List.cons_append, List.nil_append, Nat.sub_self, List.append_nil, Nat.reduceSub, Nat.reduceAdd, List.getElem?_cons_zero, List.getElem?_cons_succ, pbd_rt, pbd_ok, pbd_none, pup_some, pup_none, Option.map_some, Option.map_none, Option.isNone_none, Option.isNone_some, psE_rt, psE_ok, psE_none, psQ_nx, psQ_rt, psQ_bk, psQ_ct, pnoex_rt, if_true, if_false, Bool.false_eq_true, Bool.true_and, Bool.and_true, Bool.false_and, Bool.and_false, Bool.true_or, Bool.false_or, ne_eq, reduceCtorEq, not_false_eq_true, List.set_cons_zero, List.set_cons_succ, pendOf_rt, pendOf_nx, ptru_bl, ptru_int, Bool.not_true, Bool.not_false, Bool.and_self, Bool.or_false, Bool.or_true, not_true_eq_false, ptg, pwipe, pmE_call, pmE_app, pmE_ext, pmE_ins, pmE_clr, frE_lst, frE_list, frE_dict, frE_comp, frE_dct, frE_itl, frE_slc, frE_add, frE_spl, frE_call, frE_ite, isLD, List.all_cons, List.all_nil, Nat.reduceBEq, Nat.reduceEqDiff, Int.reduceEq, Int.reduceLT, Int.reduceLE, Int.reduceNeg, Int.reduceAdd, Int.reduceSub, reduceIte, decide_true, decide_false, Option.some.injEq, isV_var, isV_int, isV_str, isV_bl, isV_non, isV_glb, isV_tup, isV_lst, isV_bin, isV_neg, isV_cmp, isV_chn, isV_and, isV_or, isV_not, isV_ite, isV_idx, isV_slc, isV_call, isV_blt, isV_isi, isV_mth, isV_exf, isV_comp, isV_dct, isV_itl, tupE_var, tupE_int, tupE_str, tupE_bl, tupE_non, tupE_glb, tupE_tup, tupE_lst, tupE_bin, tupE_neg, tupE_cmp, tupE_chn, tupE_and, tupE_or, tupE_not, tupE_ite, tupE_idx, tupE_slc, tupE_call, tupE_blt, tupE_isi, tupE_mth, tupE_exf, tupE_comp, tupE_dct, tupE_itl, pc_calm, pc_exn, pc_free, pc_wf, pl_calm, pl_exn, pl_free, pl_wf, pc_pu, pl_pu, pc0_own, pc0_mf, pc1_own, pc1_mf, pc2_own, pc2_mf, pc3_own, pc3_mf, pc4_own, pc4_mf, pc5_own, pc5_mf, pc6_own, pc6_mf, pc7_own, pc7_mf, pc8_own, pc8_mf, pc9_own, pc9_mf, pc10_own, pc10_mf, pc11_own, pc11_mf, pc12_own, pc12_mf, pc13_own, pc13_mf, pc14_own, pc14_mf, pc15_own, pc15_mf, pc16_own, pc16_mf, pc17_own, pc17_mf, pc18_own, pc18_mf, pl18_own, pl18_mf, pc_has0, pc_call0, pc_fr0, pc_has1, pc_call1, pc_fr1, pc_has2, pc_call2, pc_fr2, pc_has3, pc_call3, pc_fr3, pc_has4, pc_call4, pc_fr4, pc_has5, pc_call5, pc_fr5, pc_has6, pc_call6, pc_fr6, pc_has7, pc_call7, pc_fr7, pc_has8, pc_call8, pc_fr8, pc_has9, pc_call9, pc_fr9, pc_has10, pc_call10, pc_fr10, pc_has11, pc_call11, pc_fr11, pc_has12, pc_call12, pc_fr12, pc_has13, pc_call13, pc_fr13, pc_has14, pc_call14, pc_fr14, pc_has15, pc_call15, pc_fr15, pc_has16, pc_call16, pc_fr16, pc_has17, pc_call17, pc_fr17, pc_has18, pc_call18, pc_fr18, pc_glb20, pc_glb19, pc_glb21, pc_glb22, pc_cdt22, pl_has0, pl_call0, pl_fr0, pl_has1, pl_call1, pl_fr1, pl_has2, pl_call2, pl_fr2, pl_has3, pl_call3, pl_fr3, pl_has4, pl_call4, pl_fr4, pl_has5, pl_call5, pl_fr5, pl_has6, pl_call6, pl_fr6, pl_has7, pl_call7, pl_fr7, pl_has8, pl_call8, pl_fr8, pl_has9, pl_call9, pl_fr9, pl_has10, pl_call10, pl_fr10, pl_has11, pl_call11, pl_fr11, pl_has12, pl_call12, pl_fr12, pl_has13, pl_call13, pl_fr13, pl_has14, pl_call14, pl_fr14, pl_has15, pl_call15, pl_fr15, pl_has16, pl_call16, pl_fr16, pl_has17, pl_call17, pl_fr17, pl_has18, pl_call18, pl_fr18, pl_glb20, pl_glb19, pl_glb21, pl_glb22, pl_cdt22, peq_str, lit_n, one_eq, h1, decide_true, e_number k v σ hv, fmT]
  · by_cases h2 : c = 104
    · have e1 : decide ((104 : Nat) = 110) = false := rfl
      simp only [↓pev_comp, ↓pex_for, ↓pex_whl, pexs, pex, pev, pevs, ppks, pevi, pevo, ptst, pevp, plook, psrc_str, psrc_tup, psrc_lst, List.map, List.replicate, List.cons_append, List.nil_append, Nat.sub_self, List.append_nil, Nat.reduceSub, Nat.reduceAdd, List.getElem?_cons_zero, List.getElem?_cons_succ, pbd_rt, pbd_ok, pbd_none, pup_some, pup_none, Option.map_some, Option.map_none, Option.isNone_none, Option.isNone_some, psE_rt, psE_ok, psE_none, psQ_nx, psQ_rt, psQ_bk, psQ_ct, pnoex_rt, if_true, if_false, Bool.false_eq_true, Bool.true_and, Bool.and_true, Bool.false_and, Bool.and_false, Bool.true_or, Bool.false_or, ne_eq, reduceCtorEq, not_false_eq_true, List.set_cons_zero, List.set_cons_succ, pendOf_rt, pendOf_nx, ptru_bl, ptru_int, Bool.not_true, Bool.not_false, Bool.and_self, Bool.or_false, Bool.or_true, not_true_eq_false, ptg, pwipe, pmE_call, pmE_app, pmE_ext, pmE_ins, pmE_clr, frE_lst, frE_list, frE_dict, frE_comp, frE_dct, frE_itl, frE_slc, frE_add, frE_spl, frE_call, frE_ite, isLD, List.all_cons, List.all_nil, Nat.reduceBEq, Nat.reduceEqDiff, Int.reduceEq, Int.reduceLT, Int.reduceLE, Int.reduceNeg, Int.reduceAdd, Int.reduceSub, reduceIte, decide_true, decide_false, Option.some.injEq, isV_var, isV_int, isV_str, isV_bl, isV_non, isV_glb, isV_tup, isV_lst, isV_bin, isV_neg, isV_cmp, isV_chn, isV_and, isV_or, isV_not, isV_ite, isV_idx, isV_slc, isV_call, isV_blt, isV_isi, isV_mth, isV_exf, isV_comp, isV_dct, isV_itl, tupE_var, tupE_int, tupE_str, tupE_bl, tupE_non, tupE_glb, tupE_tup, tupE_lst, tupE_bin, tupE_neg, tupE_cmp, tupE_chn, tupE_and, tupE_or, tupE_not, tupE_ite, tupE_idx, tupE_slc, tupE_call, tupE_blt, tupE_isi, tupE_mth, tupE_exf, tupE_comp, tupE_dct, tupE_itl, pc_calm, pc_exn, pc_free, pc_wf, pl_calm, pl_exn, pl_free, pl_wf, pc_pu, pl_pu, pc0_own, pc0_mf, pc1_own, pc1_mf, pc2_own, pc2_mf, pc3_own, pc3_mf, pc4_own, pc4_mf, pc5_own, pc5_mf, pc6_own, pc6_mf, pc7_own, pc7_mf, pc8_own, pc8_mf, pc9_own, pc9_mf, pc10_own, pc10_mf, pc11_own, pc11_mf, pc12_own, pc12_mf, pc13_own, pc13_mf, pc14_own, pc14_mf, pc15_own, pc15_mf, pc16_own, pc16_mf, pc17_own, pc17_mf, pc18_own, pc18_mf, pl18_own, pl18_mf, pc_has0, pc_call0, pc_fr0, pc_has1, pc_call1, pc_fr1, pc_has2, pc_call2, pc_fr2, pc_has3, pc_call3, pc_fr3, pc_has4, pc_call4, pc_fr4, pc_has5, pc_call5, pc_fr5, pc_has6, pc_call6, pc_fr6, pc_has7, pc_call7, pc_fr7, pc_has8, pc_call8, pc_fr8, pc_has9, pc_call9, pc_fr9, pc_has10, pc_call10, pc_fr10, pc_has11, pc_call11, pc_fr11, pc_has12, pc_call12, pc_fr12, pc_has13, pc_call13, pc_fr13, pc_has14, pc_call14, pc_fr14, pc_has15, pc_call15, pc_fr15, pc_has16, pc_call16, pc_fr16, pc_has17, pc_call17, pc_fr17, pc_has18, pc_call18, pc_fr18, pc_glb20, pc_glb19, pc_glb21, pc_glb22, pc_cdt22, pl_has0, pl_call0, pl_fr0, pl_has1, pl_call1, pl_fr1, pl_has2, pl_call2, pl_fr2, pl_has3, pl_call3, pl_fr3, pl_has4, pl_call4, pl_fr4, pl_has5, pl_call5, pl_fr5, pl_has6, pl_call6, pl_fr6, pl_has7, pl_call7, pl_fr7, pl_has8, pl_call8, pl_fr8, pl_has9, pl_call9, pl_fr9, pl_has10, pl_call10, pl_fr10, pl_has11, pl_call11, pl_fr11, pl_has12, pl_call12, pl_fr12, pl_has13, pl_call13, pl_fr13, pl_has14, pl_call14, pl_fr14, pl_has15, pl_call15, pl_fr15, pl_has16, pl_call16, pl_fr16, pl_has17, pl_call17, pl_fr17, pl_has18, pl_call18, pl_fr18, pl_glb20, pl_glb19, pl_glb21, pl_glb22, pl_cdt22, peq_str, lit_n, lit_h, one_eq, h2, e1, decide_true, N_MOST_KIND, e_whole k v 0 5 σ hv, fmT]
    · by_cases h3 : c = 119
      · have e1 : decide ((119 : Nat) = 110) = false := rfl
        have e2 : decide ((119 : Nat) = 104) = false := rfl
        simp only [↓pev_comp, ↓pex_for, ↓pex_whl, pexs, pex, pev, pevs, ppks, pevi, pevo, ptst, pevp, plook, psrc_str, psrc_tup, psrc_lst, List.map, List.replicate, List.cons_append, List.nil_append, Nat.sub_self, List.append_nil, Nat.reduceSub, Nat.reduceAdd, List.getElem?_cons_zero, List.getElem?_cons_succ, pbd_rt, pbd_ok, pbd_none, pup_some, pup_none, Option.map_some, Option.map_none, Option.isNone_none, Option.isNone_some, psE_rt, psE_ok, psE_none, psQ_nx, psQ_rt, psQ_bk, psQ_ct, pnoex_rt, if_true, if_false, Bool.false_eq_true, Bool.true_and, Bool.and_true, Bool.false_and, Bool.and_false, Bool.true_or, Bool.false_or, ne_eq, reduceCtorEq, not_false_eq_true, List.set_cons_zero, List.set_cons_succ, pendOf_rt, pendOf_nx, ptru_bl, ptru_int, Bool.not_true, Bool.not_false, Bool.and_self, Bool.or_false, Bool.or_true, not_true_eq_false, ptg, pwipe, pmE_call, pmE_app, pmE_ext, pmE_ins, pmE_clr, frE_lst, frE_list, frE_dict, frE_comp, frE_dct, frE_itl, frE_slc, frE_add, frE_spl, frE_call, frE_ite, isLD, List.all_cons, List.all_nil, Nat.reduceBEq, Nat.reduceEqDiff, Int.reduceEq, Int.reduceLT, Int.reduceLE, Int.reduceNeg, Int.reduceAdd, Int.reduceSub, reduceIte, decide_true, decide_false, Option.some.injEq, isV_var, isV_int, isV_str, isV_bl, isV_non, isV_glb, isV_tup, isV_lst, isV_bin, isV_neg, isV_cmp, isV_chn, isV_and, isV_or, isV_not, isV_ite, isV_idx, isV_slc, isV_call, isV_blt, isV_isi, isV_mth, isV_exf, isV_comp, isV_dct, isV_itl, tupE_var, tupE_int, tupE_str, tupE_bl, tupE_non, tupE_glb, tupE_tup, tupE_lst, tupE_bin, tupE_neg, tupE_cmp, tupE_chn, tupE_and, tupE_or, tupE_not, tupE_ite, tupE_idx, tupE_slc, tupE_call, tupE_blt, tupE_isi, tupE_mth, tupE_exf, tupE_comp, tupE_dct, tupE_itl, pc_calm, pc_exn, pc_free, pc_wf, pl_calm, pl_exn, pl_free, pl_wf, pc_pu, pl_pu, pc0_own, pc0_mf, pc1_own, pc1_mf, pc2_own, pc2_mf, pc3_own, pc3_mf, pc4_own, pc4_mf, pc5_own, pc5_mf, pc6_own, pc6_mf, pc7_own, pc7_mf, pc8_own, pc8_mf, pc9_own, pc9_mf, pc10_own, pc10_mf, pc11_own, pc11_mf, pc12_own, pc12_mf, pc13_own, pc13_mf, pc14_own, pc14_mf, pc15_own, pc15_mf, pc16_own, pc16_mf, pc17_own, pc17_mf, pc18_own, pc18_mf, pl18_own, pl18_mf, pc_has0, pc_call0, pc_fr0, pc_has1, pc_call1, pc_fr1, pc_has2, pc_call2, pc_fr2, pc_has3, pc_call3, pc_fr3, pc_has4, pc_call4, pc_fr4, pc_has5, pc_call5, pc_fr5, pc_has6, pc_call6, pc_fr6, pc_has7, pc_call7, pc_fr7, pc_has8, pc_call8, pc_fr8, pc_has9, pc_call9, pc_fr9, pc_has10, pc_call10, pc_fr10, pc_has11, pc_call11, pc_fr11, pc_has12, pc_call12, pc_fr12, pc_has13, pc_call13, pc_fr13, pc_has14, pc_call14, pc_fr14, pc_has15, pc_call15, pc_fr15, pc_has16, pc_call16, pc_fr16, pc_has17, pc_call17, pc_fr17, pc_has18, pc_call18, pc_fr18, pc_glb20, pc_glb19, pc_glb21, pc_glb22, pc_cdt22, pl_has0, pl_call0, pl_fr0, pl_has1, pl_call1, pl_fr1, pl_has2, pl_call2, pl_fr2, pl_has3, pl_call3, pl_fr3, pl_has4, pl_call4, pl_fr4, pl_has5, pl_call5, pl_fr5, pl_has6, pl_call6, pl_fr6, pl_has7, pl_call7, pl_fr7, pl_has8, pl_call8, pl_fr8, pl_has9, pl_call9, pl_fr9, pl_has10, pl_call10, pl_fr10, pl_has11, pl_call11, pl_fr11, pl_has12, pl_call12, pl_fr12, pl_has13, pl_call13, pl_fr13, pl_has14, pl_call14, pl_fr14, pl_has15, pl_call15, pl_fr15, pl_has16, pl_call16, pl_fr16, pl_has17, pl_call17, pl_fr17, pl_has18, pl_call18, pl_fr18, pl_glb20, pl_glb19, pl_glb21, pl_glb22, pl_cdt22, peq_str, lit_n, lit_h, lit_w, one_eq, h3, e1, e2, decide_true, e_name k v σ hv (gv_str g), fmT]
      · simp only [↓pev_comp, ↓pex_for, ↓pex_whl, pexs, pex, pev, pevs, ppks, pevi, pevo, ptst, pevp, plook, psrc_str, psrc_tup, psrc_lst, List.map, List.replicate, List.cons_append, List.nil_append, Nat.sub_self, List.append_nil, Nat.reduceSub, Nat.reduceAdd, List.getElem?_cons_zero, List.getElem?_cons_succ, pbd_rt, pbd_ok, pbd_none, pup_some, pup_none, Option.map_some, Option.map_none, Option.isNone_none, Option.isNone_some, psE_rt, psE_ok, psE_none, psQ_nx, psQ_rt, psQ_bk, psQ_ct, pnoex_rt, if_true, if_false, Bool.false_eq_true, Bool.true_and, Bool.and_true, Bool.false_and, Bool.and_false, Bool.true_or, Bool.false_or, ne_eq, reduceCtorEq, not_false_eq_true, List.set_cons_zero, List.set_cons_succ, pendOf_rt, pendOf_nx, ptru_bl, ptru_int, Bool.not_true, Bool.not_false, Bool.and_self, Bool.or_false, Bool.or_true, not_true_eq_false, ptg, pwipe, pmE_call, pmE_app, pmE_ext, pmE_ins, pmE_clr, frE_lst, frE_list, frE_dict, frE_comp, frE_dct, frE_itl, frE_slc, frE_add, frE_spl, frE_call, frE_ite, isLD, List.all_cons, List.all_nil, Nat.reduceBEq, Nat.reduceEqDiff, Int.reduceEq, Int.reduceLT, Int.reduceLE, Int.reduceNeg, Int.reduceAdd, Int.reduceSub, reduceIte, decide_true, decide_false, Option.some.injEq, isV_var, isV_int, isV_str, isV_bl, isV_non, isV_glb, isV_tup, isV_lst, isV_bin, isV_neg, isV_cmp, isV_chn, isV_and, isV_or, isV_not, isV_ite, isV_idx, isV_slc, isV_call, isV_blt, isV_isi, isV_mth, isV_exf, isV_comp, isV_dct, isV_itl, tupE_var, tupE_int, tupE_str, tupE_bl, tupE_non, tupE_glb, tupE_tup, tupE_lst, tupE_bin, tupE_neg, tupE_cmp, tupE_chn, tupE_and, tupE_or, tupE_not, tupE_ite, tupE_idx, tupE_slc, tupE_call, tupE_blt, tupE_isi, tupE_mth, tupE_exf, tupE_comp, tupE_dct, tupE_itl, pc_calm, pc_exn, pc_free, pc_wf, pl_calm, pl_exn, pl_free, pl_wf, pc_pu, pl_pu, pc0_own, pc0_mf, pc1_own, pc1_mf, pc2_own, pc2_mf, pc3_own, pc3_mf, pc4_own, pc4_mf, pc5_own, pc5_mf, pc6_own, pc6_mf, pc7_own, pc7_mf, pc8_own, pc8_mf, pc9_own, pc9_mf, pc10_own, pc10_mf, pc11_own, pc11_mf, pc12_own, pc12_mf, pc13_own, pc13_mf, pc14_own, pc14_mf, pc15_own, pc15_mf, pc16_own, pc16_mf, pc17_own, pc17_mf, pc18_own, pc18_mf, pl18_own, pl18_mf, pc_has0, pc_call0, pc_fr0, pc_has1, pc_call1, pc_fr1, pc_has2, pc_call2, pc_fr2, pc_has3, pc_call3, pc_fr3, pc_has4, pc_call4, pc_fr4, pc_has5, pc_call5, pc_fr5, pc_has6, pc_call6, pc_fr6, pc_has7, pc_call7, pc_fr7, pc_has8, pc_call8, pc_fr8, pc_has9, pc_call9, pc_fr9, pc_has10, pc_call10, pc_fr10, pc_has11, pc_call11, pc_fr11, pc_has12, pc_call12, pc_fr12, pc_has13, pc_call13, pc_fr13, pc_has14, pc_call14, pc_fr14, pc_has15, pc_call15, pc_fr15, pc_has16, pc_call16, pc_fr16, pc_has17, pc_call17, pc_fr17, pc_has18, pc_call18, pc_fr18, pc_glb20, pc_glb19, pc_glb21, pc_glb22, pc_cdt22, pl_has0, pl_call0, pl_fr0, pl_has1, pl_call1, pl_fr1, pl_has2, pl_call2, pl_fr2, pl_has3, pl_call3, pl_fr3, pl_has4, pl_call4, pl_fr4, pl_has5, pl_call5, pl_fr5, pl_has6, pl_call6, pl_fr6, pl_has7, pl_call7, pl_fr7, pl_has8, pl_call8, pl_fr8, pl_has9, pl_call9, pl_fr9, pl_has10, pl_call10, pl_fr10, pl_has11, pl_call11, pl_fr11, pl_has12, pl_call12, pl_fr12, pl_has13, pl_call13, pl_fr13, pl_has14, pl_call14, pl_fr14, pl_has15, pl_call15, pl_fr15, pl_has16, pl_call16, pl_fr16, pl_has17, pl_call17, pl_fr17, pl_has18, pl_call18, pl_fr18, pl_glb20, pl_glb19, pl_glb21, pl_glb22, pl_cdt22, peq_str, lit_n, lit_h, lit_w, one_eq, h1, h2, h3, decide_false, ht, fmT]
theorem e_term : ∀ (n k : Nat), 2 * n + 4 ≤ k → ∀ (v : V) (σ : PS), dep v ≤ n → gv v = true → Mi.pv T D k 4 [v] σ = prt (.bl (isT v)) σ := by
  intro n
  induction n with
  | zero => intro k hk v σ hd g; cases v <;> simp [dep] at hd
  | succ n ih =>
    intro k hk v σ hd g
    obtain ⟨k, rfl⟩ : ∃ j, k = j + 2 := ⟨k - 2, by omega⟩
    rw [pv_s (k + 1) 4 _ σ m_is_term rfl rfl rfl]
    simp only [m_is_term]
    have hv := gv_isD g
    cases v with
    | tup xs =>
      cases xs with
      | nil => simp only [↓pev_comp, ↓pex_for, ↓pex_whl, pexs, pex, pev, pevs, ppks, pevi, pevo, ptst, pevp, plook, psrc_str, psrc_tup, psrc_lst, List.map, List.replicate, List.cons_append, List.nil_append, Nat.sub_self, List.append_nil, Nat.reduceSub, Nat.reduceAdd, List.getElem?_cons_zero, List.getElem?_cons_succ, pbd_rt, pbd_ok, pbd_none, pup_some, pup_none, Option.map_some, Option.map_none, Option.isNone_none, Option.isNone_some, psE_rt, psE_ok, psE_none, psQ_nx, psQ_rt, psQ_bk, psQ_ct, pnoex_rt, if_true, if_false, Bool.false_eq_true, Bool.true_and, Bool.and_true, Bool.false_and, Bool.and_false, Bool.true_or, Bool.false_or, ne_eq, reduceCtorEq, not_false_eq_true, List.set_cons_zero, List.set_cons_succ, pendOf_rt, pendOf_nx, ptru_bl, ptru_int, Bool.not_true, Bool.not_false, Bool.and_self, Bool.or_false, Bool.or_true, not_true_eq_false, ptg, pwipe, pmE_call, pmE_app, pmE_ext, pmE_ins, pmE_clr, frE_lst, frE_list, frE_dict, frE_comp, frE_dct, frE_itl, frE_slc, frE_add, frE_spl, frE_call, frE_ite, isLD, List.all_cons, List.all_nil, Nat.reduceBEq, Nat.reduceEqDiff, Int.reduceEq, Int.reduceLT, Int.reduceLE, Int.reduceNeg, Int.reduceAdd, Int.reduceSub, reduceIte, decide_true, decide_false, Option.some.injEq, isV_var, isV_int, isV_str, isV_bl, isV_non, isV_glb, isV_tup, isV_lst, isV_bin, isV_neg, isV_cmp, isV_chn, isV_and, isV_or, isV_not, isV_ite, isV_idx, isV_slc, isV_call, isV_blt, isV_isi, isV_mth, isV_exf, isV_comp, isV_dct, isV_itl, tupE_var, tupE_int, tupE_str, tupE_bl, tupE_non, tupE_glb, tupE_tup, tupE_lst, tupE_bin, tupE_neg, tupE_cmp, tupE_chn, tupE_and, tupE_or, tupE_not, tupE_ite, tupE_idx, tupE_slc, tupE_call, tupE_blt, tupE_isi, tupE_mth, tupE_exf, tupE_comp, tupE_dct, tupE_itl, pc_calm, pc_exn, pc_free, pc_wf, pl_calm, pl_exn, pl_free, pl_wf, pc_pu, pl_pu, pc0_own, pc0_mf, pc1_own, pc1_mf, pc2_own, pc2_mf, pc3_own, pc3_mf, pc4_own, pc4_mf, pc5_own, pc5_mf, pc6_own, pc6_mf, pc7_own, pc7_mf, pc8_own, pc8_mf, pc9_own, pc9_mf, pc10_own, pc10_mf, pc11_own, pc11_mf, pc12_own, pc12_mf, pc13_own, pc13_mf, pc14_own, pc14_mf, pc15_own, pc15_mf, pc16_own, pc16_mf, pc17_own, pc17_mf, pc18_own, pc18_mf, pl18_own, pl18_mf, pc_has0, pc_call0, pc_fr0, pc_has1, pc_call1, pc_fr1, pc_has2, pc_call2, pc_fr2, pc_has3, pc_call3, pc_fr3, pc_has4, pc_call4, pc_fr4, pc_has5, pc_call5, pc_fr5, pc_has6, pc_call6, pc_fr6, pc_has7, pc_call7, pc_fr7, pc_has8, pc_call8, pc_fr8, pc_has9, pc_call9, pc_fr9, pc_has10, pc_call10, pc_fr10, pc_has11, pc_call11, pc_fr11, pc_has12, pc_call12, pc_fr12, pc_has13, pc_call13, pc_fr13, pc_has14, pc_call14, pc_fr14, pc_has15, pc_call15, pc_fr15, pc_has16, pc_call16, pc_fr16, pc_has17, pc_call17, pc_fr17, pc_has18, pc_call18, pc_fr18, pc_glb20, pc_glb19, pc_glb21, pc_glb22, pc_cdt22, pl_has0, pl_call0, pl_fr0, pl_has1, pl_call1, pl_fr1, pl_has2, pl_call2, pl_fr2, pl_has3, pl_call3, pl_fr3, pl_has4, pl_call4, pl_fr4, pl_has5, pl_call5, pl_fr5, pl_has6, pl_call6, pl_fr6, pl_has7, pl_call7, pl_fr7, pl_has8, pl_call8, pl_fr8, pl_has9, pl_call9, pl_fr9, pl_has10, pl_call10, pl_fr10, pl_has11, pl_call11, pl_fr11, pl_has12, pl_call12, pl_fr12, pl_has13, pl_call13, pl_fr13, pl_has14, pl_call14, pl_fr14, pl_has15, pl_call15, pl_fr15, pl_has16, pl_call16, pl_fr16, pl_has17, pl_call17, pl_fr17, pl_has18, pl_call18, pl_fr18, pl_glb20, pl_glb19, pl_glb21, pl_glb22, pl_cdt22, pisi_d hv, tyP, plen_tup, List.length_nil, peq_int, Int.ofNat_zero, decide_true, isT]
      | cons x rest =>
        simp only [gv, gvs, Bool.and_eq_true] at g
        simp only [dep, deps] at hd
        have e0 : decide (((x :: rest).length : Int) = 0) = false := by simp; omega
        have a0 : L2.atI (x :: rest) 0 = some x := at_0 x rest
        cases x with
        | str s =>
          have hst := pisi_d (show isD (V.str s) = true from rfl)
          cases hf : kvGet FORMS s with
          | none =>
            simp only [↓pev_comp, ↓pex_for, ↓pex_whl, pexs, pex, pev, pevs, ppks, pevi, pevo, ptst, pevp, plook, psrc_str, psrc_tup, psrc_lst, List.map, List.replicate, List.cons_append, List.nil_append, Nat.sub_self, List.append_nil, Nat.reduceSub, Nat.reduceAdd, List.getElem?_cons_zero, List.getElem?_cons_succ, pbd_rt, pbd_ok, pbd_none, pup_some, pup_none, Option.map_some, Option.map_none, Option.isNone_none, Option.isNone_some, psE_rt, psE_ok, psE_none, psQ_nx, psQ_rt, psQ_bk, psQ_ct, pnoex_rt, if_true, if_false, Bool.false_eq_true, Bool.true_and, Bool.and_true, Bool.false_and, Bool.and_false, Bool.true_or, Bool.false_or, ne_eq, reduceCtorEq, not_false_eq_true, List.set_cons_zero, List.set_cons_succ, pendOf_rt, pendOf_nx, ptru_bl, ptru_int, Bool.not_true, Bool.not_false, Bool.and_self, Bool.or_false, Bool.or_true, not_true_eq_false, ptg, pwipe, pmE_call, pmE_app, pmE_ext, pmE_ins, pmE_clr, frE_lst, frE_list, frE_dict, frE_comp, frE_dct, frE_itl, frE_slc, frE_add, frE_spl, frE_call, frE_ite, isLD, List.all_cons, List.all_nil, Nat.reduceBEq, Nat.reduceEqDiff, Int.reduceEq, Int.reduceLT, Int.reduceLE, Int.reduceNeg, Int.reduceAdd, Int.reduceSub, reduceIte, decide_true, decide_false, Option.some.injEq, isV_var, isV_int, isV_str, isV_bl, isV_non, isV_glb, isV_tup, isV_lst, isV_bin, isV_neg, isV_cmp, isV_chn, isV_and, isV_or, isV_not, isV_ite, isV_idx, isV_slc, isV_call, isV_blt, isV_isi, isV_mth, isV_exf, isV_comp, isV_dct, isV_itl, tupE_var, tupE_int, tupE_str, tupE_bl, tupE_non, tupE_glb, tupE_tup, tupE_lst, tupE_bin, tupE_neg, tupE_cmp, tupE_chn, tupE_and, tupE_or, tupE_not, tupE_ite, tupE_idx, tupE_slc, tupE_call, tupE_blt, tupE_isi, tupE_mth, tupE_exf, tupE_comp, tupE_dct, tupE_itl, pc_calm, pc_exn, pc_free, pc_wf, pl_calm, pl_exn, pl_free, pl_wf, pc_pu, pl_pu, pc0_own, pc0_mf, pc1_own, pc1_mf, pc2_own, pc2_mf, pc3_own, pc3_mf, pc4_own, pc4_mf, pc5_own, pc5_mf, pc6_own, pc6_mf, pc7_own, pc7_mf, pc8_own, pc8_mf, pc9_own, pc9_mf, pc10_own, pc10_mf, pc11_own, pc11_mf, pc12_own, pc12_mf, pc13_own, pc13_mf, pc14_own, pc14_mf, pc15_own, pc15_mf, pc16_own, pc16_mf, pc17_own, pc17_mf, pc18_own, pc18_mf, pl18_own, pl18_mf, pc_has0, pc_call0, pc_fr0, pc_has1, pc_call1, pc_fr1, pc_has2, pc_call2, pc_fr2, pc_has3, pc_call3, pc_fr3, pc_has4, pc_call4, pc_fr4, pc_has5, pc_call5, pc_fr5, pc_has6, pc_call6, pc_fr6, pc_has7, pc_call7, pc_fr7, pc_has8, pc_call8, pc_fr8, pc_has9, pc_call9, pc_fr9, pc_has10, pc_call10, pc_fr10, pc_has11, pc_call11, pc_fr11, pc_has12, pc_call12, pc_fr12, pc_has13, pc_call13, pc_fr13, pc_has14, pc_call14, pc_fr14, pc_has15, pc_call15, pc_fr15, pc_has16, pc_call16, pc_fr16, pc_has17, pc_call17, pc_fr17, pc_has18, pc_call18, pc_fr18, pc_glb20, pc_glb19, pc_glb21, pc_glb22, pc_cdt22, pl_has0, pl_call0, pl_fr0, pl_has1, pl_call1, pl_fr1, pl_has2, pl_call2, pl_fr2, pl_has3, pl_call3, pl_fr3, pl_has4, pl_call4, pl_fr4, pl_has5, pl_call5, pl_fr5, pl_has6, pl_call6, pl_fr6, pl_has7, pl_call7, pl_fr7, pl_has8, pl_call8, pl_fr8, pl_has9, pl_call9, pl_fr9, pl_has10, pl_call10, pl_fr10, pl_has11, pl_call11, pl_fr11, pl_has12, pl_call12, pl_fr12, pl_has13, pl_call13, pl_fr13, pl_has14, pl_call14, pl_fr14, pl_has15, pl_call15, pl_fr15, pl_has16, pl_call16, pl_fr16, pl_has17, pl_call17, pl_fr17, pl_has18, pl_call18, pl_fr18, pl_glb20, pl_glb19, pl_glb21, pl_glb22, pl_cdt22, pisi_d hv, tyP, plen_tup, peq_int, e0, pget_tup, a0, hst, pnin_, pin_nm (pc_cdt22 (k + 1) 4), nFORMS, hf, Option.isSome_none, isT]
          | some v =>
            obtain ⟨f, rfl, hf3, hf4⟩ := forms_str hf
            have hfs : f.length ≤ sizeLine := Nat.le_trans hf3 (by decide)
            simp only [↓pev_comp, ↓pex_for, ↓pex_whl, pexs, pex, pev, pevs, ppks, pevi, pevo, ptst, pevp, plook, psrc_str, psrc_tup, psrc_lst, List.map, List.replicate, List.cons_append, List.nil_append, Nat.sub_self, List.append_nil, Nat.reduceSub, Nat.reduceAdd, List.getElem?_cons_zero, List.getElem?_cons_succ, pbd_rt, pbd_ok, pbd_none, pup_some, pup_none, Option.map_some, Option.map_none, Option.isNone_none, Option.isNone_some, psE_rt, psE_ok, psE_none, psQ_nx, psQ_rt, psQ_bk, psQ_ct, pnoex_rt, if_true, if_false, Bool.false_eq_true, Bool.true_and, Bool.and_true, Bool.false_and, Bool.and_false, Bool.true_or, Bool.false_or, ne_eq, reduceCtorEq, not_false_eq_true, List.set_cons_zero, List.set_cons_succ, pendOf_rt, pendOf_nx, ptru_bl, ptru_int, Bool.not_true, Bool.not_false, Bool.and_self, Bool.or_false, Bool.or_true, not_true_eq_false, ptg, pwipe, pmE_call, pmE_app, pmE_ext, pmE_ins, pmE_clr, frE_lst, frE_list, frE_dict, frE_comp, frE_dct, frE_itl, frE_slc, frE_add, frE_spl, frE_call, frE_ite, isLD, List.all_cons, List.all_nil, Nat.reduceBEq, Nat.reduceEqDiff, Int.reduceEq, Int.reduceLT, Int.reduceLE, Int.reduceNeg, Int.reduceAdd, Int.reduceSub, reduceIte, decide_true, decide_false, Option.some.injEq, isV_var, isV_int, isV_str, isV_bl, isV_non, isV_glb, isV_tup, isV_lst, isV_bin, isV_neg, isV_cmp, isV_chn, isV_and, isV_or, isV_not, isV_ite, isV_idx, isV_slc, isV_call, isV_blt, isV_isi, isV_mth, isV_exf, isV_comp, isV_dct, isV_itl, tupE_var, tupE_int, tupE_str, tupE_bl, tupE_non, tupE_glb, tupE_tup, tupE_lst, tupE_bin, tupE_neg, tupE_cmp, tupE_chn, tupE_and, tupE_or, tupE_not, tupE_ite, tupE_idx, tupE_slc, tupE_call, tupE_blt, tupE_isi, tupE_mth, tupE_exf, tupE_comp, tupE_dct, tupE_itl, pc_calm, pc_exn, pc_free, pc_wf, pl_calm, pl_exn, pl_free, pl_wf, pc_pu, pl_pu, pc0_own, pc0_mf, pc1_own, pc1_mf, pc2_own, pc2_mf, pc3_own, pc3_mf, pc4_own, pc4_mf, pc5_own, pc5_mf, pc6_own, pc6_mf, pc7_own, pc7_mf, pc8_own, pc8_mf, pc9_own, pc9_mf, pc10_own, pc10_mf, pc11_own, pc11_mf, pc12_own, pc12_mf, pc13_own, pc13_mf, pc14_own, pc14_mf, pc15_own, pc15_mf, pc16_own, pc16_mf, pc17_own, pc17_mf, pc18_own, pc18_mf, pl18_own, pl18_mf, pc_has0, pc_call0, pc_fr0, pc_has1, pc_call1, pc_fr1, pc_has2, pc_call2, pc_fr2, pc_has3, pc_call3, pc_fr3, pc_has4, pc_call4, pc_fr4, pc_has5, pc_call5, pc_fr5, pc_has6, pc_call6, pc_fr6, pc_has7, pc_call7, pc_fr7, pc_has8, pc_call8, pc_fr8, pc_has9, pc_call9, pc_fr9, pc_has10, pc_call10, pc_fr10, pc_has11, pc_call11, pc_fr11, pc_has12, pc_call12, pc_fr12, pc_has13, pc_call13, pc_fr13, pc_has14, pc_call14, pc_fr14, pc_has15, pc_call15, pc_fr15, pc_has16, pc_call16, pc_fr16, pc_has17, pc_call17, pc_fr17, pc_has18, pc_call18, pc_fr18, pc_glb20, pc_glb19, pc_glb21, pc_glb22, pc_cdt22, pl_has0, pl_call0, pl_fr0, pl_has1, pl_call1, pl_fr1, pl_has2, pl_call2, pl_fr2, pl_has3, pl_call3, pl_fr3, pl_has4, pl_call4, pl_fr4, pl_has5, pl_call5, pl_fr5, pl_has6, pl_call6, pl_fr6, pl_has7, pl_call7, pl_fr7, pl_has8, pl_call8, pl_fr8, pl_has9, pl_call9, pl_fr9, pl_has10, pl_call10, pl_fr10, pl_has11, pl_call11, pl_fr11, pl_has12, pl_call12, pl_fr12, pl_has13, pl_call13, pl_fr13, pl_has14, pl_call14, pl_fr14, pl_has15, pl_call15, pl_fr15, pl_has16, pl_call16, pl_fr16, pl_has17, pl_call17, pl_fr17, pl_has18, pl_call18, pl_fr18, pl_glb20, pl_glb19, pl_glb21, pl_glb22, pl_cdt22, pisi_d hv, tyP, plen_tup, peq_int, e0, pget_tup, a0, hst, pnin_, pin_nm (pc_cdt22 (k + 1) 4), nFORMS, hf, Option.isSome_some, pget_nm (pc_cdt22 (k + 1) 4), plen_str hfs, padd_int, pne_int]
            by_cases hl : rest.length = f.length
            · have hd : decide (((V.str s :: rest : List V).length : Int) = (f.length : Int) + 1) = true := by
                simp only [List.length_cons, decide_eq_true_eq]; omega
              simp only [↓pev_comp, ↓pex_for, ↓pex_whl, pexs, pex, pev, pevs, ppks, pevi, pevo, ptst, pevp, plook, psrc_str, psrc_tup, psrc_lst, List.map, List.replicate, List.cons_append, List.nil_append, Nat.sub_self, List.append_nil, Nat.reduceSub, Nat.reduceAdd, List.getElem?_cons_zero, List.getElem?_cons_succ, pbd_rt, pbd_ok, pbd_none, pup_some, pup_none, Option.map_some, Option.map_none, Option.isNone_none, Option.isNone_some, psE_rt, psE_ok, psE_none, psQ_nx, psQ_rt, psQ_bk, psQ_ct, pnoex_rt, if_true, if_false, Bool.false_eq_true, Bool.true_and, Bool.and_true, Bool.false_and, Bool.and_false, Bool.true_or, Bool.false_or, ne_eq, reduceCtorEq, not_false_eq_true, List.set_cons_zero, List.set_cons_succ, pendOf_rt, pendOf_nx, ptru_bl, ptru_int, Bool.not_true, Bool.not_false, Bool.and_self, Bool.or_false, Bool.or_true, not_true_eq_false, ptg, pwipe, pmE_call, pmE_app, pmE_ext, pmE_ins, pmE_clr, frE_lst, frE_list, frE_dict, frE_comp, frE_dct, frE_itl, frE_slc, frE_add, frE_spl, frE_call, frE_ite, isLD, List.all_cons, List.all_nil, Nat.reduceBEq, Nat.reduceEqDiff, Int.reduceEq, Int.reduceLT, Int.reduceLE, Int.reduceNeg, Int.reduceAdd, Int.reduceSub, reduceIte, decide_true, decide_false, Option.some.injEq, isV_var, isV_int, isV_str, isV_bl, isV_non, isV_glb, isV_tup, isV_lst, isV_bin, isV_neg, isV_cmp, isV_chn, isV_and, isV_or, isV_not, isV_ite, isV_idx, isV_slc, isV_call, isV_blt, isV_isi, isV_mth, isV_exf, isV_comp, isV_dct, isV_itl, tupE_var, tupE_int, tupE_str, tupE_bl, tupE_non, tupE_glb, tupE_tup, tupE_lst, tupE_bin, tupE_neg, tupE_cmp, tupE_chn, tupE_and, tupE_or, tupE_not, tupE_ite, tupE_idx, tupE_slc, tupE_call, tupE_blt, tupE_isi, tupE_mth, tupE_exf, tupE_comp, tupE_dct, tupE_itl, pc_calm, pc_exn, pc_free, pc_wf, pl_calm, pl_exn, pl_free, pl_wf, pc_pu, pl_pu, pc0_own, pc0_mf, pc1_own, pc1_mf, pc2_own, pc2_mf, pc3_own, pc3_mf, pc4_own, pc4_mf, pc5_own, pc5_mf, pc6_own, pc6_mf, pc7_own, pc7_mf, pc8_own, pc8_mf, pc9_own, pc9_mf, pc10_own, pc10_mf, pc11_own, pc11_mf, pc12_own, pc12_mf, pc13_own, pc13_mf, pc14_own, pc14_mf, pc15_own, pc15_mf, pc16_own, pc16_mf, pc17_own, pc17_mf, pc18_own, pc18_mf, pl18_own, pl18_mf, pc_has0, pc_call0, pc_fr0, pc_has1, pc_call1, pc_fr1, pc_has2, pc_call2, pc_fr2, pc_has3, pc_call3, pc_fr3, pc_has4, pc_call4, pc_fr4, pc_has5, pc_call5, pc_fr5, pc_has6, pc_call6, pc_fr6, pc_has7, pc_call7, pc_fr7, pc_has8, pc_call8, pc_fr8, pc_has9, pc_call9, pc_fr9, pc_has10, pc_call10, pc_fr10, pc_has11, pc_call11, pc_fr11, pc_has12, pc_call12, pc_fr12, pc_has13, pc_call13, pc_fr13, pc_has14, pc_call14, pc_fr14, pc_has15, pc_call15, pc_fr15, pc_has16, pc_call16, pc_fr16, pc_has17, pc_call17, pc_fr17, pc_has18, pc_call18, pc_fr18, pc_glb20, pc_glb19, pc_glb21, pc_glb22, pc_cdt22, pl_has0, pl_call0, pl_fr0, pl_has1, pl_call1, pl_fr1, pl_has2, pl_call2, pl_fr2, pl_has3, pl_call3, pl_fr3, pl_has4, pl_call4, pl_fr4, pl_has5, pl_call5, pl_fr5, pl_has6, pl_call6, pl_fr6, pl_has7, pl_call7, pl_fr7, pl_has8, pl_call8, pl_fr8, pl_has9, pl_call9, pl_fr9, pl_has10, pl_call10, pl_fr10, pl_has11, pl_call11, pl_fr11, pl_has12, pl_call12, pl_fr12, pl_has13, pl_call13, pl_fr13, pl_has14, pl_call14, pl_fr14, pl_has15, pl_call15, pl_fr15, pl_has16, pl_call16, pl_fr16, pl_has17, pl_call17, pl_fr17, pl_has18, pl_call18, pl_fr18, pl_glb20, pl_glb19, pl_glb21, pl_glb22, pl_cdt22, hd, pslc_1, Bool.or_false]
              rw [pzip_map, pcomp_map _ (fun p => .bl (fmT p.1 p.2))]
              · simp only [↓pev_comp, ↓pex_for, ↓pex_whl, pexs, pex, pev, pevs, ppks, pevi, pevo, ptst, pevp, plook, psrc_str, psrc_tup, psrc_lst, List.map, List.replicate, List.cons_append, List.nil_append, Nat.sub_self, List.append_nil, Nat.reduceSub, Nat.reduceAdd, List.getElem?_cons_zero, List.getElem?_cons_succ, pbd_rt, pbd_ok, pbd_none, pup_some, pup_none, Option.map_some, Option.map_none, Option.isNone_none, Option.isNone_some, psE_rt, psE_ok, psE_none, psQ_nx, psQ_rt, psQ_bk, psQ_ct, pnoex_rt, if_true, if_false, Bool.false_eq_true, Bool.true_and, Bool.and_true, Bool.false_and, Bool.and_false, Bool.true_or, Bool.false_or, ne_eq, reduceCtorEq, not_false_eq_true, List.set_cons_zero, List.set_cons_succ, pendOf_rt, pendOf_nx, ptru_bl, ptru_int, Bool.not_true, Bool.not_false, Bool.and_self, Bool.or_false, Bool.or_true, not_true_eq_false, ptg, pwipe, pmE_call, pmE_app, pmE_ext, pmE_ins, pmE_clr, frE_lst, frE_list, frE_dict, frE_comp, frE_dct, frE_itl, frE_slc, frE_add, frE_spl, frE_call, frE_ite, isLD, List.all_cons, List.all_nil, Nat.reduceBEq, Nat.reduceEqDiff, Int.reduceEq, Int.reduceLT, Int.reduceLE, Int.reduceNeg, Int.reduceAdd, Int.reduceSub, reduceIte, decide_true, decide_false, Option.some.injEq, isV_var, isV_int, isV_str, isV_bl, isV_non, isV_glb, isV_tup, isV_lst, isV_bin, isV_neg, isV_cmp, isV_chn, isV_and, isV_or, isV_not, isV_ite, isV_idx, isV_slc, isV_call, isV_blt, isV_isi, isV_mth, isV_exf, isV_comp, isV_dct, isV_itl, tupE_var, tupE_int, tupE_str, tupE_bl, tupE_non, tupE_glb, tupE_tup, tupE_lst, tupE_bin, tupE_neg, tupE_cmp, tupE_chn, tupE_and, tupE_or, tupE_not, tupE_ite, tupE_idx, tupE_slc, tupE_call, tupE_blt, tupE_isi, tupE_mth, tupE_exf, tupE_comp, tupE_dct, tupE_itl, pc_calm, pc_exn, pc_free, pc_wf, pl_calm, pl_exn, pl_free, pl_wf, pc_pu, pl_pu, pc0_own, pc0_mf, pc1_own, pc1_mf, pc2_own, pc2_mf, pc3_own, pc3_mf, pc4_own, pc4_mf, pc5_own, pc5_mf, pc6_own, pc6_mf, pc7_own, pc7_mf, pc8_own, pc8_mf, pc9_own, pc9_mf, pc10_own, pc10_mf, pc11_own, pc11_mf, pc12_own, pc12_mf, pc13_own, pc13_mf, pc14_own, pc14_mf, pc15_own, pc15_mf, pc16_own, pc16_mf, pc17_own, pc17_mf, pc18_own, pc18_mf, pl18_own, pl18_mf, pc_has0, pc_call0, pc_fr0, pc_has1, pc_call1, pc_fr1, pc_has2, pc_call2, pc_fr2, pc_has3, pc_call3, pc_fr3, pc_has4, pc_call4, pc_fr4, pc_has5, pc_call5, pc_fr5, pc_has6, pc_call6, pc_fr6, pc_has7, pc_call7, pc_fr7, pc_has8, pc_call8, pc_fr8, pc_has9, pc_call9, pc_fr9, pc_has10, pc_call10, pc_fr10, pc_has11, pc_call11, pc_fr11, pc_has12, pc_call12, pc_fr12, pc_has13, pc_call13, pc_fr13, pc_has14, pc_call14, pc_fr14, pc_has15, pc_call15, pc_fr15, pc_has16, pc_call16, pc_fr16, pc_has17, pc_call17, pc_fr17, pc_has18, pc_call18, pc_fr18, pc_glb20, pc_glb19, pc_glb21, pc_glb22, pc_cdt22, pl_has0, pl_call0, pl_fr0, pl_has1, pl_call1, pl_fr1, pl_has2, pl_call2, pl_fr2, pl_has3, pl_call3, pl_fr3, pl_has4, pl_call4, pl_fr4, pl_has5, pl_call5, pl_fr5, pl_has6, pl_call6, pl_fr6, pl_has7, pl_call7, pl_fr7, pl_has8, pl_call8, pl_fr8, pl_has9, pl_call9, pl_fr9, pl_has10, pl_call10, pl_fr10, pl_has11, pl_call11, pl_fr11, pl_has12, pl_call12, pl_fr12, pl_has13, pl_call13, pl_fr13, pl_has14, pl_call14, pl_fr14, pl_has15, pl_call15, pl_fr15, pl_has16, pl_call16, pl_fr16, pl_has17, pl_call17, pl_fr17, pl_has18, pl_call18, pl_fr18, pl_glb20, pl_glb19, pl_glb21, pl_glb22, pl_cdt22, pall_bl (pc_calm (k + 1) 4), isT, hf, isTs_zip, str_len, hl, decide_true]
              · rw [List.length_zip, str_len]; omega
              · rintro ⟨c, w⟩ hp
                have hw : w ∈ rest := (List.of_mem_zip hp).2
                have gw := gvs_mem g.2 w hw
                have dw := deps_mem hw
                simp only [pcmpF]
                simp only [↓pev_comp, ↓pex_for, ↓pex_whl, pexs, pex, pev, pevs, ppks, pevi, pevo, ptst, pevp, plook, psrc_str, psrc_tup, psrc_lst, List.map, List.replicate, List.cons_append, List.nil_append, Nat.sub_self, List.append_nil, Nat.reduceSub, Nat.reduceAdd, List.getElem?_cons_zero, List.getElem?_cons_succ, pbd_rt, pbd_ok, pbd_none, pup_some, pup_none, Option.map_some, Option.map_none, Option.isNone_none, Option.isNone_some, psE_rt, psE_ok, psE_none, psQ_nx, psQ_rt, psQ_bk, psQ_ct, pnoex_rt, if_true, if_false, Bool.false_eq_true, Bool.true_and, Bool.and_true, Bool.false_and, Bool.and_false, Bool.true_or, Bool.false_or, ne_eq, reduceCtorEq, not_false_eq_true, List.set_cons_zero, List.set_cons_succ, pendOf_rt, pendOf_nx, ptru_bl, ptru_int, Bool.not_true, Bool.not_false, Bool.and_self, Bool.or_false, Bool.or_true, not_true_eq_false, ptg, pwipe, pmE_call, pmE_app, pmE_ext, pmE_ins, pmE_clr, frE_lst, frE_list, frE_dict, frE_comp, frE_dct, frE_itl, frE_slc, frE_add, frE_spl, frE_call, frE_ite, isLD, List.all_cons, List.all_nil, Nat.reduceBEq, Nat.reduceEqDiff, Int.reduceEq, Int.reduceLT, Int.reduceLE, Int.reduceNeg, Int.reduceAdd, Int.reduceSub, reduceIte, decide_true, decide_false, Option.some.injEq, isV_var, isV_int, isV_str, isV_bl, isV_non, isV_glb, isV_tup, isV_lst, isV_bin, isV_neg, isV_cmp, isV_chn, isV_and, isV_or, isV_not, isV_ite, isV_idx, isV_slc, isV_call, isV_blt, isV_isi, isV_mth, isV_exf, isV_comp, isV_dct, isV_itl, tupE_var, tupE_int, tupE_str, tupE_bl, tupE_non, tupE_glb, tupE_tup, tupE_lst, tupE_bin, tupE_neg, tupE_cmp, tupE_chn, tupE_and, tupE_or, tupE_not, tupE_ite, tupE_idx, tupE_slc, tupE_call, tupE_blt, tupE_isi, tupE_mth, tupE_exf, tupE_comp, tupE_dct, tupE_itl, pc_calm, pc_exn, pc_free, pc_wf, pl_calm, pl_exn, pl_free, pl_wf, pc_pu, pl_pu, pc0_own, pc0_mf, pc1_own, pc1_mf, pc2_own, pc2_mf, pc3_own, pc3_mf, pc4_own, pc4_mf, pc5_own, pc5_mf, pc6_own, pc6_mf, pc7_own, pc7_mf, pc8_own, pc8_mf, pc9_own, pc9_mf, pc10_own, pc10_mf, pc11_own, pc11_mf, pc12_own, pc12_mf, pc13_own, pc13_mf, pc14_own, pc14_mf, pc15_own, pc15_mf, pc16_own, pc16_mf, pc17_own, pc17_mf, pc18_own, pc18_mf, pl18_own, pl18_mf, pc_has0, pc_call0, pc_fr0, pc_has1, pc_call1, pc_fr1, pc_has2, pc_call2, pc_fr2, pc_has3, pc_call3, pc_fr3, pc_has4, pc_call4, pc_fr4, pc_has5, pc_call5, pc_fr5, pc_has6, pc_call6, pc_fr6, pc_has7, pc_call7, pc_fr7, pc_has8, pc_call8, pc_fr8, pc_has9, pc_call9, pc_fr9, pc_has10, pc_call10, pc_fr10, pc_has11, pc_call11, pc_fr11, pc_has12, pc_call12, pc_fr12, pc_has13, pc_call13, pc_fr13, pc_has14, pc_call14, pc_fr14, pc_has15, pc_call15, pc_fr15, pc_has16, pc_call16, pc_fr16, pc_has17, pc_call17, pc_fr17, pc_has18, pc_call18, pc_fr18, pc_glb20, pc_glb19, pc_glb21, pc_glb22, pc_cdt22, pl_has0, pl_call0, pl_fr0, pl_has1, pl_call1, pl_fr1, pl_has2, pl_call2, pl_fr2, pl_has3, pl_call3, pl_fr3, pl_has4, pl_call4, pl_fr4, pl_has5, pl_call5, pl_fr5, pl_has6, pl_call6, pl_fr6, pl_has7, pl_call7, pl_fr7, pl_has8, pl_call8, pl_fr8, pl_has9, pl_call9, pl_fr9, pl_has10, pl_call10, pl_fr10, pl_has11, pl_call11, pl_fr11, pl_has12, pl_call12, pl_fr12, pl_has13, pl_call13, pl_fr13, pl_has14, pl_call14, pl_fr14, pl_has15, pl_call15, pl_fr15, pl_has16, pl_call16, pl_fr16, pl_has17, pl_call17, pl_fr17, pl_has18, pl_call18, pl_fr18, pl_glb20, pl_glb19, pl_glb21, pl_glb22, pl_cdt22, List.length_cons, List.length_nil, and_self, pSet, e_form (by omega : 2 ≤ k) c w σ gw (ih k (by omega) w σ (by omega) gw)]
            · have hd : decide (((V.str s :: rest : List V).length : Int) = (f.length : Int) + 1) = false := by
                simp only [List.length_cons, decide_eq_false_iff_not]; omega
              simp only [↓pev_comp, ↓pex_for, ↓pex_whl, pexs, pex, pev, pevs, ppks, pevi, pevo, ptst, pevp, plook, psrc_str, psrc_tup, psrc_lst, List.map, List.replicate, List.cons_append, List.nil_append, Nat.sub_self, List.append_nil, Nat.reduceSub, Nat.reduceAdd, List.getElem?_cons_zero, List.getElem?_cons_succ, pbd_rt, pbd_ok, pbd_none, pup_some, pup_none, Option.map_some, Option.map_none, Option.isNone_none, Option.isNone_some, psE_rt, psE_ok, psE_none, psQ_nx, psQ_rt, psQ_bk, psQ_ct, pnoex_rt, if_true, if_false, Bool.false_eq_true, Bool.true_and, Bool.and_true, Bool.false_and, Bool.and_false, Bool.true_or, Bool.false_or, ne_eq, reduceCtorEq, not_false_eq_true, List.set_cons_zero, List.set_cons_succ, pendOf_rt, pendOf_nx, ptru_bl, ptru_int, Bool.not_true, Bool.not_false, Bool.and_self, Bool.or_false, Bool.or_true, not_true_eq_false, ptg, pwipe, pmE_call, pmE_app, pmE_ext, pmE_ins, pmE_clr, frE_lst, frE_list, frE_dict, frE_comp, frE_dct, frE_itl, frE_slc, frE_add, frE_spl, frE_call, frE_ite, isLD, List.all_cons, List.all_nil, Nat.reduceBEq, Nat.reduceEqDiff, Int.reduceEq, Int.reduceLT, Int.reduceLE, Int.reduceNeg, Int.reduceAdd, Int.reduceSub, reduceIte, decide_true, decide_false, Option.some.injEq, isV_var, isV_int, isV_str, isV_bl, isV_non, isV_glb, isV_tup, isV_lst, isV_bin, isV_neg, isV_cmp, isV_chn, isV_and, isV_or, isV_not, isV_ite, isV_idx, isV_slc, isV_call, isV_blt, isV_isi, isV_mth, isV_exf, isV_comp, isV_dct, isV_itl, tupE_var, tupE_int, tupE_str, tupE_bl, tupE_non, tupE_glb, tupE_tup, tupE_lst, tupE_bin, tupE_neg, tupE_cmp, tupE_chn, tupE_and, tupE_or, tupE_not, tupE_ite, tupE_idx, tupE_slc, tupE_call, tupE_blt, tupE_isi, tupE_mth, tupE_exf, tupE_comp, tupE_dct, tupE_itl, pc_calm, pc_exn, pc_free, pc_wf, pl_calm, pl_exn, pl_free, pl_wf, pc_pu, pl_pu, pc0_own, pc0_mf, pc1_own, pc1_mf, pc2_own, pc2_mf, pc3_own, pc3_mf, pc4_own, pc4_mf, pc5_own, pc5_mf, pc6_own, pc6_mf, pc7_own, pc7_mf, pc8_own, pc8_mf, pc9_own, pc9_mf, pc10_own, pc10_mf, pc11_own, pc11_mf, pc12_own, pc12_mf, pc13_own, pc13_mf, pc14_own, pc14_mf, pc15_own, pc15_mf, pc16_own, pc16_mf, pc17_own, pc17_mf, pc18_own, pc18_mf, pl18_own, pl18_mf, pc_has0, pc_call0, pc_fr0, pc_has1, pc_call1, pc_fr1, pc_has2, pc_call2, pc_fr2, pc_has3, pc_call3, pc_fr3, pc_has4, pc_call4, pc_fr4, pc_has5, pc_call5, pc_fr5, pc_has6, pc_call6, pc_fr6, pc_has7, pc_call7, pc_fr7, pc_has8, pc_call8, pc_fr8, pc_has9, pc_call9, pc_fr9, pc_has10, pc_call10, pc_fr10, pc_has11, pc_call11, pc_fr11, pc_has12, pc_call12, pc_fr12, pc_has13, pc_call13, pc_fr13, pc_has14, pc_call14, pc_fr14, pc_has15, pc_call15, pc_fr15, pc_has16, pc_call16, pc_fr16, pc_has17, pc_call17, pc_fr17, pc_has18, pc_call18, pc_fr18, pc_glb20, pc_glb19, pc_glb21, pc_glb22, pc_cdt22, pl_has0, pl_call0, pl_fr0, pl_has1, pl_call1, pl_fr1, pl_has2, pl_call2, pl_fr2, pl_has3, pl_call3, pl_fr3, pl_has4, pl_call4, pl_fr4, pl_has5, pl_call5, pl_fr5, pl_has6, pl_call6, pl_fr6, pl_has7, pl_call7, pl_fr7, pl_has8, pl_call8, pl_fr8, pl_has9, pl_call9, pl_fr9, pl_has10, pl_call10, pl_fr10, pl_has11, pl_call11, pl_fr11, pl_has12, pl_call12, pl_fr12, pl_has13, pl_call13, pl_fr13, pl_has14, pl_call14, pl_fr14, pl_has15, pl_call15, pl_fr15, pl_has16, pl_call16, pl_fr16, pl_has17, pl_call17, pl_fr17, pl_has18, pl_call18, pl_fr18, pl_glb20, pl_glb19, pl_glb21, pl_glb22, pl_cdt22, hd, isT, hf, isTs_zip, str_len, hl, decide_false]
        | _ =>
          simp only [↓pev_comp, ↓pex_for, ↓pex_whl, pexs, pex, pev, pevs, ppks, pevi, pevo, ptst, pevp, plook, psrc_str, psrc_tup, psrc_lst, List.map, List.replicate, List.cons_append, List.nil_append, Nat.sub_self, List.append_nil, Nat.reduceSub, Nat.reduceAdd, List.getElem?_cons_zero, List.getElem?_cons_succ, pbd_rt, pbd_ok, pbd_none, pup_some, pup_none, Option.map_some, Option.map_none, Option.isNone_none, Option.isNone_some, psE_rt, psE_ok, psE_none, psQ_nx, psQ_rt, psQ_bk, psQ_ct, pnoex_rt, if_true, if_false, Bool.false_eq_true, Bool.true_and, Bool.and_true, Bool.false_and, Bool.and_false, Bool.true_or, Bool.false_or, ne_eq, reduceCtorEq, not_false_eq_true, List.set_cons_zero, List.set_cons_succ, pendOf_rt, pendOf_nx, ptru_bl, ptru_int, Bool.not_true, Bool.not_false, Bool.and_self, Bool.or_false, Bool.or_true, not_true_eq_false, ptg, pwipe, pmE_call, pmE_app, pmE_ext, pmE_ins, pmE_clr, frE_lst, frE_list, frE_dict, frE_comp, frE_dct, frE_itl, frE_slc, frE_add, frE_spl, frE_call, frE_ite, isLD, List.all_cons, List.all_nil, Nat.reduceBEq, Nat.reduceEqDiff, Int.reduceEq, Int.reduceLT, Int.reduceLE, Int.reduceNeg, Int.reduceAdd, Int.reduceSub, reduceIte, decide_true, decide_false, Option.some.injEq, isV_var, isV_int, isV_str, isV_bl, isV_non, isV_glb, isV_tup, isV_lst, isV_bin, isV_neg, isV_cmp, isV_chn, isV_and, isV_or, isV_not, isV_ite, isV_idx, isV_slc, isV_call, isV_blt, isV_isi, isV_mth, isV_exf, isV_comp, isV_dct, isV_itl, tupE_var, tupE_int, tupE_str, tupE_bl, tupE_non, tupE_glb, tupE_tup, tupE_lst, tupE_bin, tupE_neg, tupE_cmp, tupE_chn, tupE_and, tupE_or, tupE_not, tupE_ite, tupE_idx, tupE_slc, tupE_call, tupE_blt, tupE_isi, tupE_mth, tupE_exf, tupE_comp, tupE_dct, tupE_itl, pc_calm, pc_exn, pc_free, pc_wf, pl_calm, pl_exn, pl_free, pl_wf, pc_pu, pl_pu, pc0_own, pc0_mf, pc1_own, pc1_mf, pc2_own, pc2_mf, pc3_own, pc3_mf, pc4_own, pc4_mf, pc5_own, pc5_mf, pc6_own, pc6_mf, pc7_own, pc7_mf, pc8_own, pc8_mf, pc9_own, pc9_mf, pc10_own, pc10_mf, pc11_own, pc11_mf, pc12_own, pc12_mf, pc13_own, pc13_mf, pc14_own, pc14_mf, pc15_own, pc15_mf, pc16_own, pc16_mf, pc17_own, pc17_mf, pc18_own, pc18_mf, pl18_own, pl18_mf, pc_has0, pc_call0, pc_fr0, pc_has1, pc_call1, pc_fr1, pc_has2, pc_call2, pc_fr2, pc_has3, pc_call3, pc_fr3, pc_has4, pc_call4, pc_fr4, pc_has5, pc_call5, pc_fr5, pc_has6, pc_call6, pc_fr6, pc_has7, pc_call7, pc_fr7, pc_has8, pc_call8, pc_fr8, pc_has9, pc_call9, pc_fr9, pc_has10, pc_call10, pc_fr10, pc_has11, pc_call11, pc_fr11, pc_has12, pc_call12, pc_fr12, pc_has13, pc_call13, pc_fr13, pc_has14, pc_call14, pc_fr14, pc_has15, pc_call15, pc_fr15, pc_has16, pc_call16, pc_fr16, pc_has17, pc_call17, pc_fr17, pc_has18, pc_call18, pc_fr18, pc_glb20, pc_glb19, pc_glb21, pc_glb22, pc_cdt22, pl_has0, pl_call0, pl_fr0, pl_has1, pl_call1, pl_fr1, pl_has2, pl_call2, pl_fr2, pl_has3, pl_call3, pl_fr3, pl_has4, pl_call4, pl_fr4, pl_has5, pl_call5, pl_fr5, pl_has6, pl_call6, pl_fr6, pl_has7, pl_call7, pl_fr7, pl_has8, pl_call8, pl_fr8, pl_has9, pl_call9, pl_fr9, pl_has10, pl_call10, pl_fr10, pl_has11, pl_call11, pl_fr11, pl_has12, pl_call12, pl_fr12, pl_has13, pl_call13, pl_fr13, pl_has14, pl_call14, pl_fr14, pl_has15, pl_call15, pl_fr15, pl_has16, pl_call16, pl_fr16, pl_has17, pl_call17, pl_fr17, pl_has18, pl_call18, pl_fr18, pl_glb20, pl_glb19, pl_glb21, pl_glb22, pl_cdt22, pisi_d hv, tyP, plen_tup, peq_int, e0, pget_tup, a0, pisi_d (gv_isD g.1), isT]
    | _ => simp only [↓pev_comp, ↓pex_for, ↓pex_whl, pexs, pex, pev, pevs, ppks, pevi, pevo, ptst, pevp, plook, psrc_str, psrc_tup, psrc_lst, List.map, List.replicate, List.cons_append, List.nil_append, Nat.sub_self, List.append_nil, Nat.reduceSub, Nat.reduceAdd, List.getElem?_cons_zero, List.getElem?_cons_succ, pbd_rt, pbd_ok, pbd_none, pup_some, pup_none, Option.map_some, Option.map_none, Option.isNone_none, Option.isNone_some, psE_rt, psE_ok, psE_none, psQ_nx, psQ_rt, psQ_bk, psQ_ct, pnoex_rt, if_true, if_false, Bool.false_eq_true, Bool.true_and, Bool.and_true, Bool.false_and, Bool.and_false, Bool.true_or, Bool.false_or, ne_eq, reduceCtorEq, not_false_eq_true, List.set_cons_zero, List.set_cons_succ, pendOf_rt, pendOf_nx, ptru_bl, ptru_int, Bool.not_true, Bool.not_false, Bool.and_self, Bool.or_false, Bool.or_true, not_true_eq_false, ptg, pwipe, pmE_call, pmE_app, pmE_ext, pmE_ins, pmE_clr, frE_lst, frE_list, frE_dict, frE_comp, frE_dct, frE_itl, frE_slc, frE_add, frE_spl, frE_call, frE_ite, isLD, List.all_cons, List.all_nil, Nat.reduceBEq, Nat.reduceEqDiff, Int.reduceEq, Int.reduceLT, Int.reduceLE, Int.reduceNeg, Int.reduceAdd, Int.reduceSub, reduceIte, decide_true, decide_false, Option.some.injEq, isV_var, isV_int, isV_str, isV_bl, isV_non, isV_glb, isV_tup, isV_lst, isV_bin, isV_neg, isV_cmp, isV_chn, isV_and, isV_or, isV_not, isV_ite, isV_idx, isV_slc, isV_call, isV_blt, isV_isi, isV_mth, isV_exf, isV_comp, isV_dct, isV_itl, tupE_var, tupE_int, tupE_str, tupE_bl, tupE_non, tupE_glb, tupE_tup, tupE_lst, tupE_bin, tupE_neg, tupE_cmp, tupE_chn, tupE_and, tupE_or, tupE_not, tupE_ite, tupE_idx, tupE_slc, tupE_call, tupE_blt, tupE_isi, tupE_mth, tupE_exf, tupE_comp, tupE_dct, tupE_itl, pc_calm, pc_exn, pc_free, pc_wf, pl_calm, pl_exn, pl_free, pl_wf, pc_pu, pl_pu, pc0_own, pc0_mf, pc1_own, pc1_mf, pc2_own, pc2_mf, pc3_own, pc3_mf, pc4_own, pc4_mf, pc5_own, pc5_mf, pc6_own, pc6_mf, pc7_own, pc7_mf, pc8_own, pc8_mf, pc9_own, pc9_mf, pc10_own, pc10_mf, pc11_own, pc11_mf, pc12_own, pc12_mf, pc13_own, pc13_mf, pc14_own, pc14_mf, pc15_own, pc15_mf, pc16_own, pc16_mf, pc17_own, pc17_mf, pc18_own, pc18_mf, pl18_own, pl18_mf, pc_has0, pc_call0, pc_fr0, pc_has1, pc_call1, pc_fr1, pc_has2, pc_call2, pc_fr2, pc_has3, pc_call3, pc_fr3, pc_has4, pc_call4, pc_fr4, pc_has5, pc_call5, pc_fr5, pc_has6, pc_call6, pc_fr6, pc_has7, pc_call7, pc_fr7, pc_has8, pc_call8, pc_fr8, pc_has9, pc_call9, pc_fr9, pc_has10, pc_call10, pc_fr10, pc_has11, pc_call11, pc_fr11, pc_has12, pc_call12, pc_fr12, pc_has13, pc_call13, pc_fr13, pc_has14, pc_call14, pc_fr14, pc_has15, pc_call15, pc_fr15, pc_has16, pc_call16, pc_fr16, pc_has17, pc_call17, pc_fr17, pc_has18, pc_call18, pc_fr18, pc_glb20, pc_glb19, pc_glb21, pc_glb22, pc_cdt22, pl_has0, pl_call0, pl_fr0, pl_has1, pl_call1, pl_fr1, pl_has2, pl_call2, pl_fr2, pl_has3, pl_call3, pl_fr3, pl_has4, pl_call4, pl_fr4, pl_has5, pl_call5, pl_fr5, pl_has6, pl_call6, pl_fr6, pl_has7, pl_call7, pl_fr7, pl_has8, pl_call8, pl_fr8, pl_has9, pl_call9, pl_fr9, pl_has10, pl_call10, pl_fr10, pl_has11, pl_call11, pl_fr11, pl_has12, pl_call12, pl_fr12, pl_has13, pl_call13, pl_fr13, pl_has14, pl_call14, pl_fr14, pl_has15, pl_call15, pl_fr15, pl_has16, pl_call16, pl_fr16, pl_has17, pl_call17, pl_fr17, pl_has18, pl_call18, pl_fr18, pl_glb20, pl_glb19, pl_glb21, pl_glb22, pl_cdt22, pisi_d hv, tyP, isT]
end K01
set_option linter.all false
set_option maxRecDepth 100000
set_option maxHeartbeats 4000000
namespace K01
open PySem PySem.Spec Mi
theorem ix3_0 (a b c : Int) : L2.ixN [a, b, c].length 0 = some 0 := rfl
theorem ix3_2 (a b c : Int) : L2.ixN [a, b, c].length 2 = some 2 := rfl
theorem e_take (k : Nat) (z many : Int) (σ : PS) (hP : PuOk z σ) (hz : z < 1000000000) (h0 : 0 < many) (h1 : many < 1000000) :
    ∃ (v : Int) (σ' : PS), Mi.pv T D (k + 1) 8 [.prs, .int many] σ = prt (.int v) σ' ∧ 0 ≤ v ∧ v < many ∧ PuOk (z + 1) σ' := by
  obtain ⟨n, m, c, rfl, p1, p2, p3, p4, p5⟩ := hP
  rw [pv_s k 8 _ _ m_law_take rfl rfl rfl]
  simp only [m_law_take]
  by_cases hn : 0 < n
  · refine ⟨n % many, [n / many, m, c], ?_, Int.emod_nonneg _ (by omega), Int.emod_lt_of_pos _ h0, n / many, m, c, rfl, Int.ediv_nonneg p1 (by omega), p2, p3, p4, by omega⟩
    simp only [↓pev_comp, ↓pex_for, ↓pex_whl, pexs, pex, pev, pevs, ppks, pevi, pevo, ptst, pevp, plook, psrc_str, psrc_tup, psrc_lst, List.map, List.replicate, List.cons_append, List.nil_append, Nat.sub_self, List.append_nil, Nat.reduceSub, Nat.reduceAdd, List.getElem?_cons_zero, List.getElem?_cons_succ, pbd_rt, pbd_ok, pbd_none, pup_some, pup_none, Option.map_some, Option.map_none, Option.isNone_none, Option.isNone_some, psE_rt, psE_ok, psE_none, psQ_nx, psQ_rt, psQ_bk, psQ_ct, pnoex_rt, if_true, if_false, Bool.false_eq_true, Bool.true_and, Bool.and_true, Bool.false_and, Bool.and_false, Bool.true_or, Bool.false_or, ne_eq, reduceCtorEq, not_false_eq_true, List.set_cons_zero, List.set_cons_succ, pendOf_rt, pendOf_nx, ptru_bl, ptru_int, Bool.not_true, Bool.not_false, Bool.and_self, Bool.or_false, Bool.or_true, not_true_eq_false, ptg, pwipe, pmE_call, pmE_app, pmE_ext, pmE_ins, pmE_clr, frE_lst, frE_list, frE_dict, frE_comp, frE_dct, frE_itl, frE_slc, frE_add, frE_spl, frE_call, frE_ite, isLD, List.all_cons, List.all_nil, Nat.reduceBEq, Nat.reduceEqDiff, Int.reduceEq, Int.reduceLT, Int.reduceLE, Int.reduceNeg, Int.reduceAdd, Int.reduceSub, reduceIte, decide_true, decide_false, Option.some.injEq, isV_var, isV_int, isV_str, isV_bl, isV_non, isV_glb, isV_tup, isV_lst, isV_bin, isV_neg, isV_cmp, isV_chn, isV_and, isV_or, isV_not, isV_ite, isV_idx, isV_slc, isV_call, isV_blt, isV_isi, isV_mth, isV_exf, isV_comp, isV_dct, isV_itl, tupE_var, tupE_int, tupE_str, tupE_bl, tupE_non, tupE_glb, tupE_tup, tupE_lst, tupE_bin, tupE_neg, tupE_cmp, tupE_chn, tupE_and, tupE_or, tupE_not, tupE_ite, tupE_idx, tupE_slc, tupE_call, tupE_blt, tupE_isi, tupE_mth, tupE_exf, tupE_comp, tupE_dct, tupE_itl, pc_calm, pc_exn, pc_free, pc_wf, pl_calm, pl_exn, pl_free, pl_wf, pc_pu, pl_pu, pc0_own, pc0_mf, pc1_own, pc1_mf, pc2_own, pc2_mf, pc3_own, pc3_mf, pc4_own, pc4_mf, pc5_own, pc5_mf, pc6_own, pc6_mf, pc7_own, pc7_mf, pc8_own, pc8_mf, pc9_own, pc9_mf, pc10_own, pc10_mf, pc11_own, pc11_mf, pc12_own, pc12_mf, pc13_own, pc13_mf, pc14_own, pc14_mf, pc15_own, pc15_mf, pc16_own, pc16_mf, pc17_own, pc17_mf, pc18_own, pc18_mf, pl18_own, pl18_mf, pc_has0, pc_call0, pc_fr0, pc_has1, pc_call1, pc_fr1, pc_has2, pc_call2, pc_fr2, pc_has3, pc_call3, pc_fr3, pc_has4, pc_call4, pc_fr4, pc_has5, pc_call5, pc_fr5, pc_has6, pc_call6, pc_fr6, pc_has7, pc_call7, pc_fr7, pc_has8, pc_call8, pc_fr8, pc_has9, pc_call9, pc_fr9, pc_has10, pc_call10, pc_fr10, pc_has11, pc_call11, pc_fr11, pc_has12, pc_call12, pc_fr12, pc_has13, pc_call13, pc_fr13, pc_has14, pc_call14, pc_fr14, pc_has15, pc_call15, pc_fr15, pc_has16, pc_call16, pc_fr16, pc_has17, pc_call17, pc_fr17, pc_has18, pc_call18, pc_fr18, pc_glb20, pc_glb19, pc_glb21, pc_glb22, pc_cdt22, pl_has0, pl_call0, pl_fr0, pl_has1, pl_call1, pl_fr1, pl_has2, pl_call2, pl_fr2, pl_has3, pl_call3, pl_fr3, pl_has4, pl_call4, pl_fr4, pl_has5, pl_call5, pl_fr5, pl_has6, pl_call6, pl_fr6, pl_has7, pl_call7, pl_fr7, pl_has8, pl_call8, pl_fr8, pl_has9, pl_call9, pl_fr9, pl_has10, pl_call10, pl_fr10, pl_has11, pl_call11, pl_fr11, pl_has12, pl_call12, pl_fr12, pl_has13, pl_call13, pl_fr13, pl_has14, pl_call14, pl_fr14, pl_has15, pl_call15, pl_fr15, pl_has16, pl_call16, pl_fr16, pl_has17, pl_call17, pl_fr17, pl_has18, pl_call18, pl_fr18, pl_glb20, pl_glb19, pl_glb21, pl_glb22, pl_cdt22, pget_prs, at3_0, pgt_int, hn, pmod_int h0, pfdv_int h0 (by omega : many < 1073741824), ix3_0]
  · have b1 : (m + 6113 * (c + 1) + 31).natAbs < 2 ^ 64 := by omega
    have hmc : 0 ≤ m * (c + 1) := Int.mul_nonneg p2 (by omega)
    have hmc2 : m * (c + 1) ≤ 2147483629 * 1000000001 := Int.mul_le_mul (by omega) (by omega) (by omega) (by omega)
    have b2 : (m * (c + 1) + 89753).natAbs < 2 ^ 64 := by omega
    have pw5 : pbin .pow (.int (m + 6113 * (c + 1) + 31)) (.int 5) = some (.int ((m + 6113 * (c + 1) + 31) ^ 5)) := ppow_int (j := 5) (by decide) b1
    have pw3 : pbin .pow (.int (m * (c + 1) + 89753)) (.int 3) = some (.int ((m * (c + 1) + 89753) ^ 3)) := ppow_int (j := 3) (by decide) b2
    have hc1 : -(2 ^ 64) < c + 1 ∧ c + 1 < (2 : Int) ^ 64 := by omega
    have k1 : -(2 ^ 64) < (2147483587 : Int) ∧ (2147483587 : Int) < 2 ^ 64 := by decide
    refine ⟨_, [n, m, c + 1], ?_, Int.emod_nonneg (((m + 6113 * (c + 1) + 31) ^ 5 % 2147483647 * 2147483587 + (m * (c + 1) + 89753) ^ 3 % 2147483587) / 8) (by omega : many ≠ 0), Int.emod_lt_of_pos _ h0, n, m, c + 1, rfl, p1, p2, p3, by omega, by omega⟩
    simp only [↓pev_comp, ↓pex_for, ↓pex_whl, pexs, pex, pev, pevs, ppks, pevi, pevo, ptst, pevp, plook, psrc_str, psrc_tup, psrc_lst, List.map, List.replicate, List.cons_append, List.nil_append, Nat.sub_self, List.append_nil, Nat.reduceSub, Nat.reduceAdd, List.getElem?_cons_zero, List.getElem?_cons_succ, pbd_rt, pbd_ok, pbd_none, pup_some, pup_none, Option.map_some, Option.map_none, Option.isNone_none, Option.isNone_some, psE_rt, psE_ok, psE_none, psQ_nx, psQ_rt, psQ_bk, psQ_ct, pnoex_rt, if_true, if_false, Bool.false_eq_true, Bool.true_and, Bool.and_true, Bool.false_and, Bool.and_false, Bool.true_or, Bool.false_or, ne_eq, reduceCtorEq, not_false_eq_true, List.set_cons_zero, List.set_cons_succ, pendOf_rt, pendOf_nx, ptru_bl, ptru_int, Bool.not_true, Bool.not_false, Bool.and_self, Bool.or_false, Bool.or_true, not_true_eq_false, ptg, pwipe, pmE_call, pmE_app, pmE_ext, pmE_ins, pmE_clr, frE_lst, frE_list, frE_dict, frE_comp, frE_dct, frE_itl, frE_slc, frE_add, frE_spl, frE_call, frE_ite, isLD, List.all_cons, List.all_nil, Nat.reduceBEq, Nat.reduceEqDiff, Int.reduceEq, Int.reduceLT, Int.reduceLE, Int.reduceNeg, Int.reduceAdd, Int.reduceSub, reduceIte, decide_true, decide_false, Option.some.injEq, isV_var, isV_int, isV_str, isV_bl, isV_non, isV_glb, isV_tup, isV_lst, isV_bin, isV_neg, isV_cmp, isV_chn, isV_and, isV_or, isV_not, isV_ite, isV_idx, isV_slc, isV_call, isV_blt, isV_isi, isV_mth, isV_exf, isV_comp, isV_dct, isV_itl, tupE_var, tupE_int, tupE_str, tupE_bl, tupE_non, tupE_glb, tupE_tup, tupE_lst, tupE_bin, tupE_neg, tupE_cmp, tupE_chn, tupE_and, tupE_or, tupE_not, tupE_ite, tupE_idx, tupE_slc, tupE_call, tupE_blt, tupE_isi, tupE_mth, tupE_exf, tupE_comp, tupE_dct, tupE_itl, pc_calm, pc_exn, pc_free, pc_wf, pl_calm, pl_exn, pl_free, pl_wf, pc_pu, pl_pu, pc0_own, pc0_mf, pc1_own, pc1_mf, pc2_own, pc2_mf, pc3_own, pc3_mf, pc4_own, pc4_mf, pc5_own, pc5_mf, pc6_own, pc6_mf, pc7_own, pc7_mf, pc8_own, pc8_mf, pc9_own, pc9_mf, pc10_own, pc10_mf, pc11_own, pc11_mf, pc12_own, pc12_mf, pc13_own, pc13_mf, pc14_own, pc14_mf, pc15_own, pc15_mf, pc16_own, pc16_mf, pc17_own, pc17_mf, pc18_own, pc18_mf, pl18_own, pl18_mf, pc_has0, pc_call0, pc_fr0, pc_has1, pc_call1, pc_fr1, pc_has2, pc_call2, pc_fr2, pc_has3, pc_call3, pc_fr3, pc_has4, pc_call4, pc_fr4, pc_has5, pc_call5, pc_fr5, pc_has6, pc_call6, pc_fr6, pc_has7, pc_call7, pc_fr7, pc_has8, pc_call8, pc_fr8, pc_has9, pc_call9, pc_fr9, pc_has10, pc_call10, pc_fr10, pc_has11, pc_call11, pc_fr11, pc_has12, pc_call12, pc_fr12, pc_has13, pc_call13, pc_fr13, pc_has14, pc_call14, pc_fr14, pc_has15, pc_call15, pc_fr15, pc_has16, pc_call16, pc_fr16, pc_has17, pc_call17, pc_fr17, pc_has18, pc_call18, pc_fr18, pc_glb20, pc_glb19, pc_glb21, pc_glb22, pc_cdt22, pl_has0, pl_call0, pl_fr0, pl_has1, pl_call1, pl_fr1, pl_has2, pl_call2, pl_fr2, pl_has3, pl_call3, pl_fr3, pl_has4, pl_call4, pl_fr4, pl_has5, pl_call5, pl_fr5, pl_has6, pl_call6, pl_fr6, pl_has7, pl_call7, pl_fr7, pl_has8, pl_call8, pl_fr8, pl_has9, pl_call9, pl_fr9, pl_has10, pl_call10, pl_fr10, pl_has11, pl_call11, pl_fr11, pl_has12, pl_call12, pl_fr12, pl_has13, pl_call13, pl_fr13, pl_has14, pl_call14, pl_fr14, pl_has15, pl_call15, pl_fr15, pl_has16, pl_call16, pl_fr16, pl_has17, pl_call17, pl_fr17, pl_has18, pl_call18, pl_fr18, pl_glb20, pl_glb19, pl_glb21, pl_glb22, pl_cdt22, pget_prs, at3_0, at3_1, at3_2, pgt_int, hn, padd_int, ix3_2, pmul_r hc1, pw5, pw3, pmod_int (by decide : (0 : Int) < 2147483647), pmod_int (by decide : (0 : Int) < 2147483587), pmul_r k1, pfdv_int (by decide : (0 : Int) < 8) (by decide : (8 : Int) < 1073741824), pmod_int h0]
theorem e_forms (k : Nat) (σ : PS) : Mi.pv T D (k + 1) 9 [] σ = prt (.dct (kS FORMS)) σ := by
  rw [pv_s k 9 _ _ m_law_forms rfl rfl rfl]
  simp only [m_law_forms]
  have z1 : (pS F8).length + (pS F4).length ≤ sizeLine := by decide +kernel
  simp only [↓pev_comp, ↓pex_for, ↓pex_whl, pexs, pex, pev, pevs, ppks, pevi, pevo, ptst, pevp, plook, psrc_str, psrc_tup, psrc_lst, List.map, List.replicate, List.cons_append, List.nil_append, Nat.sub_self, List.append_nil, Nat.reduceSub, Nat.reduceAdd, List.getElem?_cons_zero, List.getElem?_cons_succ, pbd_rt, pbd_ok, pbd_none, pup_some, pup_none, Option.map_some, Option.map_none, Option.isNone_none, Option.isNone_some, psE_rt, psE_ok, psE_none, psQ_nx, psQ_rt, psQ_bk, psQ_ct, pnoex_rt, if_true, if_false, Bool.false_eq_true, Bool.true_and, Bool.and_true, Bool.false_and, Bool.and_false, Bool.true_or, Bool.false_or, ne_eq, reduceCtorEq, not_false_eq_true, List.set_cons_zero, List.set_cons_succ, pendOf_rt, pendOf_nx, ptru_bl, ptru_int, Bool.not_true, Bool.not_false, Bool.and_self, Bool.or_false, Bool.or_true, not_true_eq_false, ptg, pwipe, pmE_call, pmE_app, pmE_ext, pmE_ins, pmE_clr, frE_lst, frE_list, frE_dict, frE_comp, frE_dct, frE_itl, frE_slc, frE_add, frE_spl, frE_call, frE_ite, isLD, List.all_cons, List.all_nil, Nat.reduceBEq, Nat.reduceEqDiff, Int.reduceEq, Int.reduceLT, Int.reduceLE, Int.reduceNeg, Int.reduceAdd, Int.reduceSub, reduceIte, decide_true, decide_false, Option.some.injEq, isV_var, isV_int, isV_str, isV_bl, isV_non, isV_glb, isV_tup, isV_lst, isV_bin, isV_neg, isV_cmp, isV_chn, isV_and, isV_or, isV_not, isV_ite, isV_idx, isV_slc, isV_call, isV_blt, isV_isi, isV_mth, isV_exf, isV_comp, isV_dct, isV_itl, tupE_var, tupE_int, tupE_str, tupE_bl, tupE_non, tupE_glb, tupE_tup, tupE_lst, tupE_bin, tupE_neg, tupE_cmp, tupE_chn, tupE_and, tupE_or, tupE_not, tupE_ite, tupE_idx, tupE_slc, tupE_call, tupE_blt, tupE_isi, tupE_mth, tupE_exf, tupE_comp, tupE_dct, tupE_itl, pc_calm, pc_exn, pc_free, pc_wf, pl_calm, pl_exn, pl_free, pl_wf, pc_pu, pl_pu, pc0_own, pc0_mf, pc1_own, pc1_mf, pc2_own, pc2_mf, pc3_own, pc3_mf, pc4_own, pc4_mf, pc5_own, pc5_mf, pc6_own, pc6_mf, pc7_own, pc7_mf, pc8_own, pc8_mf, pc9_own, pc9_mf, pc10_own, pc10_mf, pc11_own, pc11_mf, pc12_own, pc12_mf, pc13_own, pc13_mf, pc14_own, pc14_mf, pc15_own, pc15_mf, pc16_own, pc16_mf, pc17_own, pc17_mf, pc18_own, pc18_mf, pl18_own, pl18_mf, pc_has0, pc_call0, pc_fr0, pc_has1, pc_call1, pc_fr1, pc_has2, pc_call2, pc_fr2, pc_has3, pc_call3, pc_fr3, pc_has4, pc_call4, pc_fr4, pc_has5, pc_call5, pc_fr5, pc_has6, pc_call6, pc_fr6, pc_has7, pc_call7, pc_fr7, pc_has8, pc_call8, pc_fr8, pc_has9, pc_call9, pc_fr9, pc_has10, pc_call10, pc_fr10, pc_has11, pc_call11, pc_fr11, pc_has12, pc_call12, pc_fr12, pc_has13, pc_call13, pc_fr13, pc_has14, pc_call14, pc_fr14, pc_has15, pc_call15, pc_fr15, pc_has16, pc_call16, pc_fr16, pc_has17, pc_call17, pc_fr17, pc_has18, pc_call18, pc_fr18, pc_glb20, pc_glb19, pc_glb21, pc_glb22, pc_cdt22, pl_has0, pl_call0, pl_fr0, pl_has1, pl_call1, pl_fr1, pl_has2, pl_call2, pl_fr2, pl_has3, pl_call3, pl_fr3, pl_has4, pl_call4, pl_fr4, pl_has5, pl_call5, pl_fr5, pl_has6, pl_call6, pl_fr6, pl_has7, pl_call7, pl_fr7, pl_has8, pl_call8, pl_fr8, pl_has9, pl_call9, pl_fr9, pl_has10, pl_call10, pl_fr10, pl_has11, pl_call11, pl_fr11, pl_has12, pl_call12, pl_fr12, pl_has13, pl_call13, pl_fr13, pl_has14, pl_call14, pl_fr14, pl_has15, pl_call15, pl_fr15, pl_has16, pl_call16, pl_fr16, pl_has17, pl_call17, pl_fr17, pl_has18, pl_call18, pl_fr18, pl_glb20, pl_glb19, pl_glb21, pl_glb22, pl_cdt22, pkeys, keyV, List.length_cons, List.length_nil, Nat.reduceLeDiff, m8, m4, i8, padd_lst z1, ap12, dict12 (pc_calm k 9)]
theorem e_word (k : Nat) (z : Int) (σ : PS) (hP : PuOk z σ) (hz : z < 900000000) :
    ∃ (s : Str) (σ' : PS), Mi.pv T D (k + 2) 10 [.prs] σ = prt (.str s) σ' ∧ nmOk s ∧ PuOk (z + 9) σ' := by
  rw [pv_s (k + 1) 10 _ _ m_law_word rfl rfl rfl]
  simp only [m_law_word]
  obtain ⟨v, σ1, e1, v0, v1, P1⟩ := e_take k z 8 σ hP (by omega) (by decide) (by decide)
  have hr : prng 0 (1 + v) = some ((List.range (1 + v - 0).toNat).map fun (i : Nat) => V.int (0 + i)) := by unfold prng; rw [if_pos (by omega)]
  have hsl : ("abcdefghijklmnopqrstuvwxyz" : Str).length ≤ sizeLine := by decide
  simp only [↓pev_comp, ↓pex_for, ↓pex_whl, pexs, pex, pev, pevs, ppks, pevi, pevo, ptst, pevp, plook, psrc_str, psrc_tup, psrc_lst, List.map, List.replicate, List.cons_append, List.nil_append, Nat.sub_self, List.append_nil, Nat.reduceSub, Nat.reduceAdd, List.getElem?_cons_zero, List.getElem?_cons_succ, pbd_rt, pbd_ok, pbd_none, pup_some, pup_none, Option.map_some, Option.map_none, Option.isNone_none, Option.isNone_some, psE_rt, psE_ok, psE_none, psQ_nx, psQ_rt, psQ_bk, psQ_ct, pnoex_rt, if_true, if_false, Bool.false_eq_true, Bool.true_and, Bool.and_true, Bool.false_and, Bool.and_false, Bool.true_or, Bool.false_or, ne_eq, reduceCtorEq, not_false_eq_true, List.set_cons_zero, List.set_cons_succ, pendOf_rt, pendOf_nx, ptru_bl, ptru_int, Bool.not_true, Bool.not_false, Bool.and_self, Bool.or_false, Bool.or_true, not_true_eq_false, ptg, pwipe, pmE_call, pmE_app, pmE_ext, pmE_ins, pmE_clr, frE_lst, frE_list, frE_dict, frE_comp, frE_dct, frE_itl, frE_slc, frE_add, frE_spl, frE_call, frE_ite, isLD, List.all_cons, List.all_nil, Nat.reduceBEq, Nat.reduceEqDiff, Int.reduceEq, Int.reduceLT, Int.reduceLE, Int.reduceNeg, Int.reduceAdd, Int.reduceSub, reduceIte, decide_true, decide_false, Option.some.injEq, isV_var, isV_int, isV_str, isV_bl, isV_non, isV_glb, isV_tup, isV_lst, isV_bin, isV_neg, isV_cmp, isV_chn, isV_and, isV_or, isV_not, isV_ite, isV_idx, isV_slc, isV_call, isV_blt, isV_isi, isV_mth, isV_exf, isV_comp, isV_dct, isV_itl, tupE_var, tupE_int, tupE_str, tupE_bl, tupE_non, tupE_glb, tupE_tup, tupE_lst, tupE_bin, tupE_neg, tupE_cmp, tupE_chn, tupE_and, tupE_or, tupE_not, tupE_ite, tupE_idx, tupE_slc, tupE_call, tupE_blt, tupE_isi, tupE_mth, tupE_exf, tupE_comp, tupE_dct, tupE_itl, pc_calm, pc_exn, pc_free, pc_wf, pl_calm, pl_exn, pl_free, pl_wf, pc_pu, pl_pu, pc0_own, pc0_mf, pc1_own, pc1_mf, pc2_own, pc2_mf, pc3_own, pc3_mf, pc4_own, pc4_mf, pc5_own, pc5_mf, pc6_own, pc6_mf, pc7_own, pc7_mf, pc8_own, pc8_mf, pc9_own, pc9_mf, pc10_own, pc10_mf, pc11_own, pc11_mf, pc12_own, pc12_mf, pc13_own, pc13_mf, pc14_own, pc14_mf, pc15_own, pc15_mf, pc16_own, pc16_mf, pc17_own, pc17_mf, pc18_own, pc18_mf, pl18_own, pl18_mf, pc_has0, pc_call0, pc_fr0, pc_has1, pc_call1, pc_fr1, pc_has2, pc_call2, pc_fr2, pc_has3, pc_call3, pc_fr3, pc_has4, pc_call4, pc_fr4, pc_has5, pc_call5, pc_fr5, pc_has6, pc_call6, pc_fr6, pc_has7, pc_call7, pc_fr7, pc_has8, pc_call8, pc_fr8, pc_has9, pc_call9, pc_fr9, pc_has10, pc_call10, pc_fr10, pc_has11, pc_call11, pc_fr11, pc_has12, pc_call12, pc_fr12, pc_has13, pc_call13, pc_fr13, pc_has14, pc_call14, pc_fr14, pc_has15, pc_call15, pc_fr15, pc_has16, pc_call16, pc_fr16, pc_has17, pc_call17, pc_fr17, pc_has18, pc_call18, pc_fr18, pc_glb20, pc_glb19, pc_glb21, pc_glb22, pc_cdt22, pl_has0, pl_call0, pl_fr0, pl_has1, pl_call1, pl_fr1, pl_has2, pl_call2, pl_fr2, pl_has3, pl_call3, pl_fr3, pl_has4, pl_call4, pl_fr4, pl_has5, pl_call5, pl_fr5, pl_has6, pl_call6, pl_fr6, pl_has7, pl_call7, pl_fr7, pl_has8, pl_call8, pl_fr8, pl_has9, pl_call9, pl_fr9, pl_has10, pl_call10, pl_fr10, pl_has11, pl_call11, pl_fr11, pl_has12, pl_call12, pl_fr12, pl_has13, pl_call13, pl_fr13, pl_has14, pl_call14, pl_fr14, pl_has15, pl_call15, pl_fr15, pl_has16, pl_call16, pl_fr16, pl_has17, pl_call17, pl_fr17, pl_has18, pl_call18, pl_fr18, pl_glb20, pl_glb19, pl_glb21, pl_glb22, pl_cdt22, e1, padd_int, hr]
  generalize hl : (List.range (1 + v - 0).toNat).map (fun (i : Nat) => V.int (0 + i)) = l
  have hlen : l.length ≤ 8 ∧ 1 ≤ l.length := by rw [← hl]; simp; omega
  generalize hF : pcmpF (Pc (k + 1) 10) _ _ _ _ = F
  obtain ⟨ys, σ2, e2, l2, r2, P2⟩ := pcomp_st (F := F) (fun i σ => PuOk (z + 1 + i) σ) (fun y => ∃ c, inSm c = true ∧ y = chrV c) (l := l) (n := 0) (k := 0) (σ := σ1) (Nat.le_trans (by omega : 0 + l.length ≤ 8) (by decide)) (by simpa using P1) (fun a ha i σ hi Pi => by
    obtain ⟨u, σ', e2, u0, u1, P2⟩ := e_take k (z + 1 + i) 26 σ Pi (by omega) (by decide) (by decide)
    obtain ⟨c, hcs, hat⟩ := small_get u u0 u1
    refine ⟨chrV c, σ', ?_, ⟨c, hcs, rfl⟩, by simpa [Int.add_assoc] using P2⟩
    rw [← hF]
    simp only [pcmpF]
    simp only [↓pev_comp, ↓pex_for, ↓pex_whl, pexs, pex, pev, pevs, ppks, pevi, pevo, ptst, pevp, plook, psrc_str, psrc_tup, psrc_lst, List.map, List.replicate, List.cons_append, List.nil_append, Nat.sub_self, List.append_nil, Nat.reduceSub, Nat.reduceAdd, List.getElem?_cons_zero, List.getElem?_cons_succ, pbd_rt, pbd_ok, pbd_none, pup_some, pup_none, Option.map_some, Option.map_none, Option.isNone_none, Option.isNone_some, psE_rt, psE_ok, psE_none, psQ_nx, psQ_rt, psQ_bk, psQ_ct, pnoex_rt, if_true, if_false, Bool.false_eq_true, Bool.true_and, Bool.and_true, Bool.false_and, Bool.and_false, Bool.true_or, Bool.false_or, ne_eq, reduceCtorEq, not_false_eq_true, List.set_cons_zero, List.set_cons_succ, pendOf_rt, pendOf_nx, ptru_bl, ptru_int, Bool.not_true, Bool.not_false, Bool.and_self, Bool.or_false, Bool.or_true, not_true_eq_false, ptg, pwipe, pmE_call, pmE_app, pmE_ext, pmE_ins, pmE_clr, frE_lst, frE_list, frE_dict, frE_comp, frE_dct, frE_itl, frE_slc, frE_add, frE_spl, frE_call, frE_ite, isLD, List.all_cons, List.all_nil, Nat.reduceBEq, Nat.reduceEqDiff, Int.reduceEq, Int.reduceLT, Int.reduceLE, Int.reduceNeg, Int.reduceAdd, Int.reduceSub, reduceIte, decide_true, decide_false, Option.some.injEq, isV_var, isV_int, isV_str, isV_bl, isV_non, isV_glb, isV_tup, isV_lst, isV_bin, isV_neg, isV_cmp, isV_chn, isV_and, isV_or, isV_not, isV_ite, isV_idx, isV_slc, isV_call, isV_blt, isV_isi, isV_mth, isV_exf, isV_comp, isV_dct, isV_itl, tupE_var, tupE_int, tupE_str, tupE_bl, tupE_non, tupE_glb, tupE_tup, tupE_lst, tupE_bin, tupE_neg, tupE_cmp, tupE_chn, tupE_and, tupE_or, tupE_not, tupE_ite, tupE_idx, tupE_slc, tupE_call, tupE_blt, tupE_isi, tupE_mth, tupE_exf, tupE_comp, tupE_dct, tupE_itl, pc_calm, pc_exn, pc_free, pc_wf, pl_calm, pl_exn, pl_free, pl_wf, pc_pu, pl_pu, pc0_own, pc0_mf, pc1_own, pc1_mf, pc2_own, pc2_mf, pc3_own, pc3_mf, pc4_own, pc4_mf, pc5_own, pc5_mf, pc6_own, pc6_mf, pc7_own, pc7_mf, pc8_own, pc8_mf, pc9_own, pc9_mf, pc10_own, pc10_mf, pc11_own, pc11_mf, pc12_own, pc12_mf, pc13_own, pc13_mf, pc14_own, pc14_mf, pc15_own, pc15_mf, pc16_own, pc16_mf, pc17_own, pc17_mf, pc18_own, pc18_mf, pl18_own, pl18_mf, pc_has0, pc_call0, pc_fr0, pc_has1, pc_call1, pc_fr1, pc_has2, pc_call2, pc_fr2, pc_has3, pc_call3, pc_fr3, pc_has4, pc_call4, pc_fr4, pc_has5, pc_call5, pc_fr5, pc_has6, pc_call6, pc_fr6, pc_has7, pc_call7, pc_fr7, pc_has8, pc_call8, pc_fr8, pc_has9, pc_call9, pc_fr9, pc_has10, pc_call10, pc_fr10, pc_has11, pc_call11, pc_fr11, pc_has12, pc_call12, pc_fr12, pc_has13, pc_call13, pc_fr13, pc_has14, pc_call14, pc_fr14, pc_has15, pc_call15, pc_fr15, pc_has16, pc_call16, pc_fr16, pc_has17, pc_call17, pc_fr17, pc_has18, pc_call18, pc_fr18, pc_glb20, pc_glb19, pc_glb21, pc_glb22, pc_cdt22, pl_has0, pl_call0, pl_fr0, pl_has1, pl_call1, pl_fr1, pl_has2, pl_call2, pl_fr2, pl_has3, pl_call3, pl_fr3, pl_has4, pl_call4, pl_fr4, pl_has5, pl_call5, pl_fr5, pl_has6, pl_call6, pl_fr6, pl_has7, pl_call7, pl_fr7, pl_has8, pl_call8, pl_fr8, pl_has9, pl_call9, pl_fr9, pl_has10, pl_call10, pl_fr10, pl_has11, pl_call11, pl_fr11, pl_has12, pl_call12, pl_fr12, pl_has13, pl_call13, pl_fr13, pl_has14, pl_call14, pl_fr14, pl_has15, pl_call15, pl_fr15, pl_has16, pl_call16, pl_fr16, pl_has17, pl_call17, pl_fr17, pl_has18, pl_call18, pl_fr18, pl_glb20, pl_glb19, pl_glb21, pl_glb22, pl_cdt22, e2, pget_str hsl, hat])
  obtain ⟨cs, hc, rfl⟩ : ∃ cs : List Nat, (∀ c ∈ cs, inSm c = true) ∧ ys = cs.map chrV := by
    clear e2 l2
    induction ys with
    | nil => exact ⟨[], (fun _ h => nomatch h), rfl⟩
    | cons y ys ih =>
      obtain ⟨c, h1, rfl⟩ := r2 y List.mem_cons_self
      obtain ⟨cs, h2, rfl⟩ := ih fun y hy => r2 y (List.mem_cons_of_mem _ hy)
      exact ⟨c :: cs, fun d hd => by
        rcases List.mem_cons.mp hd with rfl | hd
        · exact h1
        · exact h2 d hd, rfl⟩
  rw [List.length_map] at l2
  have P9 : PuOk (z + 9) σ2 := P2.mono (by omega)
  have hsum : (⟨cs.toArray⟩ : Str).length = cs.length := by simp [Str.length]
  have hj := pjoin_chr (cs := cs) (by omega)
  have hmk : pmthK .join (.str "") = true := rfl
  have h5 : [V.str "all", .str "fun", .str "same", .str "self", .str "put"].length ≤ sizeLine := by decide
  have hin : pinV (Pc (k + 1) 10) (.str (⟨cs.toArray⟩ : Str)) (.tup [V.str "all", .str "fun", .str "same", .str "self", .str "put"]) = some (inFV (.str ⟨cs.toArray⟩) KEPTV) := rfl
  have hall : ∀ c ∈ (⟨cs.toArray⟩ : Str).cps.toList, inSm c = true := fun c hm => hc c (by simpa using hm)
  cases hk : inFV (.str ⟨cs.toArray⟩) KEPTV with
  | false =>
    refine ⟨⟨cs.toArray⟩, σ2, ?_, ?_, P9⟩
    · simp only [↓pev_comp, ↓pex_for, ↓pex_whl, pexs, pex, pev, pevs, ppks, pevi, pevo, ptst, pevp, plook, psrc_str, psrc_tup, psrc_lst, List.map, List.replicate, List.cons_append, List.nil_append, Nat.sub_self, List.append_nil, Nat.reduceSub, Nat.reduceAdd, List.getElem?_cons_zero, List.getElem?_cons_succ, pbd_rt, pbd_ok, pbd_none, pup_some, pup_none, Option.map_some, Option.map_none, Option.isNone_none, Option.isNone_some, psE_rt, psE_ok, psE_none, psQ_nx, psQ_rt, psQ_bk, psQ_ct, pnoex_rt, if_true, if_false, Bool.false_eq_true, Bool.true_and, Bool.and_true, Bool.false_and, Bool.and_false, Bool.true_or, Bool.false_or, ne_eq, reduceCtorEq, not_false_eq_true, List.set_cons_zero, List.set_cons_succ, pendOf_rt, pendOf_nx, ptru_bl, ptru_int, Bool.not_true, Bool.not_false, Bool.and_self, Bool.or_false, Bool.or_true, not_true_eq_false, ptg, pwipe, pmE_call, pmE_app, pmE_ext, pmE_ins, pmE_clr, frE_lst, frE_list, frE_dict, frE_comp, frE_dct, frE_itl, frE_slc, frE_add, frE_spl, frE_call, frE_ite, isLD, List.all_cons, List.all_nil, Nat.reduceBEq, Nat.reduceEqDiff, Int.reduceEq, Int.reduceLT, Int.reduceLE, Int.reduceNeg, Int.reduceAdd, Int.reduceSub, reduceIte, decide_true, decide_false, Option.some.injEq, isV_var, isV_int, isV_str, isV_bl, isV_non, isV_glb, isV_tup, isV_lst, isV_bin, isV_neg, isV_cmp, isV_chn, isV_and, isV_or, isV_not, isV_ite, isV_idx, isV_slc, isV_call, isV_blt, isV_isi, isV_mth, isV_exf, isV_comp, isV_dct, isV_itl, tupE_var, tupE_int, tupE_str, tupE_bl, tupE_non, tupE_glb, tupE_tup, tupE_lst, tupE_bin, tupE_neg, tupE_cmp, tupE_chn, tupE_and, tupE_or, tupE_not, tupE_ite, tupE_idx, tupE_slc, tupE_call, tupE_blt, tupE_isi, tupE_mth, tupE_exf, tupE_comp, tupE_dct, tupE_itl, pc_calm, pc_exn, pc_free, pc_wf, pl_calm, pl_exn, pl_free, pl_wf, pc_pu, pl_pu, pc0_own, pc0_mf, pc1_own, pc1_mf, pc2_own, pc2_mf, pc3_own, pc3_mf, pc4_own, pc4_mf, pc5_own, pc5_mf, pc6_own, pc6_mf, pc7_own, pc7_mf, pc8_own, pc8_mf, pc9_own, pc9_mf, pc10_own, pc10_mf, pc11_own, pc11_mf, pc12_own, pc12_mf, pc13_own, pc13_mf, pc14_own, pc14_mf, pc15_own, pc15_mf, pc16_own, pc16_mf, pc17_own, pc17_mf, pc18_own, pc18_mf, pl18_own, pl18_mf, pc_has0, pc_call0, pc_fr0, pc_has1, pc_call1, pc_fr1, pc_has2, pc_call2, pc_fr2, pc_has3, pc_call3, pc_fr3, pc_has4, pc_call4, pc_fr4, pc_has5, pc_call5, pc_fr5, pc_has6, pc_call6, pc_fr6, pc_has7, pc_call7, pc_fr7, pc_has8, pc_call8, pc_fr8, pc_has9, pc_call9, pc_fr9, pc_has10, pc_call10, pc_fr10, pc_has11, pc_call11, pc_fr11, pc_has12, pc_call12, pc_fr12, pc_has13, pc_call13, pc_fr13, pc_has14, pc_call14, pc_fr14, pc_has15, pc_call15, pc_fr15, pc_has16, pc_call16, pc_fr16, pc_has17, pc_call17, pc_fr17, pc_has18, pc_call18, pc_fr18, pc_glb20, pc_glb19, pc_glb21, pc_glb22, pc_cdt22, pl_has0, pl_call0, pl_fr0, pl_has1, pl_call1, pl_fr1, pl_has2, pl_call2, pl_fr2, pl_has3, pl_call3, pl_fr3, pl_has4, pl_call4, pl_fr4, pl_has5, pl_call5, pl_fr5, pl_has6, pl_call6, pl_fr6, pl_has7, pl_call7, pl_fr7, pl_has8, pl_call8, pl_fr8, pl_has9, pl_call9, pl_fr9, pl_has10, pl_call10, pl_fr10, pl_has11, pl_call11, pl_fr11, pl_has12, pl_call12, pl_fr12, pl_has13, pl_call13, pl_fr13, pl_has14, pl_call14, pl_fr14, pl_has15, pl_call15, pl_fr15, pl_has16, pl_call16, pl_fr16, pl_has17, pl_call17, pl_fr17, pl_has18, pl_call18, pl_fr18, pl_glb20, pl_glb19, pl_glb21, pl_glb22, pl_cdt22, e2, hmk, hj, h5, pin_, hin, hk]
    · simp only [nmOk, nameV, hsum, hk, Bool.not_false, Bool.and_true, Bool.and_eq_true, decide_eq_true_eq, List.all_eq_true]
      exact ⟨⟨by omega, by omega⟩, hall⟩
  | true =>
    have hq : ("q" : Str).length + (⟨cs.toArray⟩ : Str).length ≤ sizeLine := by
      rw [hsum]
      have : ("q" : Str).length = 1 := rfl
      have hs9 : 9 ≤ sizeLine := by decide
      omega
    have hmem : (⟨cs.toArray⟩ : Str) = "all" ∨ (⟨cs.toArray⟩ : Str) = "fun" ∨ (⟨cs.toArray⟩ : Str) = "same" ∨ (⟨cs.toArray⟩ : Str) = "self" ∨ (⟨cs.toArray⟩ : Str) = "put" := by
      simp only [inFV, KEPTV, List.any_cons, List.any_nil, eqFV, Bool.or_false, Bool.or_eq_true, beq_iff_eq] at hk
      rcases hk with e | e | e | e | e
      · exact .inl e.symm
      · exact .inr (.inl e.symm)
      · exact .inr (.inr (.inl e.symm))
      · exact .inr (.inr (.inr (.inl e.symm)))
      · exact .inr (.inr (.inr (.inr e.symm)))
    refine ⟨("q" : Str) ++ ⟨cs.toArray⟩, σ2, ?_, ?_, P9⟩
    · simp only [↓pev_comp, ↓pex_for, ↓pex_whl, pexs, pex, pev, pevs, ppks, pevi, pevo, ptst, pevp, plook, psrc_str, psrc_tup, psrc_lst, List.map, List.replicate, List.cons_append, List.nil_append, Nat.sub_self, List.append_nil, Nat.reduceSub, Nat.reduceAdd, List.getElem?_cons_zero, List.getElem?_cons_succ, pbd_rt, pbd_ok, pbd_none, pup_some, pup_none, Option.map_some, Option.map_none, Option.isNone_none, Option.isNone_some, psE_rt, psE_ok, psE_none, psQ_nx, psQ_rt, psQ_bk, psQ_ct, pnoex_rt, if_true, if_false, Bool.false_eq_true, Bool.true_and, Bool.and_true, Bool.false_and, Bool.and_false, Bool.true_or, Bool.false_or, ne_eq, reduceCtorEq, not_false_eq_true, List.set_cons_zero, List.set_cons_succ, pendOf_rt, pendOf_nx, ptru_bl, ptru_int, Bool.not_true, Bool.not_false, Bool.and_self, Bool.or_false, Bool.or_true, not_true_eq_false, ptg, pwipe, pmE_call, pmE_app, pmE_ext, pmE_ins, pmE_clr, frE_lst, frE_list, frE_dict, frE_comp, frE_dct, frE_itl, frE_slc, frE_add, frE_spl, frE_call, frE_ite, isLD, List.all_cons, List.all_nil, Nat.reduceBEq, Nat.reduceEqDiff, Int.reduceEq, Int.reduceLT, Int.reduceLE, Int.reduceNeg, Int.reduceAdd, Int.reduceSub, reduceIte, decide_true, decide_false, Option.some.injEq, isV_var, isV_int, isV_str, isV_bl, isV_non, isV_glb, isV_tup, isV_lst, isV_bin, isV_neg, isV_cmp, isV_chn, isV_and, isV_or, isV_not, isV_ite, isV_idx, isV_slc, isV_call, isV_blt, isV_isi, isV_mth, isV_exf, isV_comp, isV_dct, isV_itl, tupE_var, tupE_int, tupE_str, tupE_bl, tupE_non, tupE_glb, tupE_tup, tupE_lst, tupE_bin, tupE_neg, tupE_cmp, tupE_chn, tupE_and, tupE_or, tupE_not, tupE_ite, tupE_idx, tupE_slc, tupE_call, tupE_blt, tupE_isi, tupE_mth, tupE_exf, tupE_comp, tupE_dct, tupE_itl, pc_calm, pc_exn, pc_free, pc_wf, pl_calm, pl_exn, pl_free, pl_wf, pc_pu, pl_pu, pc0_own, pc0_mf, pc1_own, pc1_mf, pc2_own, pc2_mf, pc3_own, pc3_mf, pc4_own, pc4_mf, pc5_own, pc5_mf, pc6_own, pc6_mf, pc7_own, pc7_mf, pc8_own, pc8_mf, pc9_own, pc9_mf, pc10_own, pc10_mf, pc11_own, pc11_mf, pc12_own, pc12_mf, pc13_own, pc13_mf, pc14_own, pc14_mf, pc15_own, pc15_mf, pc16_own, pc16_mf, pc17_own, pc17_mf, pc18_own, pc18_mf, pl18_own, pl18_mf, pc_has0, pc_call0, pc_fr0, pc_has1, pc_call1, pc_fr1, pc_has2, pc_call2, pc_fr2, pc_has3, pc_call3, pc_fr3, pc_has4, pc_call4, pc_fr4, pc_has5, pc_call5, pc_fr5, pc_has6, pc_call6, pc_fr6, pc_has7, pc_call7, pc_fr7, pc_has8, pc_call8, pc_fr8, pc_has9, pc_call9, pc_fr9, pc_has10, pc_call10, pc_fr10, pc_has11, pc_call11, pc_fr11, pc_has12, pc_call12, pc_fr12, pc_has13, pc_call13, pc_fr13, pc_has14, pc_call14, pc_fr14, pc_has15, pc_call15, pc_fr15, pc_has16, pc_call16, pc_fr16, pc_has17, pc_call17, pc_fr17, pc_has18, pc_call18, pc_fr18, pc_glb20, pc_glb19, pc_glb21, pc_glb22, pc_cdt22, pl_has0, pl_call0, pl_fr0, pl_has1, pl_call1, pl_fr1, pl_has2, pl_call2, pl_fr2, pl_has3, pl_call3, pl_fr3, pl_has4, pl_call4, pl_fr4, pl_has5, pl_call5, pl_fr5, pl_has6, pl_call6, pl_fr6, pl_has7, pl_call7, pl_fr7, pl_has8, pl_call8, pl_fr8, pl_has9, pl_call9, pl_fr9, pl_has10, pl_call10, pl_fr10, pl_has11, pl_call11, pl_fr11, pl_has12, pl_call12, pl_fr12, pl_has13, pl_call13, pl_fr13, pl_has14, pl_call14, pl_fr14, pl_has15, pl_call15, pl_fr15, pl_has16, pl_call16, pl_fr16, pl_has17, pl_call17, pl_fr17, pl_has18, pl_call18, pl_fr18, pl_glb20, pl_glb19, pl_glb21, pl_glb22, pl_cdt22, e2, hmk, hj, h5, pin_, hin, hk, padd_str hq]
    · rcases hmem with e | e | e | e | e <;> (rw [e]; unfold nmOk; decide +kernel)
end K01
set_option linter.all false
set_option maxRecDepth 100000
set_option maxHeartbeats 4000000
namespace K01
open PySem PySem.Spec Mi
def W14 : List Str := ["at", "at", "kind", "name", "thing", "maker", "eater", "all", "fun", "app", "app", "same", "self", "put"]
theorem split14 : pmth .split (.str "at at kind name thing maker eater all fun app app same self put") [.str " "] = some (.lst (W14.map V.str)) := by kernel_rfl
def DB (d : Nat) : Int := 100 * 4 ^ d
def EB (d : Nat) : Int := if d = 0 then 10 else DB (d - 1)
theorem eb_pos (d : Nat) : 10 ≤ EB d := by
  unfold EB
  split
  · decide
  · unfold DB
    have : 0 < (4 : Int) ^ (d - 1) := Int.pow_pos (by decide)
    omega
theorem eb_db (d : Nat) : 1 + 3 * EB d ≤ DB d := by
  unfold EB
  split
  · rename_i h; subst h; decide
  · rename_i h
    obtain ⟨e, rfl⟩ : ∃ e, d = e + 1 := ⟨d - 1, by omega⟩
    unfold DB
    have : 0 < (4 : Int) ^ e := Int.pow_pos (by decide)
    simp only [Nat.add_sub_cancel, Int.pow_succ]
    omega
/-- what a letter of a form draws -/
def DrP (nb b d : Nat) (c : Nat) (v : V) : Prop := (c = 110 ∧ ∃ n : Nat, n < nb ∧ v = .int n) ∨ (c = 104 ∧ ∃ n : Nat, n < 6 ∧ v = .int n) ∨ (c = 119 ∧ ∃ w, nmOk w ∧ v = .str w) ∨ (c = 116 ∧ ∃ t : Mi.Tm, t.ok ∧ t.dp < d ∧ t.lt b ∧ v = t.v)
def DrPs (nb b d : Nat) : List Nat → List V → Prop
  | [], vs => vs = []
  | c :: cs, vs => ∃ v r, vs = v :: r ∧ DrP nb b d c v ∧ DrPs nb b d cs r
def nbd (s : Str) (b : Nat) : Nat := if s = "maker" then 5 else b
def bodyD : MSs := forB (nthS m_law_term.body 3)
theorem draw_body {k d b : Nat} {s : Str} (hb : 0 < b ∧ b < 1000000) (ih : ∀ (z : Int) (σ : PS), 0 < d → PuOk z σ → z + DB (d - 1) < 900000000 → ∃ (t : Mi.Tm) (σ' : PS), Mi.pv T D (k + 2) 11 [.prs, .int ((d : Int) - 1), .int b] σ = prt t.v σ' ∧ t.ok ∧ t.dp < d ∧ t.lt b ∧ PuOk (z + DB (d - 1)) σ')
    (c : Nat) (hc : c = 110 ∨ c = 104 ∨ c = 119 ∨ (c = 116 ∧ 0 < d)) (z : Int) (σ : PS) (ws : V) (acc : List V) (l6 : Option V) (hz : z + EB d < 900000000) (hP : PuOk z σ) (ha : acc.length < 100) :
    ∃ v σ', pbodyF (Pc (k + 2) 11) T.excs bodyD [some .prs, some (.int d), some (.int b), some ws, some (.str s), some (.lst acc), some (chrV c)] σ = some (.nx [some .prs, some (.int d), some (.int b), some ws, some (.str s), some (.lst (acc ++ [v])), some (chrV c)] σ') ∧ DrP (nbd s b) b d c v ∧ PuOk (z + EB d) σ' := by
  simp only [pbodyF, bodyD, nthS, forB, m_law_term]
  have hz2 : acc.length < sizeLine := Nat.lt_trans ha (by decide)
  have hE := eb_pos d
  have h25 : ([V.int b, V.int 5] : List V).length ≤ sizeLine := by show 2 ≤ sizeLine; decide
  rcases hc with rfl | rfl | rfl | ⟨rfl, hd⟩
  · by_cases hs : s = "maker"
    · obtain ⟨v, σ', e, v0, v1, P⟩ := e_take (k + 1) z 5 σ hP (by omega) (by decide) (by decide)
      have hat : L2.atI [V.int b, V.int 5] 1 = some (.int 5) := rfl
      refine ⟨.int v, σ', ?_, .inl ⟨rfl, v.toNat, by unfold nbd; rw [if_pos hs]; omega, by rw [Int.toNat_of_nonneg v0]⟩, P.mono (by omega)⟩
      have hi : pblt (Pc (k + 2) 11) .int [.bl true] = some (.int 1) := rfl
      simp only [↓pev_comp, ↓pex_for, ↓pex_whl, pexs, pex, pev, pevs, ppks, pevi, pevo, ptst, pevp, plook, psrc_str, psrc_tup, psrc_lst, List.map, List.replicate, List.cons_append, List.nil_append, Nat.sub_self, List.append_nil, Nat.reduceSub, Nat.reduceAdd, List.getElem?_cons_zero, List.getElem?_cons_succ, pbd_rt, pbd_ok, pbd_none, pup_some, pup_none, Option.map_some, Option.map_none, Option.isNone_none, Option.isNone_some, psE_rt, psE_ok, psE_none, psQ_nx, psQ_rt, psQ_bk, psQ_ct, pnoex_rt, if_true, if_false, Bool.false_eq_true, Bool.true_and, Bool.and_true, Bool.false_and, Bool.and_false, Bool.true_or, Bool.false_or, ne_eq, reduceCtorEq, not_false_eq_true, List.set_cons_zero, List.set_cons_succ, pendOf_rt, pendOf_nx, ptru_bl, ptru_int, Bool.not_true, Bool.not_false, Bool.and_self, Bool.or_false, Bool.or_true, not_true_eq_false, ptg, pwipe, pmE_call, pmE_app, pmE_ext, pmE_ins, pmE_clr, frE_lst, frE_list, frE_dict, frE_comp, frE_dct, frE_itl, frE_slc, frE_add, frE_spl, frE_call, frE_ite, isLD, List.all_cons, List.all_nil, Nat.reduceBEq, Nat.reduceEqDiff, Int.reduceEq, Int.reduceLT, Int.reduceLE, Int.reduceNeg, Int.reduceAdd, Int.reduceSub, reduceIte, decide_true, decide_false, Option.some.injEq, isV_var, isV_int, isV_str, isV_bl, isV_non, isV_glb, isV_tup, isV_lst, isV_bin, isV_neg, isV_cmp, isV_chn, isV_and, isV_or, isV_not, isV_ite, isV_idx, isV_slc, isV_call, isV_blt, isV_isi, isV_mth, isV_exf, isV_comp, isV_dct, isV_itl, tupE_var, tupE_int, tupE_str, tupE_bl, tupE_non, tupE_glb, tupE_tup, tupE_lst, tupE_bin, tupE_neg, tupE_cmp, tupE_chn, tupE_and, tupE_or, tupE_not, tupE_ite, tupE_idx, tupE_slc, tupE_call, tupE_blt, tupE_isi, tupE_mth, tupE_exf, tupE_comp, tupE_dct, tupE_itl, pc_calm, pc_exn, pc_free, pc_wf, pl_calm, pl_exn, pl_free, pl_wf, pc_pu, pl_pu, pc0_own, pc0_mf, pc1_own, pc1_mf, pc2_own, pc2_mf, pc3_own, pc3_mf, pc4_own, pc4_mf, pc5_own, pc5_mf, pc6_own, pc6_mf, pc7_own, pc7_mf, pc8_own, pc8_mf, pc9_own, pc9_mf, pc10_own, pc10_mf, pc11_own, pc11_mf, pc12_own, pc12_mf, pc13_own, pc13_mf, pc14_own, pc14_mf, pc15_own, pc15_mf, pc16_own, pc16_mf, pc17_own, pc17_mf, pc18_own, pc18_mf, pl18_own, pl18_mf, pc_has0, pc_call0, pc_fr0, pc_has1, pc_call1, pc_fr1, pc_has2, pc_call2, pc_fr2, pc_has3, pc_call3, pc_fr3, pc_has4, pc_call4, pc_fr4, pc_has5, pc_call5, pc_fr5, pc_has6, pc_call6, pc_fr6, pc_has7, pc_call7, pc_fr7, pc_has8, pc_call8, pc_fr8, pc_has9, pc_call9, pc_fr9, pc_has10, pc_call10, pc_fr10, pc_has11, pc_call11, pc_fr11, pc_has12, pc_call12, pc_fr12, pc_has13, pc_call13, pc_fr13, pc_has14, pc_call14, pc_fr14, pc_has15, pc_call15, pc_fr15, pc_has16, pc_call16, pc_fr16, pc_has17, pc_call17, pc_fr17, pc_has18, pc_call18, pc_fr18, pc_glb20, pc_glb19, pc_glb21, pc_glb22, pc_cdt22, pl_has0, pl_call0, pl_fr0, pl_has1, pl_call1, pl_fr1, pl_has2, pl_call2, pl_fr2, pl_has3, pl_call3, pl_fr3, pl_has4, pl_call4, pl_fr4, pl_has5, pl_call5, pl_fr5, pl_has6, pl_call6, pl_fr6, pl_has7, pl_call7, pl_fr7, pl_has8, pl_call8, pl_fr8, pl_has9, pl_call9, pl_fr9, pl_has10, pl_call10, pl_fr10, pl_has11, pl_call11, pl_fr11, pl_has12, pl_call12, pl_fr12, pl_has13, pl_call13, pl_fr13, pl_has14, pl_call14, pl_fr14, pl_has15, pl_call15, pl_fr15, pl_has16, pl_call16, pl_fr16, pl_has17, pl_call17, pl_fr17, pl_has18, pl_call18, pl_fr18, pl_glb20, pl_glb19, pl_glb21, pl_glb22, pl_cdt22, chrV, peq_str, lit_n, lit_h, lit_w, lit_t, one_eq, hs, h25, hi, pget_lst, hat, e, pmut, hz2]
    · obtain ⟨v, σ', e, v0, v1, P⟩ := e_take (k + 1) z b σ hP (by omega) (by omega) (by omega)
      have hat : L2.atI [V.int b, V.int 5] 0 = some (.int b) := rfl
      refine ⟨.int v, σ', ?_, .inl ⟨rfl, v.toNat, by unfold nbd; rw [if_neg hs]; omega, by rw [Int.toNat_of_nonneg v0]⟩, P.mono (by omega)⟩
      have hi : pblt (Pc (k + 2) 11) .int [.bl false] = some (.int 0) := rfl
      simp only [↓pev_comp, ↓pex_for, ↓pex_whl, pexs, pex, pev, pevs, ppks, pevi, pevo, ptst, pevp, plook, psrc_str, psrc_tup, psrc_lst, List.map, List.replicate, List.cons_append, List.nil_append, Nat.sub_self, List.append_nil, Nat.reduceSub, Nat.reduceAdd, List.getElem?_cons_zero, List.getElem?_cons_succ, pbd_rt, pbd_ok, pbd_none, pup_some, pup_none, Option.map_some, Option.map_none, Option.isNone_none, Option.isNone_some, psE_rt, psE_ok, psE_none, psQ_nx, psQ_rt, psQ_bk, psQ_ct, pnoex_rt, if_true, if_false, Bool.false_eq_true, Bool.true_and, Bool.and_true, Bool.false_and, Bool.and_false, Bool.true_or, Bool.false_or, ne_eq, reduceCtorEq, not_false_eq_true, List.set_cons_zero, List.set_cons_succ, pendOf_rt, pendOf_nx, ptru_bl, ptru_int, Bool.not_true, Bool.not_false, Bool.and_self, Bool.or_false, Bool.or_true, not_true_eq_false, ptg, pwipe, pmE_call, pmE_app, pmE_ext, pmE_ins, pmE_clr, frE_lst, frE_list, frE_dict, frE_comp, frE_dct, frE_itl, frE_slc, frE_add, frE_spl, frE_call, frE_ite, isLD, List.all_cons, List.all_nil, Nat.reduceBEq, Nat.reduceEqDiff, Int.reduceEq, Int.reduceLT, Int.reduceLE, Int.reduceNeg, Int.reduceAdd, Int.reduceSub, reduceIte, decide_true, decide_false, Option.some.injEq, isV_var, isV_int, isV_str, isV_bl, isV_non, isV_glb, isV_tup, isV_lst, isV_bin, isV_neg, isV_cmp, isV_chn, isV_and, isV_or, isV_not, isV_ite, isV_idx, isV_slc, isV_call, isV_blt, isV_isi, isV_mth, isV_exf, isV_comp, isV_dct, isV_itl, tupE_var, tupE_int, tupE_str, tupE_bl, tupE_non, tupE_glb, tupE_tup, tupE_lst, tupE_bin, tupE_neg, tupE_cmp, tupE_chn, tupE_and, tupE_or, tupE_not, tupE_ite, tupE_idx, tupE_slc, tupE_call, tupE_blt, tupE_isi, tupE_mth, tupE_exf, tupE_comp, tupE_dct, tupE_itl, pc_calm, pc_exn, pc_free, pc_wf, pl_calm, pl_exn, pl_free, pl_wf, pc_pu, pl_pu, pc0_own, pc0_mf, pc1_own, pc1_mf, pc2_own, pc2_mf, pc3_own, pc3_mf, pc4_own, pc4_mf, pc5_own, pc5_mf, pc6_own, pc6_mf, pc7_own, pc7_mf, pc8_own, pc8_mf, pc9_own, pc9_mf, pc10_own, pc10_mf, pc11_own, pc11_mf, pc12_own, pc12_mf, pc13_own, pc13_mf, pc14_own, pc14_mf, pc15_own, pc15_mf, pc16_own, pc16_mf, pc17_own, pc17_mf, pc18_own, pc18_mf, pl18_own, pl18_mf, pc_has0, pc_call0, pc_fr0, pc_has1, pc_call1, pc_fr1, pc_has2, pc_call2, pc_fr2, pc_has3, pc_call3, pc_fr3, pc_has4, pc_call4, pc_fr4, pc_has5, pc_call5, pc_fr5, pc_has6, pc_call6, pc_fr6, pc_has7, pc_call7, pc_fr7, pc_has8, pc_call8, pc_fr8, pc_has9, pc_call9, pc_fr9, pc_has10, pc_call10, pc_fr10, pc_has11, pc_call11, pc_fr11, pc_has12, pc_call12, pc_fr12, pc_has13, pc_call13, pc_fr13, pc_has14, pc_call14, pc_fr14, pc_has15, pc_call15, pc_fr15, pc_has16, pc_call16, pc_fr16, pc_has17, pc_call17, pc_fr17, pc_has18, pc_call18, pc_fr18, pc_glb20, pc_glb19, pc_glb21, pc_glb22, pc_cdt22, pl_has0, pl_call0, pl_fr0, pl_has1, pl_call1, pl_fr1, pl_has2, pl_call2, pl_fr2, pl_has3, pl_call3, pl_fr3, pl_has4, pl_call4, pl_fr4, pl_has5, pl_call5, pl_fr5, pl_has6, pl_call6, pl_fr6, pl_has7, pl_call7, pl_fr7, pl_has8, pl_call8, pl_fr8, pl_has9, pl_call9, pl_fr9, pl_has10, pl_call10, pl_fr10, pl_has11, pl_call11, pl_fr11, pl_has12, pl_call12, pl_fr12, pl_has13, pl_call13, pl_fr13, pl_has14, pl_call14, pl_fr14, pl_has15, pl_call15, pl_fr15, pl_has16, pl_call16, pl_fr16, pl_has17, pl_call17, pl_fr17, pl_has18, pl_call18, pl_fr18, pl_glb20, pl_glb19, pl_glb21, pl_glb22, pl_cdt22, chrV, peq_str, lit_n, lit_h, lit_w, lit_t, one_eq, hs, h25, hi, pget_lst, hat, e, pmut, hz2]
  · obtain ⟨v, σ', e, v0, v1, P⟩ := e_take (k + 1) z 6 σ hP (by omega) (by decide) (by decide)
    refine ⟨.int v, σ', ?_, .inr (.inl ⟨rfl, v.toNat, by omega, by rw [Int.toNat_of_nonneg v0]⟩), P.mono (by omega)⟩
    simp only [↓pev_comp, ↓pex_for, ↓pex_whl, pexs, pex, pev, pevs, ppks, pevi, pevo, ptst, pevp, plook, psrc_str, psrc_tup, psrc_lst, List.map, List.replicate, List.cons_append, List.nil_append, Nat.sub_self, List.append_nil, Nat.reduceSub, Nat.reduceAdd, List.getElem?_cons_zero, List.getElem?_cons_succ, pbd_rt, pbd_ok, pbd_none, pup_some, pup_none, Option.map_some, Option.map_none, Option.isNone_none, Option.isNone_some, psE_rt, psE_ok, psE_none, psQ_nx, psQ_rt, psQ_bk, psQ_ct, pnoex_rt, if_true, if_false, Bool.false_eq_true, Bool.true_and, Bool.and_true, Bool.false_and, Bool.and_false, Bool.true_or, Bool.false_or, ne_eq, reduceCtorEq, not_false_eq_true, List.set_cons_zero, List.set_cons_succ, pendOf_rt, pendOf_nx, ptru_bl, ptru_int, Bool.not_true, Bool.not_false, Bool.and_self, Bool.or_false, Bool.or_true, not_true_eq_false, ptg, pwipe, pmE_call, pmE_app, pmE_ext, pmE_ins, pmE_clr, frE_lst, frE_list, frE_dict, frE_comp, frE_dct, frE_itl, frE_slc, frE_add, frE_spl, frE_call, frE_ite, isLD, List.all_cons, List.all_nil, Nat.reduceBEq, Nat.reduceEqDiff, Int.reduceEq, Int.reduceLT, Int.reduceLE, Int.reduceNeg, Int.reduceAdd, Int.reduceSub, reduceIte, decide_true, decide_false, Option.some.injEq, isV_var, isV_int, isV_str, isV_bl, isV_non, isV_glb, isV_tup, isV_lst, isV_bin, isV_neg, isV_cmp, isV_chn, isV_and, isV_or, isV_not, isV_ite, isV_idx, isV_slc, isV_call, isV_blt, isV_isi, isV_mth, isV_exf, isV_comp, isV_dct, isV_itl, tupE_var, tupE_int, tupE_str, tupE_bl, tupE_non, tupE_glb, tupE_tup, tupE_lst, tupE_bin, tupE_neg, tupE_cmp, tupE_chn, tupE_and, tupE_or, tupE_not, tupE_ite, tupE_idx, tupE_slc, tupE_call, tupE_blt, tupE_isi, tupE_mth, tupE_exf, tupE_comp, tupE_dct, tupE_itl, pc_calm, pc_exn, pc_free, pc_wf, pl_calm, pl_exn, pl_free, pl_wf, pc_pu, pl_pu, pc0_own, pc0_mf, pc1_own, pc1_mf, pc2_own, pc2_mf, pc3_own, pc3_mf, pc4_own, pc4_mf, pc5_own, pc5_mf, pc6_own, pc6_mf, pc7_own, pc7_mf, pc8_own, pc8_mf, pc9_own, pc9_mf, pc10_own, pc10_mf, pc11_own, pc11_mf, pc12_own, pc12_mf, pc13_own, pc13_mf, pc14_own, pc14_mf, pc15_own, pc15_mf, pc16_own, pc16_mf, pc17_own, pc17_mf, pc18_own, pc18_mf, pl18_own, pl18_mf, pc_has0, pc_call0, pc_fr0, pc_has1, pc_call1, pc_fr1, pc_has2, pc_call2, pc_fr2, pc_has3, pc_call3, pc_fr3, pc_has4, pc_call4, pc_fr4, pc_has5, pc_call5, pc_fr5, pc_has6, pc_call6, pc_fr6, pc_has7, pc_call7, pc_fr7, pc_has8, pc_call8, pc_fr8, pc_has9, pc_call9, pc_fr9, pc_has10, pc_call10, pc_fr10, pc_has11, pc_call11, pc_fr11, pc_has12, pc_call12, pc_fr12, pc_has13, pc_call13, pc_fr13, pc_has14, pc_call14, pc_fr14, pc_has15, pc_call15, pc_fr15, pc_has16, pc_call16, pc_fr16, pc_has17, pc_call17, pc_fr17, pc_has18, pc_call18, pc_fr18, pc_glb20, pc_glb19, pc_glb21, pc_glb22, pc_cdt22, pl_has0, pl_call0, pl_fr0, pl_has1, pl_call1, pl_fr1, pl_has2, pl_call2, pl_fr2, pl_has3, pl_call3, pl_fr3, pl_has4, pl_call4, pl_fr4, pl_has5, pl_call5, pl_fr5, pl_has6, pl_call6, pl_fr6, pl_has7, pl_call7, pl_fr7, pl_has8, pl_call8, pl_fr8, pl_has9, pl_call9, pl_fr9, pl_has10, pl_call10, pl_fr10, pl_has11, pl_call11, pl_fr11, pl_has12, pl_call12, pl_fr12, pl_has13, pl_call13, pl_fr13, pl_has14, pl_call14, pl_fr14, pl_has15, pl_call15, pl_fr15, pl_has16, pl_call16, pl_fr16, pl_has17, pl_call17, pl_fr17, pl_has18, pl_call18, pl_fr18, pl_glb20, pl_glb19, pl_glb21, pl_glb22, pl_cdt22, chrV, peq_str, lit_n, lit_h, lit_w, lit_t, one_eq, e, pmut, hz2]
  · obtain ⟨w, σ', e, hw, P⟩ := e_word k z σ hP (by omega)
    refine ⟨.str w, σ', ?_, .inr (.inr (.inl ⟨rfl, w, hw, rfl⟩)), P.mono (by omega)⟩
    simp only [↓pev_comp, ↓pex_for, ↓pex_whl, pexs, pex, pev, pevs, ppks, pevi, pevo, ptst, pevp, plook, psrc_str, psrc_tup, psrc_lst, List.map, List.replicate, List.cons_append, List.nil_append, Nat.sub_self, List.append_nil, Nat.reduceSub, Nat.reduceAdd, List.getElem?_cons_zero, List.getElem?_cons_succ, pbd_rt, pbd_ok, pbd_none, pup_some, pup_none, Option.map_some, Option.map_none, Option.isNone_none, Option.isNone_some, psE_rt, psE_ok, psE_none, psQ_nx, psQ_rt, psQ_bk, psQ_ct, pnoex_rt, if_true, if_false, Bool.false_eq_true, Bool.true_and, Bool.and_true, Bool.false_and, Bool.and_false, Bool.true_or, Bool.false_or, ne_eq, reduceCtorEq, not_false_eq_true, List.set_cons_zero, List.set_cons_succ, pendOf_rt, pendOf_nx, ptru_bl, ptru_int, Bool.not_true, Bool.not_false, Bool.and_self, Bool.or_false, Bool.or_true, not_true_eq_false, ptg, pwipe, pmE_call, pmE_app, pmE_ext, pmE_ins, pmE_clr, frE_lst, frE_list, frE_dict, frE_comp, frE_dct, frE_itl, frE_slc, frE_add, frE_spl, frE_call, frE_ite, isLD, List.all_cons, List.all_nil, Nat.reduceBEq, Nat.reduceEqDiff, Int.reduceEq, Int.reduceLT, Int.reduceLE, Int.reduceNeg, Int.reduceAdd, Int.reduceSub, reduceIte, decide_true, decide_false, Option.some.injEq, isV_var, isV_int, isV_str, isV_bl, isV_non, isV_glb, isV_tup, isV_lst, isV_bin, isV_neg, isV_cmp, isV_chn, isV_and, isV_or, isV_not, isV_ite, isV_idx, isV_slc, isV_call, isV_blt, isV_isi, isV_mth, isV_exf, isV_comp, isV_dct, isV_itl, tupE_var, tupE_int, tupE_str, tupE_bl, tupE_non, tupE_glb, tupE_tup, tupE_lst, tupE_bin, tupE_neg, tupE_cmp, tupE_chn, tupE_and, tupE_or, tupE_not, tupE_ite, tupE_idx, tupE_slc, tupE_call, tupE_blt, tupE_isi, tupE_mth, tupE_exf, tupE_comp, tupE_dct, tupE_itl, pc_calm, pc_exn, pc_free, pc_wf, pl_calm, pl_exn, pl_free, pl_wf, pc_pu, pl_pu, pc0_own, pc0_mf, pc1_own, pc1_mf, pc2_own, pc2_mf, pc3_own, pc3_mf, pc4_own, pc4_mf, pc5_own, pc5_mf, pc6_own, pc6_mf, pc7_own, pc7_mf, pc8_own, pc8_mf, pc9_own, pc9_mf, pc10_own, pc10_mf, pc11_own, pc11_mf, pc12_own, pc12_mf, pc13_own, pc13_mf, pc14_own, pc14_mf, pc15_own, pc15_mf, pc16_own, pc16_mf, pc17_own, pc17_mf, pc18_own, pc18_mf, pl18_own, pl18_mf, pc_has0, pc_call0, pc_fr0, pc_has1, pc_call1, pc_fr1, pc_has2, pc_call2, pc_fr2, pc_has3, pc_call3, pc_fr3, pc_has4, pc_call4, pc_fr4, pc_has5, pc_call5, pc_fr5, pc_has6, pc_call6, pc_fr6, pc_has7, pc_call7, pc_fr7, pc_has8, pc_call8, pc_fr8, pc_has9, pc_call9, pc_fr9, pc_has10, pc_call10, pc_fr10, pc_has11, pc_call11, pc_fr11, pc_has12, pc_call12, pc_fr12, pc_has13, pc_call13, pc_fr13, pc_has14, pc_call14, pc_fr14, pc_has15, pc_call15, pc_fr15, pc_has16, pc_call16, pc_fr16, pc_has17, pc_call17, pc_fr17, pc_has18, pc_call18, pc_fr18, pc_glb20, pc_glb19, pc_glb21, pc_glb22, pc_cdt22, pl_has0, pl_call0, pl_fr0, pl_has1, pl_call1, pl_fr1, pl_has2, pl_call2, pl_fr2, pl_has3, pl_call3, pl_fr3, pl_has4, pl_call4, pl_fr4, pl_has5, pl_call5, pl_fr5, pl_has6, pl_call6, pl_fr6, pl_has7, pl_call7, pl_fr7, pl_has8, pl_call8, pl_fr8, pl_has9, pl_call9, pl_fr9, pl_has10, pl_call10, pl_fr10, pl_has11, pl_call11, pl_fr11, pl_has12, pl_call12, pl_fr12, pl_has13, pl_call13, pl_fr13, pl_has14, pl_call14, pl_fr14, pl_has15, pl_call15, pl_fr15, pl_has16, pl_call16, pl_fr16, pl_has17, pl_call17, pl_fr17, pl_has18, pl_call18, pl_fr18, pl_glb20, pl_glb19, pl_glb21, pl_glb22, pl_cdt22, chrV, peq_str, lit_n, lit_h, lit_w, lit_t, one_eq, e, pmut, hz2]
  · have e1 : EB d = DB (d - 1) := by unfold EB; rw [if_neg (by omega)]
    obtain ⟨t, σ', e, t1, t2, t3, P⟩ := ih z σ hd hP (by omega)
    refine ⟨t.v, σ', ?_, .inr (.inr (.inr ⟨rfl, t, t1, t2, t3, rfl⟩)), by rw [e1]; exact P⟩
    simp only [↓pev_comp, ↓pex_for, ↓pex_whl, pexs, pex, pev, pevs, ppks, pevi, pevo, ptst, pevp, plook, psrc_str, psrc_tup, psrc_lst, List.map, List.replicate, List.cons_append, List.nil_append, Nat.sub_self, List.append_nil, Nat.reduceSub, Nat.reduceAdd, List.getElem?_cons_zero, List.getElem?_cons_succ, pbd_rt, pbd_ok, pbd_none, pup_some, pup_none, Option.map_some, Option.map_none, Option.isNone_none, Option.isNone_some, psE_rt, psE_ok, psE_none, psQ_nx, psQ_rt, psQ_bk, psQ_ct, pnoex_rt, if_true, if_false, Bool.false_eq_true, Bool.true_and, Bool.and_true, Bool.false_and, Bool.and_false, Bool.true_or, Bool.false_or, ne_eq, reduceCtorEq, not_false_eq_true, List.set_cons_zero, List.set_cons_succ, pendOf_rt, pendOf_nx, ptru_bl, ptru_int, Bool.not_true, Bool.not_false, Bool.and_self, Bool.or_false, Bool.or_true, not_true_eq_false, ptg, pwipe, pmE_call, pmE_app, pmE_ext, pmE_ins, pmE_clr, frE_lst, frE_list, frE_dict, frE_comp, frE_dct, frE_itl, frE_slc, frE_add, frE_spl, frE_call, frE_ite, isLD, List.all_cons, List.all_nil, Nat.reduceBEq, Nat.reduceEqDiff, Int.reduceEq, Int.reduceLT, Int.reduceLE, Int.reduceNeg, Int.reduceAdd, Int.reduceSub, reduceIte, decide_true, decide_false, Option.some.injEq, isV_var, isV_int, isV_str, isV_bl, isV_non, isV_glb, isV_tup, isV_lst, isV_bin, isV_neg, isV_cmp, isV_chn, isV_and, isV_or, isV_not, isV_ite, isV_idx, isV_slc, isV_call, isV_blt, isV_isi, isV_mth, isV_exf, isV_comp, isV_dct, isV_itl, tupE_var, tupE_int, tupE_str, tupE_bl, tupE_non, tupE_glb, tupE_tup, tupE_lst, tupE_bin, tupE_neg, tupE_cmp, tupE_chn, tupE_and, tupE_or, tupE_not, tupE_ite, tupE_idx, tupE_slc, tupE_call, tupE_blt, tupE_isi, tupE_mth, tupE_exf, tupE_comp, tupE_dct, tupE_itl, pc_calm, pc_exn, pc_free, pc_wf, pl_calm, pl_exn, pl_free, pl_wf, pc_pu, pl_pu, pc0_own, pc0_mf, pc1_own, pc1_mf, pc2_own, pc2_mf, pc3_own, pc3_mf, pc4_own, pc4_mf, pc5_own, pc5_mf, pc6_own, pc6_mf, pc7_own, pc7_mf, pc8_own, pc8_mf, pc9_own, pc9_mf, pc10_own, pc10_mf, pc11_own, pc11_mf, pc12_own, pc12_mf, pc13_own, pc13_mf, pc14_own, pc14_mf, pc15_own, pc15_mf, pc16_own, pc16_mf, pc17_own, pc17_mf, pc18_own, pc18_mf, pl18_own, pl18_mf, pc_has0, pc_call0, pc_fr0, pc_has1, pc_call1, pc_fr1, pc_has2, pc_call2, pc_fr2, pc_has3, pc_call3, pc_fr3, pc_has4, pc_call4, pc_fr4, pc_has5, pc_call5, pc_fr5, pc_has6, pc_call6, pc_fr6, pc_has7, pc_call7, pc_fr7, pc_has8, pc_call8, pc_fr8, pc_has9, pc_call9, pc_fr9, pc_has10, pc_call10, pc_fr10, pc_has11, pc_call11, pc_fr11, pc_has12, pc_call12, pc_fr12, pc_has13, pc_call13, pc_fr13, pc_has14, pc_call14, pc_fr14, pc_has15, pc_call15, pc_fr15, pc_has16, pc_call16, pc_fr16, pc_has17, pc_call17, pc_fr17, pc_has18, pc_call18, pc_fr18, pc_glb20, pc_glb19, pc_glb21, pc_glb22, pc_cdt22, pl_has0, pl_call0, pl_fr0, pl_has1, pl_call1, pl_fr1, pl_has2, pl_call2, pl_fr2, pl_has3, pl_call3, pl_fr3, pl_has4, pl_call4, pl_fr4, pl_has5, pl_call5, pl_fr5, pl_has6, pl_call6, pl_fr6, pl_has7, pl_call7, pl_fr7, pl_has8, pl_call8, pl_fr8, pl_has9, pl_call9, pl_fr9, pl_has10, pl_call10, pl_fr10, pl_has11, pl_call11, pl_fr11, pl_has12, pl_call12, pl_fr12, pl_has13, pl_call13, pl_fr13, pl_has14, pl_call14, pl_fr14, pl_has15, pl_call15, pl_fr15, pl_has16, pl_call16, pl_fr16, pl_has17, pl_call17, pl_fr17, pl_has18, pl_call18, pl_fr18, pl_glb20, pl_glb19, pl_glb21, pl_glb22, pl_cdt22, chrV, peq_str, lit_n, lit_h, lit_w, lit_t, one_eq, psub_int, e, pmut, hz2]
theorem draw_loop {k d b : Nat} {s : Str} (hb : 0 < b ∧ b < 1000000) (ih : ∀ (z : Int) (σ : PS), 0 < d → PuOk z σ → z + DB (d - 1) < 900000000 → ∃ (t : Mi.Tm) (σ' : PS), Mi.pv T D (k + 2) 11 [.prs, .int ((d : Int) - 1), .int b] σ = prt t.v σ' ∧ t.ok ∧ t.dp < d ∧ t.lt b ∧ PuOk (z + DB (d - 1)) σ') (ws : V) :
    ∀ (cs : List Nat) (z : Int) (σ : PS) (acc : List V) (l6 : Option V), (∀ c ∈ cs, c = 110 ∨ c = 104 ∨ c = 119 ∨ (c = 116 ∧ 0 < d)) → z + cs.length * EB d < 900000000 → PuOk z σ → acc.length + cs.length < 100 →
      ∃ vs σ' l6', pfor (ptg (Pc (k + 2) 11) (.nm 6)) (pbodyF (Pc (k + 2) 11) T.excs bodyD) (cs.map chrV) [some .prs, some (.int d), some (.int b), some ws, some (.str s), some (.lst acc), l6] σ = some (.nx [some .prs, some (.int d), some (.int b), some ws, some (.str s), some (.lst (acc ++ vs)), l6'] σ') ∧ DrPs (nbd s b) b d cs vs ∧ PuOk (z + cs.length * EB d) σ'
  | [], z, σ, acc, l6, _, _, hP, _ => ⟨[], σ, l6, by simp [pfor], rfl, by simpa using hP⟩
  | c :: cs, z, σ, acc, l6, hc, hz, hP, ha => by
    have hE := eb_pos d
    have h0 : (0 : Int) ≤ cs.length * EB d := Int.mul_nonneg (by omega) (by omega)
    simp only [List.length_cons] at ha hz ⊢
    have hmul : (((cs.length + 1 : Nat) : Int)) * EB d = EB d + cs.length * EB d := by push_cast; rw [Int.add_mul, Int.one_mul, Int.add_comm]
    rw [hmul] at hz ⊢
    obtain ⟨v, σ1, e1, r1, P1⟩ := draw_body (s := s) hb ih c (hc c List.mem_cons_self) z σ ws acc l6 (by omega) hP (by omega)
    obtain ⟨vs, σ2, l6', e2, r2, P2⟩ := draw_loop hb ih ws cs (z + EB d) σ1 (acc ++ [v]) (some (chrV c)) (fun c hm => hc c (List.mem_cons_of_mem _ hm)) (by omega) P1 (by simp; omega)
    refine ⟨v :: vs, σ2, l6', ?_, ⟨v, vs, rfl, r1, r2⟩, by rw [← Int.add_assoc]; exact P2⟩
    have ht : ptg (Pc (k + 2) 11) (.nm 6) (chrV c) [some .prs, some (.int d), some (.int b), some ws, some (.str s), some (.lst acc), l6] = some [some .prs, some (.int d), some (.int b), some ws, some (.str s), some (.lst acc), some (chrV c)] := by
      simp only [↓pev_comp, ↓pex_for, ↓pex_whl, pexs, pex, pev, pevs, ppks, pevi, pevo, ptst, pevp, plook, psrc_str, psrc_tup, psrc_lst, List.map, List.replicate, List.cons_append, List.nil_append, Nat.sub_self, List.append_nil, Nat.reduceSub, Nat.reduceAdd, List.getElem?_cons_zero, List.getElem?_cons_succ, pbd_rt, pbd_ok, pbd_none, pup_some, pup_none, Option.map_some, Option.map_none, Option.isNone_none, Option.isNone_some, psE_rt, psE_ok, psE_none, psQ_nx, psQ_rt, psQ_bk, psQ_ct, pnoex_rt, if_true, if_false, Bool.false_eq_true, Bool.true_and, Bool.and_true, Bool.false_and, Bool.and_false, Bool.true_or, Bool.false_or, ne_eq, reduceCtorEq, not_false_eq_true, List.set_cons_zero, List.set_cons_succ, pendOf_rt, pendOf_nx, ptru_bl, ptru_int, Bool.not_true, Bool.not_false, Bool.and_self, Bool.or_false, Bool.or_true, not_true_eq_false, ptg, pwipe, pmE_call, pmE_app, pmE_ext, pmE_ins, pmE_clr, frE_lst, frE_list, frE_dict, frE_comp, frE_dct, frE_itl, frE_slc, frE_add, frE_spl, frE_call, frE_ite, isLD, List.all_cons, List.all_nil, Nat.reduceBEq, Nat.reduceEqDiff, Int.reduceEq, Int.reduceLT, Int.reduceLE, Int.reduceNeg, Int.reduceAdd, Int.reduceSub, reduceIte, decide_true, decide_false, Option.some.injEq, isV_var, isV_int, isV_str, isV_bl, isV_non, isV_glb, isV_tup, isV_lst, isV_bin, isV_neg, isV_cmp, isV_chn, isV_and, isV_or, isV_not, isV_ite, isV_idx, isV_slc, isV_call, isV_blt, isV_isi, isV_mth, isV_exf, isV_comp, isV_dct, isV_itl, tupE_var, tupE_int, tupE_str, tupE_bl, tupE_non, tupE_glb, tupE_tup, tupE_lst, tupE_bin, tupE_neg, tupE_cmp, tupE_chn, tupE_and, tupE_or, tupE_not, tupE_ite, tupE_idx, tupE_slc, tupE_call, tupE_blt, tupE_isi, tupE_mth, tupE_exf, tupE_comp, tupE_dct, tupE_itl, pc_calm, pc_exn, pc_free, pc_wf, pl_calm, pl_exn, pl_free, pl_wf, pc_pu, pl_pu, pc0_own, pc0_mf, pc1_own, pc1_mf, pc2_own, pc2_mf, pc3_own, pc3_mf, pc4_own, pc4_mf, pc5_own, pc5_mf, pc6_own, pc6_mf, pc7_own, pc7_mf, pc8_own, pc8_mf, pc9_own, pc9_mf, pc10_own, pc10_mf, pc11_own, pc11_mf, pc12_own, pc12_mf, pc13_own, pc13_mf, pc14_own, pc14_mf, pc15_own, pc15_mf, pc16_own, pc16_mf, pc17_own, pc17_mf, pc18_own, pc18_mf, pl18_own, pl18_mf, pc_has0, pc_call0, pc_fr0, pc_has1, pc_call1, pc_fr1, pc_has2, pc_call2, pc_fr2, pc_has3, pc_call3, pc_fr3, pc_has4, pc_call4, pc_fr4, pc_has5, pc_call5, pc_fr5, pc_has6, pc_call6, pc_fr6, pc_has7, pc_call7, pc_fr7, pc_has8, pc_call8, pc_fr8, pc_has9, pc_call9, pc_fr9, pc_has10, pc_call10, pc_fr10, pc_has11, pc_call11, pc_fr11, pc_has12, pc_call12, pc_fr12, pc_has13, pc_call13, pc_fr13, pc_has14, pc_call14, pc_fr14, pc_has15, pc_call15, pc_fr15, pc_has16, pc_call16, pc_fr16, pc_has17, pc_call17, pc_fr17, pc_has18, pc_call18, pc_fr18, pc_glb20, pc_glb19, pc_glb21, pc_glb22, pc_cdt22, pl_has0, pl_call0, pl_fr0, pl_has1, pl_call1, pl_fr1, pl_has2, pl_call2, pl_fr2, pl_has3, pl_call3, pl_fr3, pl_has4, pl_call4, pl_fr4, pl_has5, pl_call5, pl_fr5, pl_has6, pl_call6, pl_fr6, pl_has7, pl_call7, pl_fr7, pl_has8, pl_call8, pl_fr8, pl_has9, pl_call9, pl_fr9, pl_has10, pl_call10, pl_fr10, pl_has11, pl_call11, pl_fr11, pl_has12, pl_call12, pl_fr12, pl_has13, pl_call13, pl_fr13, pl_has14, pl_call14, pl_fr14, pl_has15, pl_call15, pl_fr15, pl_has16, pl_call16, pl_fr16, pl_has17, pl_call17, pl_fr17, pl_has18, pl_call18, pl_fr18, pl_glb20, pl_glb19, pl_glb21, pl_glb22, pl_cdt22]
    simp only [List.map_cons, pfor, ht, e1]
    rw [e2]
    simp only [List.append_assoc, List.singleton_append, List.cons_append, List.nil_append]
theorem word_get (u : Int) (m : Nat) (hm : m ≤ 14) (h0 : 0 ≤ u) (h1 : u < m) : ∃ s ∈ W14.take m, L2.atI (W14.map V.str) u = some (.str s) := by
  obtain ⟨j, rfl⟩ : ∃ j : Nat, u = j := ⟨u.toNat, by omega⟩
  have hl : W14.length = 14 := rfl
  have hj : j < W14.length := by omega
  refine ⟨W14[j], ?_, ?_⟩
  · rw [List.mem_take_iff_getElem]
    exact ⟨j, by omega, rfl⟩
  · rw [at_nat _ _ (by simpa using hj), List.getElem?_map, List.getElem?_eq_getElem hj]; rfl
theorem word_form {s : Str} (h : s ∈ W14) : ∃ f : Str, kvGet FORMS s = some (.str f) ∧ (s ∈ W14.take 7 → ∀ c ∈ f.cps.toList, c ≠ 116) := by
  simp only [W14, List.mem_cons, List.not_mem_nil, or_false] at h
  rcases h with rfl | rfl | rfl | rfl | rfl | rfl | rfl | rfl | rfl | rfl | rfl | rfl | rfl | rfl <;> exact ⟨_, rfl, by decide +kernel⟩
theorem drp_110 {nb b d : Nat} {v : V} (h : DrP nb b d 110 v) : ∃ n : Nat, n < nb ∧ v = .int n := by
  rcases h with ⟨_, h⟩ | ⟨h, _⟩ | ⟨h, _⟩ | ⟨h, _⟩ <;> first | exact h | cases h
theorem drp_104 {nb b d : Nat} {v : V} (h : DrP nb b d 104 v) : ∃ n : Nat, n < 6 ∧ v = .int n := by
  rcases h with ⟨h, _⟩ | ⟨_, h⟩ | ⟨h, _⟩ | ⟨h, _⟩ <;> first | exact h | cases h
theorem drp_119 {nb b d : Nat} {v : V} (h : DrP nb b d 119 v) : ∃ w, nmOk w ∧ v = .str w := by
  rcases h with ⟨h, _⟩ | ⟨h, _⟩ | ⟨_, h⟩ | ⟨h, _⟩ <;> first | exact h | cases h
theorem drp_116 {nb b d : Nat} {v : V} (h : DrP nb b d 116 v) : ∃ t : Mi.Tm, t.ok ∧ t.dp < d ∧ t.lt b ∧ v = t.v := by
  rcases h with ⟨h, _⟩ | ⟨h, _⟩ | ⟨h, _⟩ | ⟨_, h⟩ <;> first | exact h | cases h
theorem draw_tm {b d : Nat} {s f : Str} {vs : List V} (hb : 0 < b ∧ b < 1000000) (h : s ∈ W14) (hf : kvGet FORMS s = some (.str f)) (hd : DrPs (nbd s b) b d f.cps.toList vs) : ∃ t : Mi.Tm, .tup (.str s :: vs) = t.v ∧ t.ok ∧ t.dp ≤ d ∧ t.lt b := by
  have e1 : ("n" : Str).cps.toList = [110] := by decide +kernel
  have e2 : ("h" : Str).cps.toList = [104] := by decide +kernel
  have e3 : ("w" : Str).cps.toList = [119] := by decide +kernel
  have e4 : ("wn" : Str).cps.toList = [119, 110] := by decide +kernel
  have e5 : ("wh" : Str).cps.toList = [119, 104] := by decide +kernel
  have e6 : ("tt" : Str).cps.toList = [116, 116] := by decide +kernel
  have e7 : ("ttt" : Str).cps.toList = [116, 116, 116] := by decide +kernel
  have two : f = "tt" → (s = "all" ∨ s = "fun" ∨ s = "app" ∨ s = "self") → ∃ t : Mi.Tm, .tup (.str s :: vs) = t.v ∧ t.ok ∧ t.dp ≤ d ∧ t.lt b := fun hff hs => by
    subst hff
    rw [e6] at hd
    obtain ⟨v1, r1, rfl, p1, v2, r2, rfl, p2, rfl⟩ := hd
    obtain ⟨t1, a1, a2, a3, rfl⟩ := drp_116 p1
    obtain ⟨t2, b1, b2, b3, rfl⟩ := drp_116 p2
    exact ⟨.nd s [t1, t2], rfl, ⟨.inl ⟨hs, rfl⟩, a1, b1, trivial⟩, by simp only [Tm.dp, Tm.dps]; omega, a3, b3, trivial⟩
  have three : f = "ttt" → (s = "same" ∨ s = "put") → ∃ t : Mi.Tm, .tup (.str s :: vs) = t.v ∧ t.ok ∧ t.dp ≤ d ∧ t.lt b := fun hff hs => by
    subst hff
    rw [e7] at hd
    obtain ⟨v1, r1, rfl, p1, v2, r2, rfl, p2, v3, r3, rfl, p3, rfl⟩ := hd
    obtain ⟨t1, a1, a2, a3, rfl⟩ := drp_116 p1
    obtain ⟨t2, b1, b2, b3, rfl⟩ := drp_116 p2
    obtain ⟨t3, c1, c2, c3, rfl⟩ := drp_116 p3
    exact ⟨.nd s [t1, t2, t3], rfl, ⟨.inr ⟨hs, rfl⟩, a1, b1, c1, trivial⟩, by simp only [Tm.dp, Tm.dps]; omega, a3, b3, c3, trivial⟩
  have atc : s = "at" → f = "n" → ∃ t : Mi.Tm, .tup (.str s :: vs) = t.v ∧ t.ok ∧ t.dp ≤ d ∧ t.lt b := fun hs hff => by
    subst hff
    subst hs
    rw [e1] at hd
    obtain ⟨v1, r1, rfl, p1, rfl⟩ := hd
    obtain ⟨n, hn, rfl⟩ := drp_110 p1
    have hn : n < b := hn
    exact ⟨.at n, rfl, by simp only [Tm.ok]; omega, by simp only [Tm.dp]; omega, hn⟩
  have nm : (s = "name" ∨ s = "thing") → f = "w" → ∃ t : Mi.Tm, .tup (.str s :: vs) = t.v ∧ t.ok ∧ t.dp ≤ d ∧ t.lt b := fun hs hff => by
    subst hff
    rw [e3] at hd
    obtain ⟨v1, r1, rfl, p1, rfl⟩ := hd
    obtain ⟨w, hw, rfl⟩ := drp_119 p1
    exact ⟨.lf s [.str w], rfl, .inr (.inl ⟨hs, w, hw, rfl⟩), by simp only [Tm.dp]; omega, trivial⟩
  simp only [W14, List.mem_cons, List.not_mem_nil, or_false] at h
  rcases h with rfl | rfl | rfl | rfl | rfl | rfl | rfl | rfl | rfl | rfl | rfl | rfl | rfl | rfl
  · cases hf; exact atc rfl rfl
  · cases hf; exact atc rfl rfl
  · cases hf
    rw [e2] at hd
    obtain ⟨v1, r1, rfl, p1, rfl⟩ := hd
    obtain ⟨n, hn, rfl⟩ := drp_104 p1
    exact ⟨.lf "kind" [.int n], rfl, .inl ⟨rfl, n, by omega, rfl⟩, by simp only [Tm.dp]; omega, trivial⟩
  · cases hf; exact nm (.inl rfl) rfl
  · cases hf; exact nm (.inr rfl) rfl
  · cases hf
    rw [e4] at hd
    obtain ⟨v1, r1, rfl, p1, v2, r2, rfl, p2, rfl⟩ := hd
    obtain ⟨w, hw, rfl⟩ := drp_119 p1
    obtain ⟨n, hn, rfl⟩ := drp_110 p2
    have hn : n < 5 := hn
    exact ⟨.lf "maker" [.str w, .int n], rfl, .inr (.inr (.inl ⟨rfl, w, n, hw, by omega, rfl⟩)), by simp only [Tm.dp]; omega, trivial⟩
  · cases hf
    rw [e5] at hd
    obtain ⟨v1, r1, rfl, p1, v2, r2, rfl, p2, rfl⟩ := hd
    obtain ⟨w, hw, rfl⟩ := drp_119 p1
    obtain ⟨n, hn, rfl⟩ := drp_104 p2
    exact ⟨.lf "eater" [.str w, .int n], rfl, .inr (.inr (.inr ⟨rfl, w, n, hw, by omega, rfl⟩)), by simp only [Tm.dp]; omega, trivial⟩
  · cases hf; exact two rfl (.inl rfl)
  · cases hf; exact two rfl (.inr (.inl rfl))
  · cases hf; exact two rfl (.inr (.inr (.inl rfl)))
  · cases hf; exact two rfl (.inr (.inr (.inl rfl)))
  · cases hf; exact three rfl (.inl rfl)
  · cases hf; exact two rfl (.inr (.inr (.inr rfl)))
  · cases hf; exact three rfl (.inr rfl)
theorem draw_core {k d b : Nat} (hb : 0 < b ∧ b < 1000000) (ih : ∀ (z : Int) (σ : PS), 0 < d → PuOk z σ → z + DB (d - 1) < 900000000 → ∃ (t : Mi.Tm) (σ' : PS), Mi.pv T D (k + 2) 11 [.prs, .int ((d : Int) - 1), .int b] σ = prt t.v σ' ∧ t.ok ∧ t.dp < d ∧ t.lt b ∧ PuOk (z + DB (d - 1)) σ')
    (z : Int) (σ : PS) (hP : PuOk z σ) (hz : z + DB d < 900000000) : ∃ (t : Mi.Tm) (σ' : PS), Mi.pv T D (k + 3) 11 [.prs, .int d, .int b] σ = prt t.v σ' ∧ t.ok ∧ t.dp ≤ d ∧ t.lt b ∧ PuOk (z + DB d) σ' := by
  rw [pv_s (k + 2) 11 _ _ m_law_term rfl rfl rfl]
  have hE := eb_pos d
  have hD := eb_db d
  have hmk : pmthK .split (.str "at at kind name thing maker eater all fun app app same self put") = true := rfl
  have h1 : ∀ v : V, [v].length ≤ sizeLine := fun v => by show 1 ≤ sizeLine; decide
  have fin : ∀ (s : Str) (σ1 : PS) (hP : PuOk (z + 1) σ1) (hs : s ∈ W14) (hs0 : d = 0 → s ∈ W14.take 7), ∃ (f : Str) (t : Mi.Tm) (vs : List V) (σ' : PS) (l6 : Option V), kvGet FORMS s = some (.str f) ∧ .tup (.str s :: vs) = t.v ∧ t.ok ∧ t.dp ≤ d ∧ t.lt b ∧ PuOk (z + DB d) σ' ∧
      pfor (ptg (Pc (k + 2) 11) (.nm 6)) (pbodyF (Pc (k + 2) 11) T.excs bodyD) (f.cps.toList.map chrV) [some .prs, some (.int d), some (.int b), some (.lst (W14.map V.str)), some (.str s), some (.lst [.str s]), none] σ1 = some (.nx [some .prs, some (.int d), some (.int b), some (.lst (W14.map V.str)), some (.str s), some (.lst (.str s :: vs)), l6] σ') := fun s σ1 hP hs hs0 => by
    obtain ⟨f, hf, hf7⟩ := word_form hs
    obtain ⟨f', e, hl, hc⟩ := forms_str hf
    cases e
    have hlc : f.cps.toList.length ≤ 3 := by rw [str_len]; exact hl
    have hmul : (f.cps.toList.length : Int) * EB d ≤ 3 * EB d := Int.mul_le_mul_of_nonneg_right (by omega) (by omega)
    obtain ⟨vs, σ', l6, e1, r1, P1⟩ := draw_loop (s := s) hb ih (.lst (W14.map V.str)) f.cps.toList (z + 1) σ1 [.str s] none (fun c hm => by
      rcases hc c hm with q | q | q | q
      · exact .inl q
      · exact .inr (.inl q)
      · exact .inr (.inr (.inl q))
      · refine .inr (.inr (.inr ⟨q, Nat.pos_of_ne_zero fun h0 => hf7 (hs0 h0) c hm q⟩))) (by omega) hP (by simp only [List.length_cons, List.length_nil]; omega)
    obtain ⟨t, t0, t1, t2, t3⟩ := draw_tm hb hs hf r1
    exact ⟨f, t, vs, σ', l6, hf, t0, t1, t2, t3, P1.mono (by omega), e1⟩
  by_cases hd : d = 0
  · obtain ⟨u, σ1, e1, u0, u1, P1⟩ := e_take (k + 1) z 7 σ hP (by omega) (by decide) (by decide)
    obtain ⟨s, hs, hat⟩ := word_get u 7 (by decide) u0 (by omega)
    obtain ⟨f, t, vs, σ', l6, hf, t0, t1, t2, t3, P2, e2⟩ := fin s σ1 P1 (List.mem_of_mem_take hs) (fun _ => hs)
    refine ⟨t, σ', ?_, t1, t2, t3, P2⟩
    have hd0 : decide ((d : Int) = 0) = true := by simp [hd]
    simp only [bodyD, nthS, forB, m_law_term] at e2
    simp only [m_law_term]
    simp only [↓pev_comp, ↓pex_for, ↓pex_whl, pexs, pex, pev, pevs, ppks, pevi, pevo, ptst, pevp, plook, psrc_str, psrc_tup, psrc_lst, List.map, List.replicate, List.cons_append, List.nil_append, Nat.sub_self, List.append_nil, Nat.reduceSub, Nat.reduceAdd, List.getElem?_cons_zero, List.getElem?_cons_succ, pbd_rt, pbd_ok, pbd_none, pup_some, pup_none, Option.map_some, Option.map_none, Option.isNone_none, Option.isNone_some, psE_rt, psE_ok, psE_none, psQ_nx, psQ_rt, psQ_bk, psQ_ct, pnoex_rt, if_true, if_false, Bool.false_eq_true, Bool.true_and, Bool.and_true, Bool.false_and, Bool.and_false, Bool.true_or, Bool.false_or, ne_eq, reduceCtorEq, not_false_eq_true, List.set_cons_zero, List.set_cons_succ, pendOf_rt, pendOf_nx, ptru_bl, ptru_int, Bool.not_true, Bool.not_false, Bool.and_self, Bool.or_false, Bool.or_true, not_true_eq_false, ptg, pwipe, pmE_call, pmE_app, pmE_ext, pmE_ins, pmE_clr, frE_lst, frE_list, frE_dict, frE_comp, frE_dct, frE_itl, frE_slc, frE_add, frE_spl, frE_call, frE_ite, isLD, List.all_cons, List.all_nil, Nat.reduceBEq, Nat.reduceEqDiff, Int.reduceEq, Int.reduceLT, Int.reduceLE, Int.reduceNeg, Int.reduceAdd, Int.reduceSub, reduceIte, decide_true, decide_false, Option.some.injEq, isV_var, isV_int, isV_str, isV_bl, isV_non, isV_glb, isV_tup, isV_lst, isV_bin, isV_neg, isV_cmp, isV_chn, isV_and, isV_or, isV_not, isV_ite, isV_idx, isV_slc, isV_call, isV_blt, isV_isi, isV_mth, isV_exf, isV_comp, isV_dct, isV_itl, tupE_var, tupE_int, tupE_str, tupE_bl, tupE_non, tupE_glb, tupE_tup, tupE_lst, tupE_bin, tupE_neg, tupE_cmp, tupE_chn, tupE_and, tupE_or, tupE_not, tupE_ite, tupE_idx, tupE_slc, tupE_call, tupE_blt, tupE_isi, tupE_mth, tupE_exf, tupE_comp, tupE_dct, tupE_itl, pc_calm, pc_exn, pc_free, pc_wf, pl_calm, pl_exn, pl_free, pl_wf, pc_pu, pl_pu, pc0_own, pc0_mf, pc1_own, pc1_mf, pc2_own, pc2_mf, pc3_own, pc3_mf, pc4_own, pc4_mf, pc5_own, pc5_mf, pc6_own, pc6_mf, pc7_own, pc7_mf, pc8_own, pc8_mf, pc9_own, pc9_mf, pc10_own, pc10_mf, pc11_own, pc11_mf, pc12_own, pc12_mf, pc13_own, pc13_mf, pc14_own, pc14_mf, pc15_own, pc15_mf, pc16_own, pc16_mf, pc17_own, pc17_mf, pc18_own, pc18_mf, pl18_own, pl18_mf, pc_has0, pc_call0, pc_fr0, pc_has1, pc_call1, pc_fr1, pc_has2, pc_call2, pc_fr2, pc_has3, pc_call3, pc_fr3, pc_has4, pc_call4, pc_fr4, pc_has5, pc_call5, pc_fr5, pc_has6, pc_call6, pc_fr6, pc_has7, pc_call7, pc_fr7, pc_has8, pc_call8, pc_fr8, pc_has9, pc_call9, pc_fr9, pc_has10, pc_call10, pc_fr10, pc_has11, pc_call11, pc_fr11, pc_has12, pc_call12, pc_fr12, pc_has13, pc_call13, pc_fr13, pc_has14, pc_call14, pc_fr14, pc_has15, pc_call15, pc_fr15, pc_has16, pc_call16, pc_fr16, pc_has17, pc_call17, pc_fr17, pc_has18, pc_call18, pc_fr18, pc_glb20, pc_glb19, pc_glb21, pc_glb22, pc_cdt22, pl_has0, pl_call0, pl_fr0, pl_has1, pl_call1, pl_fr1, pl_has2, pl_call2, pl_fr2, pl_has3, pl_call3, pl_fr3, pl_has4, pl_call4, pl_fr4, pl_has5, pl_call5, pl_fr5, pl_has6, pl_call6, pl_fr6, pl_has7, pl_call7, pl_fr7, pl_has8, pl_call8, pl_fr8, pl_has9, pl_call9, pl_fr9, pl_has10, pl_call10, pl_fr10, pl_has11, pl_call11, pl_fr11, pl_has12, pl_call12, pl_fr12, pl_has13, pl_call13, pl_fr13, pl_has14, pl_call14, pl_fr14, pl_has15, pl_call15, pl_fr15, pl_has16, pl_call16, pl_fr16, pl_has17, pl_call17, pl_fr17, pl_has18, pl_call18, pl_fr18, pl_glb20, pl_glb19, pl_glb21, pl_glb22, pl_cdt22, hmk, split14, peq_int, hd0, e1, pget_lst, hat, h1, e_forms, pget_dct, kS_get, hf, e2, pblt, pseq, t0]
  · obtain ⟨u, σ1, e1, u0, u1, P1⟩ := e_take (k + 1) z 14 σ hP (by omega) (by decide) (by decide)
    obtain ⟨s, hs, hat⟩ := word_get u 14 (by decide) u0 (by omega)
    obtain ⟨f, t, vs, σ', l6, hf, t0, t1, t2, t3, P2, e2⟩ := fin s σ1 P1 (List.mem_of_mem_take hs) (fun q => absurd q hd)
    refine ⟨t, σ', ?_, t1, t2, t3, P2⟩
    have hd0 : decide ((d : Int) = 0) = false := by simp; omega
    simp only [bodyD, nthS, forB, m_law_term] at e2
    simp only [m_law_term]
    simp only [↓pev_comp, ↓pex_for, ↓pex_whl, pexs, pex, pev, pevs, ppks, pevi, pevo, ptst, pevp, plook, psrc_str, psrc_tup, psrc_lst, List.map, List.replicate, List.cons_append, List.nil_append, Nat.sub_self, List.append_nil, Nat.reduceSub, Nat.reduceAdd, List.getElem?_cons_zero, List.getElem?_cons_succ, pbd_rt, pbd_ok, pbd_none, pup_some, pup_none, Option.map_some, Option.map_none, Option.isNone_none, Option.isNone_some, psE_rt, psE_ok, psE_none, psQ_nx, psQ_rt, psQ_bk, psQ_ct, pnoex_rt, if_true, if_false, Bool.false_eq_true, Bool.true_and, Bool.and_true, Bool.false_and, Bool.and_false, Bool.true_or, Bool.false_or, ne_eq, reduceCtorEq, not_false_eq_true, List.set_cons_zero, List.set_cons_succ, pendOf_rt, pendOf_nx, ptru_bl, ptru_int, Bool.not_true, Bool.not_false, Bool.and_self, Bool.or_false, Bool.or_true, not_true_eq_false, ptg, pwipe, pmE_call, pmE_app, pmE_ext, pmE_ins, pmE_clr, frE_lst, frE_list, frE_dict, frE_comp, frE_dct, frE_itl, frE_slc, frE_add, frE_spl, frE_call, frE_ite, isLD, List.all_cons, List.all_nil, Nat.reduceBEq, Nat.reduceEqDiff, Int.reduceEq, Int.reduceLT, Int.reduceLE, Int.reduceNeg, Int.reduceAdd, Int.reduceSub, reduceIte, decide_true, decide_false, Option.some.injEq, isV_var, isV_int, isV_str, isV_bl, isV_non, isV_glb, isV_tup, isV_lst, isV_bin, isV_neg, isV_cmp, isV_chn, isV_and, isV_or, isV_not, isV_ite, isV_idx, isV_slc, isV_call, isV_blt, isV_isi, isV_mth, isV_exf, isV_comp, isV_dct, isV_itl, tupE_var, tupE_int, tupE_str, tupE_bl, tupE_non, tupE_glb, tupE_tup, tupE_lst, tupE_bin, tupE_neg, tupE_cmp, tupE_chn, tupE_and, tupE_or, tupE_not, tupE_ite, tupE_idx, tupE_slc, tupE_call, tupE_blt, tupE_isi, tupE_mth, tupE_exf, tupE_comp, tupE_dct, tupE_itl, pc_calm, pc_exn, pc_free, pc_wf, pl_calm, pl_exn, pl_free, pl_wf, pc_pu, pl_pu, pc0_own, pc0_mf, pc1_own, pc1_mf, pc2_own, pc2_mf, pc3_own, pc3_mf, pc4_own, pc4_mf, pc5_own, pc5_mf, pc6_own, pc6_mf, pc7_own, pc7_mf, pc8_own, pc8_mf, pc9_own, pc9_mf, pc10_own, pc10_mf, pc11_own, pc11_mf, pc12_own, pc12_mf, pc13_own, pc13_mf, pc14_own, pc14_mf, pc15_own, pc15_mf, pc16_own, pc16_mf, pc17_own, pc17_mf, pc18_own, pc18_mf, pl18_own, pl18_mf, pc_has0, pc_call0, pc_fr0, pc_has1, pc_call1, pc_fr1, pc_has2, pc_call2, pc_fr2, pc_has3, pc_call3, pc_fr3, pc_has4, pc_call4, pc_fr4, pc_has5, pc_call5, pc_fr5, pc_has6, pc_call6, pc_fr6, pc_has7, pc_call7, pc_fr7, pc_has8, pc_call8, pc_fr8, pc_has9, pc_call9, pc_fr9, pc_has10, pc_call10, pc_fr10, pc_has11, pc_call11, pc_fr11, pc_has12, pc_call12, pc_fr12, pc_has13, pc_call13, pc_fr13, pc_has14, pc_call14, pc_fr14, pc_has15, pc_call15, pc_fr15, pc_has16, pc_call16, pc_fr16, pc_has17, pc_call17, pc_fr17, pc_has18, pc_call18, pc_fr18, pc_glb20, pc_glb19, pc_glb21, pc_glb22, pc_cdt22, pl_has0, pl_call0, pl_fr0, pl_has1, pl_call1, pl_fr1, pl_has2, pl_call2, pl_fr2, pl_has3, pl_call3, pl_fr3, pl_has4, pl_call4, pl_fr4, pl_has5, pl_call5, pl_fr5, pl_has6, pl_call6, pl_fr6, pl_has7, pl_call7, pl_fr7, pl_has8, pl_call8, pl_fr8, pl_has9, pl_call9, pl_fr9, pl_has10, pl_call10, pl_fr10, pl_has11, pl_call11, pl_fr11, pl_has12, pl_call12, pl_fr12, pl_has13, pl_call13, pl_fr13, pl_has14, pl_call14, pl_fr14, pl_has15, pl_call15, pl_fr15, pl_has16, pl_call16, pl_fr16, pl_has17, pl_call17, pl_fr17, pl_has18, pl_call18, pl_fr18, pl_glb20, pl_glb19, pl_glb21, pl_glb22, pl_cdt22, hmk, split14, peq_int, hd0, e1, pget_lst, hat, h1, e_forms, pget_dct, kS_get, hf, e2, pblt, pseq, t0]
theorem e_draw : ∀ (d k b : Nat) (z : Int) (σ : PS), d + 3 ≤ k → 0 < b ∧ b < 1000000 → PuOk z σ → z + DB d < 900000000 → ∃ (t : Mi.Tm) (σ' : PS), Mi.pv T D k 11 [.prs, .int d, .int b] σ = prt t.v σ' ∧ t.ok ∧ t.dp ≤ d ∧ t.lt b ∧ PuOk (z + DB d) σ' := by
  intro d
  induction d with
  | zero =>
    intro k b z σ hk hb hP hz
    obtain ⟨k, rfl⟩ : ∃ j, k = j + 3 := ⟨k - 3, by omega⟩
    exact draw_core hb (fun _ _ h => absurd h (by decide)) z σ hP hz
  | succ d ih =>
    intro k b z σ hk hb hP hz
    obtain ⟨k, rfl⟩ : ∃ j, k = j + 3 := ⟨k - 3, by omega⟩
    refine draw_core hb (fun z σ _ hP hz => ?_) z σ hP hz
    obtain ⟨t, σ', e, t1, t2, t3, P⟩ := ih (k + 2) b z σ (by omega) hb hP hz
    refine ⟨t, σ', ?_, t1, by omega, t3, P⟩
    have : ((d + 1 : Nat) : Int) - 1 = (d : Int) := by omega
    rw [this]; exact e
end K01
set_option linter.all false
set_option maxRecDepth 100000
set_option maxHeartbeats 4000000
namespace K01
open PySem PySem.Spec Mi
def bodyA : MSs := forB (nthS m_law_any.body 2)
theorem any_get (t : Mi.Tm) (u : Int) (h0 : 0 ≤ u) (h1 : u < 4) : ∃ t' : Mi.Tm, L2.atI [V.tup [.str "app", .tup [.str "kind", .int 0], t.v], .tup [.str "fun", .tup [.str "kind", .int 1], t.v], .tup [.str "all", t.v, .tup [.str "kind", .int 2]], .tup [.str "all", .tup [.str "at", .int 0], t.v]] u = some t'.v ∧ (t.ok → t'.ok) ∧ t'.dp ≤ t.dp + 1 ∧ t'.wt ≤ t.wt + 2000 ∧ ∀ b, 0 < b → t.lt b → t'.lt b := by
  have hu : u = 0 ∨ u = 1 ∨ u = 2 ∨ u = 3 := by omega
  have kd : ∀ n : Nat, n ≤ 5 → (Tm.lf "kind" [.int n]).ok := fun n hn => .inl ⟨rfl, n, hn, rfl⟩
  rcases hu with rfl | rfl | rfl | rfl
  · exact ⟨.nd "app" [.lf "kind" [.int (0 : Nat)], t], rfl, fun h => ⟨.inl ⟨.inr (.inr (.inl rfl)), rfl⟩, kd 0 (by decide), h, trivial⟩, by simp [Tm.dp, Tm.dps], by simp only [Tm.wt, Tm.wts]; omega, fun b _ h => ⟨trivial, h, trivial⟩⟩
  · exact ⟨.nd "fun" [.lf "kind" [.int (1 : Nat)], t], rfl, fun h => ⟨.inl ⟨.inr (.inl rfl), rfl⟩, kd 1 (by decide), h, trivial⟩, by simp [Tm.dp, Tm.dps], by simp only [Tm.wt, Tm.wts]; omega, fun b _ h => ⟨trivial, h, trivial⟩⟩
  · exact ⟨.nd "all" [t, .lf "kind" [.int (2 : Nat)]], rfl, fun h => ⟨.inl ⟨.inl rfl, rfl⟩, h, kd 2 (by decide), trivial⟩, by simp [Tm.dp, Tm.dps], by simp only [Tm.wt, Tm.wts]; omega, fun b _ h => ⟨h, trivial, trivial⟩⟩
  · exact ⟨.nd "all" [.at 0, t], rfl, fun h => ⟨.inl ⟨.inl rfl, rfl⟩, by simp [Tm.ok], h, trivial⟩, by simp [Tm.dp, Tm.dps], by simp only [Tm.wt, Tm.wts]; omega, fun b hb h => ⟨hb, h, trivial⟩⟩
/-- what is drawn by any -/
structure AnyOk (b dm : Nat) (t : Mi.Tm) : Prop where
  ok : t.ok
  lt : t.lt b
  dp : t.dp ≤ 3 + 53
  wt : t.wt ≤ 1500 * 4 ^ dm + 110000
theorem e_any (k dm b : Nat) (z : Int) (σ : PS) (hk : 12 ≤ k) (hd : 3 ≤ dm ∧ dm ≤ 5) (hb : 0 < b ∧ b < 1000000) (hP : PuOk z σ) (hz : z < 800000000) :
    ∃ (t : Mi.Tm) (σ' : PS), Mi.pv T D k 12 [.prs, .int ((dm + 1 : Nat) : Int), .int b] σ = prt t.v σ' ∧ AnyOk b dm t ∧ PuOk (z + 110000) σ' := by
  obtain ⟨k, rfl⟩ : ∃ j, k = j + 2 := ⟨k - 2, by omega⟩
  rw [pv_s (k + 1) 12 _ _ m_law_any rfl rfl rfl]
  have hDB : DB dm ≤ 102400 := by
    obtain ⟨h1, h2⟩ := hd
    have : dm = 3 ∨ dm = 4 ∨ dm = 5 := by omega
    rcases this with rfl | rfl | rfl <;> decide
  have hW : 1500 * 4 ^ 3 ≤ 1500 * 4 ^ dm := Nat.mul_le_mul_left _ (Nat.pow_le_pow_right (by decide) hd.1)
  have dbm : ∀ d : Nat, d ≤ dm → DB d ≤ 102400 := fun d hdd => Int.le_trans (by unfold DB; exact_mod_cast Nat.mul_le_mul_left 100 (Nat.pow_le_pow_right (by decide) hdd)) hDB
  obtain ⟨v, σ1, e1, v0, v1, P1⟩ := e_take k z 4 σ hP (by omega) (by decide) (by decide)
  by_cases hv : 0 < v
  · obtain ⟨u, σ2, e2, u0, u1, P2⟩ := e_take k (z + 1) ((dm + 1 : Nat) : Int) σ1 P1 (by omega) (by omega) (by omega)
    obtain ⟨d, rfl⟩ : ∃ d : Nat, u = d := ⟨u.toNat, by omega⟩
    have hdd := dbm d (by omega)
    obtain ⟨t, σ3, e3, t1, t2, t3, P3⟩ := e_draw d (k + 1) b (z + 1 + 1) σ2 (by omega) hb P2 (by omega)
    refine ⟨t, σ3, ?_, ⟨t1, t3, by omega, ?_⟩, P3.mono (by omega)⟩
    · simp only [m_law_any]
      simp only [↓pev_comp, ↓pex_for, ↓pex_whl, pexs, pex, pev, pevs, ppks, pevi, pevo, ptst, pevp, plook, psrc_str, psrc_tup, psrc_lst, List.map, List.replicate, List.cons_append, List.nil_append, Nat.sub_self, List.append_nil, Nat.reduceSub, Nat.reduceAdd, List.getElem?_cons_zero, List.getElem?_cons_succ, pbd_rt, pbd_ok, pbd_none, pup_some, pup_none, Option.map_some, Option.map_none, Option.isNone_none, Option.isNone_some, psE_rt, psE_ok, psE_none, psQ_nx, psQ_rt, psQ_bk, psQ_ct, pnoex_rt, if_true, if_false, Bool.false_eq_true, Bool.true_and, Bool.and_true, Bool.false_and, Bool.and_false, Bool.true_or, Bool.false_or, ne_eq, reduceCtorEq, not_false_eq_true, List.set_cons_zero, List.set_cons_succ, pendOf_rt, pendOf_nx, ptru_bl, ptru_int, Bool.not_true, Bool.not_false, Bool.and_self, Bool.or_false, Bool.or_true, not_true_eq_false, ptg, pwipe, pmE_call, pmE_app, pmE_ext, pmE_ins, pmE_clr, frE_lst, frE_list, frE_dict, frE_comp, frE_dct, frE_itl, frE_slc, frE_add, frE_spl, frE_call, frE_ite, isLD, List.all_cons, List.all_nil, Nat.reduceBEq, Nat.reduceEqDiff, Int.reduceEq, Int.reduceLT, Int.reduceLE, Int.reduceNeg, Int.reduceAdd, Int.reduceSub, reduceIte, decide_true, decide_false, Option.some.injEq, isV_var, isV_int, isV_str, isV_bl, isV_non, isV_glb, isV_tup, isV_lst, isV_bin, isV_neg, isV_cmp, isV_chn, isV_and, isV_or, isV_not, isV_ite, isV_idx, isV_slc, isV_call, isV_blt, isV_isi, isV_mth, isV_exf, isV_comp, isV_dct, isV_itl, tupE_var, tupE_int, tupE_str, tupE_bl, tupE_non, tupE_glb, tupE_tup, tupE_lst, tupE_bin, tupE_neg, tupE_cmp, tupE_chn, tupE_and, tupE_or, tupE_not, tupE_ite, tupE_idx, tupE_slc, tupE_call, tupE_blt, tupE_isi, tupE_mth, tupE_exf, tupE_comp, tupE_dct, tupE_itl, pc_calm, pc_exn, pc_free, pc_wf, pl_calm, pl_exn, pl_free, pl_wf, pc_pu, pl_pu, pc0_own, pc0_mf, pc1_own, pc1_mf, pc2_own, pc2_mf, pc3_own, pc3_mf, pc4_own, pc4_mf, pc5_own, pc5_mf, pc6_own, pc6_mf, pc7_own, pc7_mf, pc8_own, pc8_mf, pc9_own, pc9_mf, pc10_own, pc10_mf, pc11_own, pc11_mf, pc12_own, pc12_mf, pc13_own, pc13_mf, pc14_own, pc14_mf, pc15_own, pc15_mf, pc16_own, pc16_mf, pc17_own, pc17_mf, pc18_own, pc18_mf, pl18_own, pl18_mf, pc_has0, pc_call0, pc_fr0, pc_has1, pc_call1, pc_fr1, pc_has2, pc_call2, pc_fr2, pc_has3, pc_call3, pc_fr3, pc_has4, pc_call4, pc_fr4, pc_has5, pc_call5, pc_fr5, pc_has6, pc_call6, pc_fr6, pc_has7, pc_call7, pc_fr7, pc_has8, pc_call8, pc_fr8, pc_has9, pc_call9, pc_fr9, pc_has10, pc_call10, pc_fr10, pc_has11, pc_call11, pc_fr11, pc_has12, pc_call12, pc_fr12, pc_has13, pc_call13, pc_fr13, pc_has14, pc_call14, pc_fr14, pc_has15, pc_call15, pc_fr15, pc_has16, pc_call16, pc_fr16, pc_has17, pc_call17, pc_fr17, pc_has18, pc_call18, pc_fr18, pc_glb20, pc_glb19, pc_glb21, pc_glb22, pc_cdt22, pl_has0, pl_call0, pl_fr0, pl_has1, pl_call1, pl_fr1, pl_has2, pl_call2, pl_fr2, pl_has3, pl_call3, pl_fr3, pl_has4, pl_call4, pl_fr4, pl_has5, pl_call5, pl_fr5, pl_has6, pl_call6, pl_fr6, pl_has7, pl_call7, pl_fr7, pl_has8, pl_call8, pl_fr8, pl_has9, pl_call9, pl_fr9, pl_has10, pl_call10, pl_fr10, pl_has11, pl_call11, pl_fr11, pl_has12, pl_call12, pl_fr12, pl_has13, pl_call13, pl_fr13, pl_has14, pl_call14, pl_fr14, pl_has15, pl_call15, pl_fr15, pl_has16, pl_call16, pl_fr16, pl_has17, pl_call17, pl_fr17, pl_has18, pl_call18, pl_fr18, pl_glb20, pl_glb19, pl_glb21, pl_glb22, pl_cdt22, e1, pgt_int, hv, e2, e3]
    · have := Tm.wt_le t t1
      have h2 : 1500 * 4 ^ t.dp ≤ 1500 * 4 ^ dm := Nat.mul_le_mul_left _ (Nat.pow_le_pow_right (by decide) (by omega))
      omega
  · obtain ⟨u, σ2, e2, u0, u1, P2⟩ := e_take k (z + 1) 4 σ1 P1 (by omega) (by decide) (by decide)
    obtain ⟨d, rfl⟩ : ∃ d : Nat, u = d := ⟨u.toNat, by omega⟩
    have hdd := dbm d (by omega)
    obtain ⟨t, σ3, e3, t1, t2, t3, P3⟩ := e_draw d (k + 1) b (z + 1 + 1) σ2 (by omega) hb P2 (by omega)
    obtain ⟨m, σ4, e4, m0, m1, P4⟩ := e_take k (z + 1 + 1 + DB d) 53 σ3 P3 (by omega) (by decide) (by decide)
    have hr : prng 0 m = some ((List.range (m - 0).toNat).map fun (i : Nat) => V.int (0 + i)) := by unfold prng; rw [if_pos (by omega)]
    generalize hl : (List.range (m - 0).toNat).map (fun (i : Nat) => V.int (0 + i)) = l at hr
    have hlen : l.length < 53 := by rw [← hl]; simp; omega
    have h2 : ∀ a b : V, [a, b].length ≤ sizeLine := fun a b => by show 2 ≤ sizeLine; decide
    have h3 : ∀ a b c : V, [a, b, c].length ≤ sizeLine := fun a b c => by show 3 ≤ sizeLine; decide
    have h3' : ∀ a b c : V, [a, b, c].length < sizeLine := fun a b c => by show 3 < sizeLine; decide
    have key := pfor_inv (t := ptg (Pc (k + 1) 12) (.nm 4)) (f := pbodyF (Pc (k + 1) 12) T.excs bodyA) l
      (fun i ρ σ => ∃ (t' : Mi.Tm) (l4 l5 : Option V), ρ = [some .prs, some (.int ((dm + 1 : Nat) : Int)), some (.int b), some t'.v, l4, l5] ∧ t'.ok ∧ t'.lt b ∧ t'.dp ≤ t.dp + i ∧ t'.wt ≤ t.wt + i * 2000 ∧ PuOk (z + 1 + 1 + DB d + 1 + i) σ) (fun _ _ => False)
      (fun i w ρ σ hw hPi => by
        obtain ⟨t', l4, l5, rfl, q1, q2, q3, q4, q5⟩ := hPi
        have hi := (List.getElem?_eq_some_iff.mp hw).1
        obtain ⟨u, σ5, e5, u0, u1, P5⟩ := e_take k (z + 1 + 1 + DB d + 1 + i) 4 σ q5 (by omega) (by decide) (by decide)
        obtain ⟨t2', f1, f2, f3, f4, f5⟩ := any_get t' u u0 u1
        refine ⟨[some .prs, some (.int ((dm + 1 : Nat) : Int)), some (.int b), some t'.v, some w, l5], by simp only [↓pev_comp, ↓pex_for, ↓pex_whl, pexs, pex, pev, pevs, ppks, pevi, pevo, ptst, pevp, plook, psrc_str, psrc_tup, psrc_lst, List.map, List.replicate, List.cons_append, List.nil_append, Nat.sub_self, List.append_nil, Nat.reduceSub, Nat.reduceAdd, List.getElem?_cons_zero, List.getElem?_cons_succ, pbd_rt, pbd_ok, pbd_none, pup_some, pup_none, Option.map_some, Option.map_none, Option.isNone_none, Option.isNone_some, psE_rt, psE_ok, psE_none, psQ_nx, psQ_rt, psQ_bk, psQ_ct, pnoex_rt, if_true, if_false, Bool.false_eq_true, Bool.true_and, Bool.and_true, Bool.false_and, Bool.and_false, Bool.true_or, Bool.false_or, ne_eq, reduceCtorEq, not_false_eq_true, List.set_cons_zero, List.set_cons_succ, pendOf_rt, pendOf_nx, ptru_bl, ptru_int, Bool.not_true, Bool.not_false, Bool.and_self, Bool.or_false, Bool.or_true, not_true_eq_false, ptg, pwipe, pmE_call, pmE_app, pmE_ext, pmE_ins, pmE_clr, frE_lst, frE_list, frE_dict, frE_comp, frE_dct, frE_itl, frE_slc, frE_add, frE_spl, frE_call, frE_ite, isLD, List.all_cons, List.all_nil, Nat.reduceBEq, Nat.reduceEqDiff, Int.reduceEq, Int.reduceLT, Int.reduceLE, Int.reduceNeg, Int.reduceAdd, Int.reduceSub, reduceIte, decide_true, decide_false, Option.some.injEq, isV_var, isV_int, isV_str, isV_bl, isV_non, isV_glb, isV_tup, isV_lst, isV_bin, isV_neg, isV_cmp, isV_chn, isV_and, isV_or, isV_not, isV_ite, isV_idx, isV_slc, isV_call, isV_blt, isV_isi, isV_mth, isV_exf, isV_comp, isV_dct, isV_itl, tupE_var, tupE_int, tupE_str, tupE_bl, tupE_non, tupE_glb, tupE_tup, tupE_lst, tupE_bin, tupE_neg, tupE_cmp, tupE_chn, tupE_and, tupE_or, tupE_not, tupE_ite, tupE_idx, tupE_slc, tupE_call, tupE_blt, tupE_isi, tupE_mth, tupE_exf, tupE_comp, tupE_dct, tupE_itl, pc_calm, pc_exn, pc_free, pc_wf, pl_calm, pl_exn, pl_free, pl_wf, pc_pu, pl_pu, pc0_own, pc0_mf, pc1_own, pc1_mf, pc2_own, pc2_mf, pc3_own, pc3_mf, pc4_own, pc4_mf, pc5_own, pc5_mf, pc6_own, pc6_mf, pc7_own, pc7_mf, pc8_own, pc8_mf, pc9_own, pc9_mf, pc10_own, pc10_mf, pc11_own, pc11_mf, pc12_own, pc12_mf, pc13_own, pc13_mf, pc14_own, pc14_mf, pc15_own, pc15_mf, pc16_own, pc16_mf, pc17_own, pc17_mf, pc18_own, pc18_mf, pl18_own, pl18_mf, pc_has0, pc_call0, pc_fr0, pc_has1, pc_call1, pc_fr1, pc_has2, pc_call2, pc_fr2, pc_has3, pc_call3, pc_fr3, pc_has4, pc_call4, pc_fr4, pc_has5, pc_call5, pc_fr5, pc_has6, pc_call6, pc_fr6, pc_has7, pc_call7, pc_fr7, pc_has8, pc_call8, pc_fr8, pc_has9, pc_call9, pc_fr9, pc_has10, pc_call10, pc_fr10, pc_has11, pc_call11, pc_fr11, pc_has12, pc_call12, pc_fr12, pc_has13, pc_call13, pc_fr13, pc_has14, pc_call14, pc_fr14, pc_has15, pc_call15, pc_fr15, pc_has16, pc_call16, pc_fr16, pc_has17, pc_call17, pc_fr17, pc_has18, pc_call18, pc_fr18, pc_glb20, pc_glb19, pc_glb21, pc_glb22, pc_cdt22, pl_has0, pl_call0, pl_fr0, pl_has1, pl_call1, pl_fr1, pl_has2, pl_call2, pl_fr2, pl_has3, pl_call3, pl_fr3, pl_has4, pl_call4, pl_fr4, pl_has5, pl_call5, pl_fr5, pl_has6, pl_call6, pl_fr6, pl_has7, pl_call7, pl_fr7, pl_has8, pl_call8, pl_fr8, pl_has9, pl_call9, pl_fr9, pl_has10, pl_call10, pl_fr10, pl_has11, pl_call11, pl_fr11, pl_has12, pl_call12, pl_fr12, pl_has13, pl_call13, pl_fr13, pl_has14, pl_call14, pl_fr14, pl_has15, pl_call15, pl_fr15, pl_has16, pl_call16, pl_fr16, pl_has17, pl_call17, pl_fr17, pl_has18, pl_call18, pl_fr18, pl_glb20, pl_glb19, pl_glb21, pl_glb22, pl_cdt22], .inl ⟨[some .prs, some (.int ((dm + 1 : Nat) : Int)), some (.int b), some t2'.v, some w, some (.lst [V.tup [.str "app", .tup [.str "kind", .int 0], t'.v], .tup [.str "fun", .tup [.str "kind", .int 1], t'.v], .tup [.str "all", t'.v, .tup [.str "kind", .int 2]], .tup [.str "all", .tup [.str "at", .int 0], t'.v]])], σ5, .inl ?_, t2', _, _, rfl, f2 q1, f5 b hb.1 q2, by omega, by omega, P5.mono (by omega)⟩⟩
        simp only [pbodyF, bodyA, nthS, forB, m_law_any]
        simp only [↓pev_comp, ↓pex_for, ↓pex_whl, pexs, pex, pev, pevs, ppks, pevi, pevo, ptst, pevp, plook, psrc_str, psrc_tup, psrc_lst, List.map, List.replicate, List.cons_append, List.nil_append, Nat.sub_self, List.append_nil, Nat.reduceSub, Nat.reduceAdd, List.getElem?_cons_zero, List.getElem?_cons_succ, pbd_rt, pbd_ok, pbd_none, pup_some, pup_none, Option.map_some, Option.map_none, Option.isNone_none, Option.isNone_some, psE_rt, psE_ok, psE_none, psQ_nx, psQ_rt, psQ_bk, psQ_ct, pnoex_rt, if_true, if_false, Bool.false_eq_true, Bool.true_and, Bool.and_true, Bool.false_and, Bool.and_false, Bool.true_or, Bool.false_or, ne_eq, reduceCtorEq, not_false_eq_true, List.set_cons_zero, List.set_cons_succ, pendOf_rt, pendOf_nx, ptru_bl, ptru_int, Bool.not_true, Bool.not_false, Bool.and_self, Bool.or_false, Bool.or_true, not_true_eq_false, ptg, pwipe, pmE_call, pmE_app, pmE_ext, pmE_ins, pmE_clr, frE_lst, frE_list, frE_dict, frE_comp, frE_dct, frE_itl, frE_slc, frE_add, frE_spl, frE_call, frE_ite, isLD, List.all_cons, List.all_nil, Nat.reduceBEq, Nat.reduceEqDiff, Int.reduceEq, Int.reduceLT, Int.reduceLE, Int.reduceNeg, Int.reduceAdd, Int.reduceSub, reduceIte, decide_true, decide_false, Option.some.injEq, isV_var, isV_int, isV_str, isV_bl, isV_non, isV_glb, isV_tup, isV_lst, isV_bin, isV_neg, isV_cmp, isV_chn, isV_and, isV_or, isV_not, isV_ite, isV_idx, isV_slc, isV_call, isV_blt, isV_isi, isV_mth, isV_exf, isV_comp, isV_dct, isV_itl, tupE_var, tupE_int, tupE_str, tupE_bl, tupE_non, tupE_glb, tupE_tup, tupE_lst, tupE_bin, tupE_neg, tupE_cmp, tupE_chn, tupE_and, tupE_or, tupE_not, tupE_ite, tupE_idx, tupE_slc, tupE_call, tupE_blt, tupE_isi, tupE_mth, tupE_exf, tupE_comp, tupE_dct, tupE_itl, pc_calm, pc_exn, pc_free, pc_wf, pl_calm, pl_exn, pl_free, pl_wf, pc_pu, pl_pu, pc0_own, pc0_mf, pc1_own, pc1_mf, pc2_own, pc2_mf, pc3_own, pc3_mf, pc4_own, pc4_mf, pc5_own, pc5_mf, pc6_own, pc6_mf, pc7_own, pc7_mf, pc8_own, pc8_mf, pc9_own, pc9_mf, pc10_own, pc10_mf, pc11_own, pc11_mf, pc12_own, pc12_mf, pc13_own, pc13_mf, pc14_own, pc14_mf, pc15_own, pc15_mf, pc16_own, pc16_mf, pc17_own, pc17_mf, pc18_own, pc18_mf, pl18_own, pl18_mf, pc_has0, pc_call0, pc_fr0, pc_has1, pc_call1, pc_fr1, pc_has2, pc_call2, pc_fr2, pc_has3, pc_call3, pc_fr3, pc_has4, pc_call4, pc_fr4, pc_has5, pc_call5, pc_fr5, pc_has6, pc_call6, pc_fr6, pc_has7, pc_call7, pc_fr7, pc_has8, pc_call8, pc_fr8, pc_has9, pc_call9, pc_fr9, pc_has10, pc_call10, pc_fr10, pc_has11, pc_call11, pc_fr11, pc_has12, pc_call12, pc_fr12, pc_has13, pc_call13, pc_fr13, pc_has14, pc_call14, pc_fr14, pc_has15, pc_call15, pc_fr15, pc_has16, pc_call16, pc_fr16, pc_has17, pc_call17, pc_fr17, pc_has18, pc_call18, pc_fr18, pc_glb20, pc_glb19, pc_glb21, pc_glb22, pc_cdt22, pl_has0, pl_call0, pl_fr0, pl_has1, pl_call1, pl_fr1, pl_has2, pl_call2, pl_fr2, pl_has3, pl_call3, pl_fr3, pl_has4, pl_call4, pl_fr4, pl_has5, pl_call5, pl_fr5, pl_has6, pl_call6, pl_fr6, pl_has7, pl_call7, pl_fr7, pl_has8, pl_call8, pl_fr8, pl_has9, pl_call9, pl_fr9, pl_has10, pl_call10, pl_fr10, pl_has11, pl_call11, pl_fr11, pl_has12, pl_call12, pl_fr12, pl_has13, pl_call13, pl_fr13, pl_has14, pl_call14, pl_fr14, pl_has15, pl_call15, pl_fr15, pl_has16, pl_call16, pl_fr16, pl_has17, pl_call17, pl_fr17, pl_has18, pl_call18, pl_fr18, pl_glb20, pl_glb19, pl_glb21, pl_glb22, pl_cdt22, h2, h3, pmut, h3', e5, pget_lst, f1])
      l 0 [some .prs, some (.int ((dm + 1 : Nat) : Int)), some (.int b), some t.v, none, none] σ4 rfl (Nat.zero_le _) ⟨t, none, none, rfl, t1, t3, by omega, by omega, by simpa using P4⟩
    rcases key with ⟨ρ', σ', e5, t', l4, l5, rfl, q1, q2, q3, q4, q5⟩ | ⟨_, _, _, h⟩
    · refine ⟨t', σ', ?_, ⟨q1, q2, by omega, ?_⟩, q5.mono (by omega)⟩
      · simp only [bodyA, nthS, forB, m_law_any] at e5
        simp only [m_law_any]
        simp only [↓pev_comp, ↓pex_for, ↓pex_whl, pexs, pex, pev, pevs, ppks, pevi, pevo, ptst, pevp, plook, psrc_str, psrc_tup, psrc_lst, List.map, List.replicate, List.cons_append, List.nil_append, Nat.sub_self, List.append_nil, Nat.reduceSub, Nat.reduceAdd, List.getElem?_cons_zero, List.getElem?_cons_succ, pbd_rt, pbd_ok, pbd_none, pup_some, pup_none, Option.map_some, Option.map_none, Option.isNone_none, Option.isNone_some, psE_rt, psE_ok, psE_none, psQ_nx, psQ_rt, psQ_bk, psQ_ct, pnoex_rt, if_true, if_false, Bool.false_eq_true, Bool.true_and, Bool.and_true, Bool.false_and, Bool.and_false, Bool.true_or, Bool.false_or, ne_eq, reduceCtorEq, not_false_eq_true, List.set_cons_zero, List.set_cons_succ, pendOf_rt, pendOf_nx, ptru_bl, ptru_int, Bool.not_true, Bool.not_false, Bool.and_self, Bool.or_false, Bool.or_true, not_true_eq_false, ptg, pwipe, pmE_call, pmE_app, pmE_ext, pmE_ins, pmE_clr, frE_lst, frE_list, frE_dict, frE_comp, frE_dct, frE_itl, frE_slc, frE_add, frE_spl, frE_call, frE_ite, isLD, List.all_cons, List.all_nil, Nat.reduceBEq, Nat.reduceEqDiff, Int.reduceEq, Int.reduceLT, Int.reduceLE, Int.reduceNeg, Int.reduceAdd, Int.reduceSub, reduceIte, decide_true, decide_false, Option.some.injEq, isV_var, isV_int, isV_str, isV_bl, isV_non, isV_glb, isV_tup, isV_lst, isV_bin, isV_neg, isV_cmp, isV_chn, isV_and, isV_or, isV_not, isV_ite, isV_idx, isV_slc, isV_call, isV_blt, isV_isi, isV_mth, isV_exf, isV_comp, isV_dct, isV_itl, tupE_var, tupE_int, tupE_str, tupE_bl, tupE_non, tupE_glb, tupE_tup, tupE_lst, tupE_bin, tupE_neg, tupE_cmp, tupE_chn, tupE_and, tupE_or, tupE_not, tupE_ite, tupE_idx, tupE_slc, tupE_call, tupE_blt, tupE_isi, tupE_mth, tupE_exf, tupE_comp, tupE_dct, tupE_itl, pc_calm, pc_exn, pc_free, pc_wf, pl_calm, pl_exn, pl_free, pl_wf, pc_pu, pl_pu, pc0_own, pc0_mf, pc1_own, pc1_mf, pc2_own, pc2_mf, pc3_own, pc3_mf, pc4_own, pc4_mf, pc5_own, pc5_mf, pc6_own, pc6_mf, pc7_own, pc7_mf, pc8_own, pc8_mf, pc9_own, pc9_mf, pc10_own, pc10_mf, pc11_own, pc11_mf, pc12_own, pc12_mf, pc13_own, pc13_mf, pc14_own, pc14_mf, pc15_own, pc15_mf, pc16_own, pc16_mf, pc17_own, pc17_mf, pc18_own, pc18_mf, pl18_own, pl18_mf, pc_has0, pc_call0, pc_fr0, pc_has1, pc_call1, pc_fr1, pc_has2, pc_call2, pc_fr2, pc_has3, pc_call3, pc_fr3, pc_has4, pc_call4, pc_fr4, pc_has5, pc_call5, pc_fr5, pc_has6, pc_call6, pc_fr6, pc_has7, pc_call7, pc_fr7, pc_has8, pc_call8, pc_fr8, pc_has9, pc_call9, pc_fr9, pc_has10, pc_call10, pc_fr10, pc_has11, pc_call11, pc_fr11, pc_has12, pc_call12, pc_fr12, pc_has13, pc_call13, pc_fr13, pc_has14, pc_call14, pc_fr14, pc_has15, pc_call15, pc_fr15, pc_has16, pc_call16, pc_fr16, pc_has17, pc_call17, pc_fr17, pc_has18, pc_call18, pc_fr18, pc_glb20, pc_glb19, pc_glb21, pc_glb22, pc_cdt22, pl_has0, pl_call0, pl_fr0, pl_has1, pl_call1, pl_fr1, pl_has2, pl_call2, pl_fr2, pl_has3, pl_call3, pl_fr3, pl_has4, pl_call4, pl_fr4, pl_has5, pl_call5, pl_fr5, pl_has6, pl_call6, pl_fr6, pl_has7, pl_call7, pl_fr7, pl_has8, pl_call8, pl_fr8, pl_has9, pl_call9, pl_fr9, pl_has10, pl_call10, pl_fr10, pl_has11, pl_call11, pl_fr11, pl_has12, pl_call12, pl_fr12, pl_has13, pl_call13, pl_fr13, pl_has14, pl_call14, pl_fr14, pl_has15, pl_call15, pl_fr15, pl_has16, pl_call16, pl_fr16, pl_has17, pl_call17, pl_fr17, pl_has18, pl_call18, pl_fr18, pl_glb20, pl_glb19, pl_glb21, pl_glb22, pl_cdt22, e1, pgt_int, hv, e2, e3, e4, hr, e5]
      · have := Tm.wt_le t t1
        have h2 : 1500 * 4 ^ t.dp ≤ 1500 * 4 ^ 3 := Nat.mul_le_mul_left _ (Nat.pow_le_pow_right (by decide) (by omega))
        omega
    · exact h.elim
end K01
set_option linter.all false
set_option maxRecDepth 100000
set_option maxHeartbeats 4000000
namespace K01
open PySem PySem.Spec Mi
theorem e_whole2 (k : Nat) (x : Mi.V) (lo hi : Int) (σ : PS) (hv : isD x = true) : Mi.pv T D (k + 1) 14 [x, .int lo, .int hi] σ = prt (.bl (wholeV x lo hi)) σ := by
  rw [pv_s k 14 _ σ m_law_is_whole rfl rfl rfl]
  simp only [↓pev_comp, ↓pex_for, ↓pex_whl, pexs, pex, pev, pevs, ppks, pevi, pevo, ptst, pevp, plook, psrc_str, psrc_tup, psrc_lst, List.map, List.replicate, List.cons_append, List.nil_append, Nat.sub_self, List.append_nil, Nat.reduceSub, Nat.reduceAdd, List.getElem?_cons_zero, List.getElem?_cons_succ, pbd_rt, pbd_ok, pbd_none, pup_some, pup_none, Option.map_some, Option.map_none, Option.isNone_none, Option.isNone_some, psE_rt, psE_ok, psE_none, psQ_nx, psQ_rt, psQ_bk, psQ_ct, pnoex_rt, if_true, if_false, Bool.false_eq_true, Bool.true_and, Bool.and_true, Bool.false_and, Bool.and_false, Bool.true_or, Bool.false_or, ne_eq, reduceCtorEq, not_false_eq_true, List.set_cons_zero, List.set_cons_succ, pendOf_rt, pendOf_nx, ptru_bl, ptru_int, Bool.not_true, Bool.not_false, Bool.and_self, Bool.or_false, Bool.or_true, not_true_eq_false, ptg, pwipe, pmE_call, pmE_app, pmE_ext, pmE_ins, pmE_clr, frE_lst, frE_list, frE_dict, frE_comp, frE_dct, frE_itl, frE_slc, frE_add, frE_spl, frE_call, frE_ite, isLD, List.all_cons, List.all_nil, Nat.reduceBEq, Nat.reduceEqDiff, Int.reduceEq, Int.reduceLT, Int.reduceLE, Int.reduceNeg, Int.reduceAdd, Int.reduceSub, reduceIte, decide_true, decide_false, Option.some.injEq, isV_var, isV_int, isV_str, isV_bl, isV_non, isV_glb, isV_tup, isV_lst, isV_bin, isV_neg, isV_cmp, isV_chn, isV_and, isV_or, isV_not, isV_ite, isV_idx, isV_slc, isV_call, isV_blt, isV_isi, isV_mth, isV_exf, isV_comp, isV_dct, isV_itl, tupE_var, tupE_int, tupE_str, tupE_bl, tupE_non, tupE_glb, tupE_tup, tupE_lst, tupE_bin, tupE_neg, tupE_cmp, tupE_chn, tupE_and, tupE_or, tupE_not, tupE_ite, tupE_idx, tupE_slc, tupE_call, tupE_blt, tupE_isi, tupE_mth, tupE_exf, tupE_comp, tupE_dct, tupE_itl, pc_calm, pc_exn, pc_free, pc_wf, pl_calm, pl_exn, pl_free, pl_wf, pc_pu, pl_pu, pc0_own, pc0_mf, pc1_own, pc1_mf, pc2_own, pc2_mf, pc3_own, pc3_mf, pc4_own, pc4_mf, pc5_own, pc5_mf, pc6_own, pc6_mf, pc7_own, pc7_mf, pc8_own, pc8_mf, pc9_own, pc9_mf, pc10_own, pc10_mf, pc11_own, pc11_mf, pc12_own, pc12_mf, pc13_own, pc13_mf, pc14_own, pc14_mf, pc15_own, pc15_mf, pc16_own, pc16_mf, pc17_own, pc17_mf, pc18_own, pc18_mf, pl18_own, pl18_mf, pc_has0, pc_call0, pc_fr0, pc_has1, pc_call1, pc_fr1, pc_has2, pc_call2, pc_fr2, pc_has3, pc_call3, pc_fr3, pc_has4, pc_call4, pc_fr4, pc_has5, pc_call5, pc_fr5, pc_has6, pc_call6, pc_fr6, pc_has7, pc_call7, pc_fr7, pc_has8, pc_call8, pc_fr8, pc_has9, pc_call9, pc_fr9, pc_has10, pc_call10, pc_fr10, pc_has11, pc_call11, pc_fr11, pc_has12, pc_call12, pc_fr12, pc_has13, pc_call13, pc_fr13, pc_has14, pc_call14, pc_fr14, pc_has15, pc_call15, pc_fr15, pc_has16, pc_call16, pc_fr16, pc_has17, pc_call17, pc_fr17, pc_has18, pc_call18, pc_fr18, pc_glb20, pc_glb19, pc_glb21, pc_glb22, pc_cdt22, pl_has0, pl_call0, pl_fr0, pl_has1, pl_call1, pl_fr1, pl_has2, pl_call2, pl_fr2, pl_has3, pl_call3, pl_fr3, pl_has4, pl_call4, pl_fr4, pl_has5, pl_call5, pl_fr5, pl_has6, pl_call6, pl_fr6, pl_has7, pl_call7, pl_fr7, pl_has8, pl_call8, pl_fr8, pl_has9, pl_call9, pl_fr9, pl_has10, pl_call10, pl_fr10, pl_has11, pl_call11, pl_fr11, pl_has12, pl_call12, pl_fr12, pl_has13, pl_call13, pl_fr13, pl_has14, pl_call14, pl_fr14, pl_has15, pl_call15, pl_fr15, pl_has16, pl_call16, pl_fr16, pl_has17, pl_call17, pl_fr17, pl_has18, pl_call18, pl_fr18, pl_glb20, pl_glb19, pl_glb21, pl_glb22, pl_cdt22, m_law_is_whole, pisi_d hv]
  cases x with
  | int i => by_cases h1 : lo ≤ i <;> simp [tyP, pcmpW, wholeV, h1]
  | _ => simp [tyP, pcmpW, wholeV]
theorem split5 : pmth .split (.str "all fun same self put") [.str " "] = some (.lst KEPTV) := by kernel_rfl
theorem lt_chr {C : PC} (s : Str) (c : Nat) : pcmpW C .le (.str s) (chrV c) = some (!decide ([c] < s.cps.toList)) := rfl
theorem chr_lt {C : PC} (s : Str) (c : Nat) : pcmpW C .le (chrV c) (.str s) = some (!decide (s.cps.toList < [c])) := rfl
theorem e_name2 (k : Nat) (x : V) (σ : PS) (hv : isD x = true) (hl : ∀ s, x = .str s → s.length ≤ sizeLine) : Mi.pv T D (k + 1) 13 [x] σ = prt (.bl (nameV x)) σ := by
  rw [pv_s k 13 _ σ m_law_is_name rfl rfl rfl]
  simp only [m_law_is_name]
  have hmk : pmthK .split (.str "all fun same self put") = true := rfl
  have h0 : ([] : List V).length ≤ sizeLine := Nat.zero_le _
  cases x with
  | str s =>
    have hs := hl s rfl
    have e1 : pinV (Pc k 13) (.str s) (.lst KEPTV) = some (inFV (.str s) KEPTV) := rfl
    simp only [↓pev_comp, ↓pex_for, ↓pex_whl, pexs, pex, pev, pevs, ppks, pevi, pevo, ptst, pevp, plook, psrc_str, psrc_tup, psrc_lst, List.map, List.replicate, List.cons_append, List.nil_append, Nat.sub_self, List.append_nil, Nat.reduceSub, Nat.reduceAdd, List.getElem?_cons_zero, List.getElem?_cons_succ, pbd_rt, pbd_ok, pbd_none, pup_some, pup_none, Option.map_some, Option.map_none, Option.isNone_none, Option.isNone_some, psE_rt, psE_ok, psE_none, psQ_nx, psQ_rt, psQ_bk, psQ_ct, pnoex_rt, if_true, if_false, Bool.false_eq_true, Bool.true_and, Bool.and_true, Bool.false_and, Bool.and_false, Bool.true_or, Bool.false_or, ne_eq, reduceCtorEq, not_false_eq_true, List.set_cons_zero, List.set_cons_succ, pendOf_rt, pendOf_nx, ptru_bl, ptru_int, Bool.not_true, Bool.not_false, Bool.and_self, Bool.or_false, Bool.or_true, not_true_eq_false, ptg, pwipe, pmE_call, pmE_app, pmE_ext, pmE_ins, pmE_clr, frE_lst, frE_list, frE_dict, frE_comp, frE_dct, frE_itl, frE_slc, frE_add, frE_spl, frE_call, frE_ite, isLD, List.all_cons, List.all_nil, Nat.reduceBEq, Nat.reduceEqDiff, Int.reduceEq, Int.reduceLT, Int.reduceLE, Int.reduceNeg, Int.reduceAdd, Int.reduceSub, reduceIte, decide_true, decide_false, Option.some.injEq, isV_var, isV_int, isV_str, isV_bl, isV_non, isV_glb, isV_tup, isV_lst, isV_bin, isV_neg, isV_cmp, isV_chn, isV_and, isV_or, isV_not, isV_ite, isV_idx, isV_slc, isV_call, isV_blt, isV_isi, isV_mth, isV_exf, isV_comp, isV_dct, isV_itl, tupE_var, tupE_int, tupE_str, tupE_bl, tupE_non, tupE_glb, tupE_tup, tupE_lst, tupE_bin, tupE_neg, tupE_cmp, tupE_chn, tupE_and, tupE_or, tupE_not, tupE_ite, tupE_idx, tupE_slc, tupE_call, tupE_blt, tupE_isi, tupE_mth, tupE_exf, tupE_comp, tupE_dct, tupE_itl, pc_calm, pc_exn, pc_free, pc_wf, pl_calm, pl_exn, pl_free, pl_wf, pc_pu, pl_pu, pc0_own, pc0_mf, pc1_own, pc1_mf, pc2_own, pc2_mf, pc3_own, pc3_mf, pc4_own, pc4_mf, pc5_own, pc5_mf, pc6_own, pc6_mf, pc7_own, pc7_mf, pc8_own, pc8_mf, pc9_own, pc9_mf, pc10_own, pc10_mf, pc11_own, pc11_mf, pc12_own, pc12_mf, pc13_own, pc13_mf, pc14_own, pc14_mf, pc15_own, pc15_mf, pc16_own, pc16_mf, pc17_own, pc17_mf, pc18_own, pc18_mf, pl18_own, pl18_mf, pc_has0, pc_call0, pc_fr0, pc_has1, pc_call1, pc_fr1, pc_has2, pc_call2, pc_fr2, pc_has3, pc_call3, pc_fr3, pc_has4, pc_call4, pc_fr4, pc_has5, pc_call5, pc_fr5, pc_has6, pc_call6, pc_fr6, pc_has7, pc_call7, pc_fr7, pc_has8, pc_call8, pc_fr8, pc_has9, pc_call9, pc_fr9, pc_has10, pc_call10, pc_fr10, pc_has11, pc_call11, pc_fr11, pc_has12, pc_call12, pc_fr12, pc_has13, pc_call13, pc_fr13, pc_has14, pc_call14, pc_fr14, pc_has15, pc_call15, pc_fr15, pc_has16, pc_call16, pc_fr16, pc_has17, pc_call17, pc_fr17, pc_has18, pc_call18, pc_fr18, pc_glb20, pc_glb19, pc_glb21, pc_glb22, pc_cdt22, pl_has0, pl_call0, pl_fr0, pl_has1, pl_call1, pl_fr1, pl_has2, pl_call2, pl_fr2, pl_has3, pl_call3, pl_fr3, pl_has4, pl_call4, pl_fr4, pl_has5, pl_call5, pl_fr5, pl_has6, pl_call6, pl_fr6, pl_has7, pl_call7, pl_fr7, pl_has8, pl_call8, pl_fr8, pl_has9, pl_call9, pl_fr9, pl_has10, pl_call10, pl_fr10, pl_has11, pl_call11, pl_fr11, pl_has12, pl_call12, pl_fr12, pl_has13, pl_call13, pl_fr13, pl_has14, pl_call14, pl_fr14, pl_has15, pl_call15, pl_fr15, pl_has16, pl_call16, pl_fr16, pl_has17, pl_call17, pl_fr17, pl_has18, pl_call18, pl_fr18, pl_glb20, pl_glb19, pl_glb21, pl_glb22, pl_cdt22, pisi_d hv, tyP, plen_str hs, plt_int, hmk, split5, pin_, e1]
    by_cases h1 : 0 < (s.length : Int)
    · by_cases h2 : (s.length : Int) < 9
      · cases h3 : inFV (.str s) KEPTV with
        | true =>
          simp only [↓pev_comp, ↓pex_for, ↓pex_whl, pexs, pex, pev, pevs, ppks, pevi, pevo, ptst, pevp, plook, psrc_str, psrc_tup, psrc_lst, List.map, List.replicate, List.cons_append, List.nil_append, Nat.sub_self, List.append_nil, Nat.reduceSub, Nat.reduceAdd, List.getElem?_cons_zero, List.getElem?_cons_succ, pbd_rt, pbd_ok, pbd_none, pup_some, pup_none, Option.map_some, Option.map_none, Option.isNone_none, Option.isNone_some, psE_rt, psE_ok, psE_none, psQ_nx, psQ_rt, psQ_bk, psQ_ct, pnoex_rt, if_true, if_false, Bool.false_eq_true, Bool.true_and, Bool.and_true, Bool.false_and, Bool.and_false, Bool.true_or, Bool.false_or, ne_eq, reduceCtorEq, not_false_eq_true, List.set_cons_zero, List.set_cons_succ, pendOf_rt, pendOf_nx, ptru_bl, ptru_int, Bool.not_true, Bool.not_false, Bool.and_self, Bool.or_false, Bool.or_true, not_true_eq_false, ptg, pwipe, pmE_call, pmE_app, pmE_ext, pmE_ins, pmE_clr, frE_lst, frE_list, frE_dict, frE_comp, frE_dct, frE_itl, frE_slc, frE_add, frE_spl, frE_call, frE_ite, isLD, List.all_cons, List.all_nil, Nat.reduceBEq, Nat.reduceEqDiff, Int.reduceEq, Int.reduceLT, Int.reduceLE, Int.reduceNeg, Int.reduceAdd, Int.reduceSub, reduceIte, decide_true, decide_false, Option.some.injEq, isV_var, isV_int, isV_str, isV_bl, isV_non, isV_glb, isV_tup, isV_lst, isV_bin, isV_neg, isV_cmp, isV_chn, isV_and, isV_or, isV_not, isV_ite, isV_idx, isV_slc, isV_call, isV_blt, isV_isi, isV_mth, isV_exf, isV_comp, isV_dct, isV_itl, tupE_var, tupE_int, tupE_str, tupE_bl, tupE_non, tupE_glb, tupE_tup, tupE_lst, tupE_bin, tupE_neg, tupE_cmp, tupE_chn, tupE_and, tupE_or, tupE_not, tupE_ite, tupE_idx, tupE_slc, tupE_call, tupE_blt, tupE_isi, tupE_mth, tupE_exf, tupE_comp, tupE_dct, tupE_itl, pc_calm, pc_exn, pc_free, pc_wf, pl_calm, pl_exn, pl_free, pl_wf, pc_pu, pl_pu, pc0_own, pc0_mf, pc1_own, pc1_mf, pc2_own, pc2_mf, pc3_own, pc3_mf, pc4_own, pc4_mf, pc5_own, pc5_mf, pc6_own, pc6_mf, pc7_own, pc7_mf, pc8_own, pc8_mf, pc9_own, pc9_mf, pc10_own, pc10_mf, pc11_own, pc11_mf, pc12_own, pc12_mf, pc13_own, pc13_mf, pc14_own, pc14_mf, pc15_own, pc15_mf, pc16_own, pc16_mf, pc17_own, pc17_mf, pc18_own, pc18_mf, pl18_own, pl18_mf, pc_has0, pc_call0, pc_fr0, pc_has1, pc_call1, pc_fr1, pc_has2, pc_call2, pc_fr2, pc_has3, pc_call3, pc_fr3, pc_has4, pc_call4, pc_fr4, pc_has5, pc_call5, pc_fr5, pc_has6, pc_call6, pc_fr6, pc_has7, pc_call7, pc_fr7, pc_has8, pc_call8, pc_fr8, pc_has9, pc_call9, pc_fr9, pc_has10, pc_call10, pc_fr10, pc_has11, pc_call11, pc_fr11, pc_has12, pc_call12, pc_fr12, pc_has13, pc_call13, pc_fr13, pc_has14, pc_call14, pc_fr14, pc_has15, pc_call15, pc_fr15, pc_has16, pc_call16, pc_fr16, pc_has17, pc_call17, pc_fr17, pc_has18, pc_call18, pc_fr18, pc_glb20, pc_glb19, pc_glb21, pc_glb22, pc_cdt22, pl_has0, pl_call0, pl_fr0, pl_has1, pl_call1, pl_fr1, pl_has2, pl_call2, pl_fr2, pl_has3, pl_call3, pl_fr3, pl_has4, pl_call4, pl_fr4, pl_has5, pl_call5, pl_fr5, pl_has6, pl_call6, pl_fr6, pl_has7, pl_call7, pl_fr7, pl_has8, pl_call8, pl_fr8, pl_has9, pl_call9, pl_fr9, pl_has10, pl_call10, pl_fr10, pl_has11, pl_call11, pl_fr11, pl_has12, pl_call12, pl_fr12, pl_has13, pl_call13, pl_fr13, pl_has14, pl_call14, pl_fr14, pl_has15, pl_call15, pl_fr15, pl_has16, pl_call16, pl_fr16, pl_has17, pl_call17, pl_fr17, pl_has18, pl_call18, pl_fr18, pl_glb20, pl_glb19, pl_glb21, pl_glb22, pl_cdt22, h1, h2]
          simp [nameV, h3]
        | false =>
          simp only [↓pev_comp, ↓pex_for, ↓pex_whl, pexs, pex, pev, pevs, ppks, pevi, pevo, ptst, pevp, plook, psrc_str, psrc_tup, psrc_lst, List.map, List.replicate, List.cons_append, List.nil_append, Nat.sub_self, List.append_nil, Nat.reduceSub, Nat.reduceAdd, List.getElem?_cons_zero, List.getElem?_cons_succ, pbd_rt, pbd_ok, pbd_none, pup_some, pup_none, Option.map_some, Option.map_none, Option.isNone_none, Option.isNone_some, psE_rt, psE_ok, psE_none, psQ_nx, psQ_rt, psQ_bk, psQ_ct, pnoex_rt, if_true, if_false, Bool.false_eq_true, Bool.true_and, Bool.and_true, Bool.false_and, Bool.and_false, Bool.true_or, Bool.false_or, ne_eq, reduceCtorEq, not_false_eq_true, List.set_cons_zero, List.set_cons_succ, pendOf_rt, pendOf_nx, ptru_bl, ptru_int, Bool.not_true, Bool.not_false, Bool.and_self, Bool.or_false, Bool.or_true, not_true_eq_false, ptg, pwipe, pmE_call, pmE_app, pmE_ext, pmE_ins, pmE_clr, frE_lst, frE_list, frE_dict, frE_comp, frE_dct, frE_itl, frE_slc, frE_add, frE_spl, frE_call, frE_ite, isLD, List.all_cons, List.all_nil, Nat.reduceBEq, Nat.reduceEqDiff, Int.reduceEq, Int.reduceLT, Int.reduceLE, Int.reduceNeg, Int.reduceAdd, Int.reduceSub, reduceIte, decide_true, decide_false, Option.some.injEq, isV_var, isV_int, isV_str, isV_bl, isV_non, isV_glb, isV_tup, isV_lst, isV_bin, isV_neg, isV_cmp, isV_chn, isV_and, isV_or, isV_not, isV_ite, isV_idx, isV_slc, isV_call, isV_blt, isV_isi, isV_mth, isV_exf, isV_comp, isV_dct, isV_itl, tupE_var, tupE_int, tupE_str, tupE_bl, tupE_non, tupE_glb, tupE_tup, tupE_lst, tupE_bin, tupE_neg, tupE_cmp, tupE_chn, tupE_and, tupE_or, tupE_not, tupE_ite, tupE_idx, tupE_slc, tupE_call, tupE_blt, tupE_isi, tupE_mth, tupE_exf, tupE_comp, tupE_dct, tupE_itl, pc_calm, pc_exn, pc_free, pc_wf, pl_calm, pl_exn, pl_free, pl_wf, pc_pu, pl_pu, pc0_own, pc0_mf, pc1_own, pc1_mf, pc2_own, pc2_mf, pc3_own, pc3_mf, pc4_own, pc4_mf, pc5_own, pc5_mf, pc6_own, pc6_mf, pc7_own, pc7_mf, pc8_own, pc8_mf, pc9_own, pc9_mf, pc10_own, pc10_mf, pc11_own, pc11_mf, pc12_own, pc12_mf, pc13_own, pc13_mf, pc14_own, pc14_mf, pc15_own, pc15_mf, pc16_own, pc16_mf, pc17_own, pc17_mf, pc18_own, pc18_mf, pl18_own, pl18_mf, pc_has0, pc_call0, pc_fr0, pc_has1, pc_call1, pc_fr1, pc_has2, pc_call2, pc_fr2, pc_has3, pc_call3, pc_fr3, pc_has4, pc_call4, pc_fr4, pc_has5, pc_call5, pc_fr5, pc_has6, pc_call6, pc_fr6, pc_has7, pc_call7, pc_fr7, pc_has8, pc_call8, pc_fr8, pc_has9, pc_call9, pc_fr9, pc_has10, pc_call10, pc_fr10, pc_has11, pc_call11, pc_fr11, pc_has12, pc_call12, pc_fr12, pc_has13, pc_call13, pc_fr13, pc_has14, pc_call14, pc_fr14, pc_has15, pc_call15, pc_fr15, pc_has16, pc_call16, pc_fr16, pc_has17, pc_call17, pc_fr17, pc_has18, pc_call18, pc_fr18, pc_glb20, pc_glb19, pc_glb21, pc_glb22, pc_cdt22, pl_has0, pl_call0, pl_fr0, pl_has1, pl_call1, pl_fr1, pl_has2, pl_call2, pl_fr2, pl_has3, pl_call3, pl_fr3, pl_has4, pl_call4, pl_fr4, pl_has5, pl_call5, pl_fr5, pl_has6, pl_call6, pl_fr6, pl_has7, pl_call7, pl_fr7, pl_has8, pl_call8, pl_fr8, pl_has9, pl_call9, pl_fr9, pl_has10, pl_call10, pl_fr10, pl_has11, pl_call11, pl_fr11, pl_has12, pl_call12, pl_fr12, pl_has13, pl_call13, pl_fr13, pl_has14, pl_call14, pl_fr14, pl_has15, pl_call15, pl_fr15, pl_has16, pl_call16, pl_fr16, pl_has17, pl_call17, pl_fr17, pl_has18, pl_call18, pl_fr18, pl_glb20, pl_glb19, pl_glb21, pl_glb22, pl_cdt22, h1, h2]
          rw [pcomp_flt chrV (fun c => !inSm c)]
          · have h1' : 1 ≤ s.length := by omega
            have h2' : s.length ≤ 8 := by omega
            simp only [↓pev_comp, ↓pex_for, ↓pex_whl, pexs, pex, pev, pevs, ppks, pevi, pevo, ptst, pevp, plook, psrc_str, psrc_tup, psrc_lst, List.map, List.replicate, List.cons_append, List.nil_append, Nat.sub_self, List.append_nil, Nat.reduceSub, Nat.reduceAdd, List.getElem?_cons_zero, List.getElem?_cons_succ, pbd_rt, pbd_ok, pbd_none, pup_some, pup_none, Option.map_some, Option.map_none, Option.isNone_none, Option.isNone_some, psE_rt, psE_ok, psE_none, psQ_nx, psQ_rt, psQ_bk, psQ_ct, pnoex_rt, if_true, if_false, Bool.false_eq_true, Bool.true_and, Bool.and_true, Bool.false_and, Bool.and_false, Bool.true_or, Bool.false_or, ne_eq, reduceCtorEq, not_false_eq_true, List.set_cons_zero, List.set_cons_succ, pendOf_rt, pendOf_nx, ptru_bl, ptru_int, Bool.not_true, Bool.not_false, Bool.and_self, Bool.or_false, Bool.or_true, not_true_eq_false, ptg, pwipe, pmE_call, pmE_app, pmE_ext, pmE_ins, pmE_clr, frE_lst, frE_list, frE_dict, frE_comp, frE_dct, frE_itl, frE_slc, frE_add, frE_spl, frE_call, frE_ite, isLD, List.all_cons, List.all_nil, Nat.reduceBEq, Nat.reduceEqDiff, Int.reduceEq, Int.reduceLT, Int.reduceLE, Int.reduceNeg, Int.reduceAdd, Int.reduceSub, reduceIte, decide_true, decide_false, Option.some.injEq, isV_var, isV_int, isV_str, isV_bl, isV_non, isV_glb, isV_tup, isV_lst, isV_bin, isV_neg, isV_cmp, isV_chn, isV_and, isV_or, isV_not, isV_ite, isV_idx, isV_slc, isV_call, isV_blt, isV_isi, isV_mth, isV_exf, isV_comp, isV_dct, isV_itl, tupE_var, tupE_int, tupE_str, tupE_bl, tupE_non, tupE_glb, tupE_tup, tupE_lst, tupE_bin, tupE_neg, tupE_cmp, tupE_chn, tupE_and, tupE_or, tupE_not, tupE_ite, tupE_idx, tupE_slc, tupE_call, tupE_blt, tupE_isi, tupE_mth, tupE_exf, tupE_comp, tupE_dct, tupE_itl, pc_calm, pc_exn, pc_free, pc_wf, pl_calm, pl_exn, pl_free, pl_wf, pc_pu, pl_pu, pc0_own, pc0_mf, pc1_own, pc1_mf, pc2_own, pc2_mf, pc3_own, pc3_mf, pc4_own, pc4_mf, pc5_own, pc5_mf, pc6_own, pc6_mf, pc7_own, pc7_mf, pc8_own, pc8_mf, pc9_own, pc9_mf, pc10_own, pc10_mf, pc11_own, pc11_mf, pc12_own, pc12_mf, pc13_own, pc13_mf, pc14_own, pc14_mf, pc15_own, pc15_mf, pc16_own, pc16_mf, pc17_own, pc17_mf, pc18_own, pc18_mf, pl18_own, pl18_mf, pc_has0, pc_call0, pc_fr0, pc_has1, pc_call1, pc_fr1, pc_has2, pc_call2, pc_fr2, pc_has3, pc_call3, pc_fr3, pc_has4, pc_call4, pc_fr4, pc_has5, pc_call5, pc_fr5, pc_has6, pc_call6, pc_fr6, pc_has7, pc_call7, pc_fr7, pc_has8, pc_call8, pc_fr8, pc_has9, pc_call9, pc_fr9, pc_has10, pc_call10, pc_fr10, pc_has11, pc_call11, pc_fr11, pc_has12, pc_call12, pc_fr12, pc_has13, pc_call13, pc_fr13, pc_has14, pc_call14, pc_fr14, pc_has15, pc_call15, pc_fr15, pc_has16, pc_call16, pc_fr16, pc_has17, pc_call17, pc_fr17, pc_has18, pc_call18, pc_fr18, pc_glb20, pc_glb19, pc_glb21, pc_glb22, pc_cdt22, pl_has0, pl_call0, pl_fr0, pl_has1, pl_call1, pl_fr1, pl_has2, pl_call2, pl_fr2, pl_has3, pl_call3, pl_fr3, pl_has4, pl_call4, pl_fr4, pl_has5, pl_call5, pl_fr5, pl_has6, pl_call6, pl_fr6, pl_has7, pl_call7, pl_fr7, pl_has8, pl_call8, pl_fr8, pl_has9, pl_call9, pl_fr9, pl_has10, pl_call10, pl_fr10, pl_has11, pl_call11, pl_fr11, pl_has12, pl_call12, pl_fr12, pl_has13, pl_call13, pl_fr13, pl_has14, pl_call14, pl_fr14, pl_has15, pl_call15, pl_fr15, pl_has16, pl_call16, pl_fr16, pl_has17, pl_call17, pl_fr17, pl_has18, pl_call18, pl_fr18, pl_glb20, pl_glb19, pl_glb21, pl_glb22, pl_cdt22, h0, peq_lst0]
            have e : ((s.cps.toList.filter fun c => !inSm c).map chrV).isEmpty = s.cps.toList.all inSm := by
              generalize s.cps.toList = l
              induction l with
              | nil => rfl
              | cons c l ih =>
                cases hc : inSm c <;> simp [List.filter_cons, hc]
                simpa using ih
            rw [e, show nameV (.str s) = s.cps.toList.all inSm by simp [nameV, h3, h1', h2']]
          · rw [str_len]; omega
          · intro c _
            simp only [pcmpF]
            simp only [↓pev_comp, ↓pex_for, ↓pex_whl, pexs, pex, pev, pevs, ppks, pevi, pevo, ptst, pevp, plook, psrc_str, psrc_tup, psrc_lst, List.map, List.replicate, List.cons_append, List.nil_append, Nat.sub_self, List.append_nil, Nat.reduceSub, Nat.reduceAdd, List.getElem?_cons_zero, List.getElem?_cons_succ, pbd_rt, pbd_ok, pbd_none, pup_some, pup_none, Option.map_some, Option.map_none, Option.isNone_none, Option.isNone_some, psE_rt, psE_ok, psE_none, psQ_nx, psQ_rt, psQ_bk, psQ_ct, pnoex_rt, if_true, if_false, Bool.false_eq_true, Bool.true_and, Bool.and_true, Bool.false_and, Bool.and_false, Bool.true_or, Bool.false_or, ne_eq, reduceCtorEq, not_false_eq_true, List.set_cons_zero, List.set_cons_succ, pendOf_rt, pendOf_nx, ptru_bl, ptru_int, Bool.not_true, Bool.not_false, Bool.and_self, Bool.or_false, Bool.or_true, not_true_eq_false, ptg, pwipe, pmE_call, pmE_app, pmE_ext, pmE_ins, pmE_clr, frE_lst, frE_list, frE_dict, frE_comp, frE_dct, frE_itl, frE_slc, frE_add, frE_spl, frE_call, frE_ite, isLD, List.all_cons, List.all_nil, Nat.reduceBEq, Nat.reduceEqDiff, Int.reduceEq, Int.reduceLT, Int.reduceLE, Int.reduceNeg, Int.reduceAdd, Int.reduceSub, reduceIte, decide_true, decide_false, Option.some.injEq, isV_var, isV_int, isV_str, isV_bl, isV_non, isV_glb, isV_tup, isV_lst, isV_bin, isV_neg, isV_cmp, isV_chn, isV_and, isV_or, isV_not, isV_ite, isV_idx, isV_slc, isV_call, isV_blt, isV_isi, isV_mth, isV_exf, isV_comp, isV_dct, isV_itl, tupE_var, tupE_int, tupE_str, tupE_bl, tupE_non, tupE_glb, tupE_tup, tupE_lst, tupE_bin, tupE_neg, tupE_cmp, tupE_chn, tupE_and, tupE_or, tupE_not, tupE_ite, tupE_idx, tupE_slc, tupE_call, tupE_blt, tupE_isi, tupE_mth, tupE_exf, tupE_comp, tupE_dct, tupE_itl, pc_calm, pc_exn, pc_free, pc_wf, pl_calm, pl_exn, pl_free, pl_wf, pc_pu, pl_pu, pc0_own, pc0_mf, pc1_own, pc1_mf, pc2_own, pc2_mf, pc3_own, pc3_mf, pc4_own, pc4_mf, pc5_own, pc5_mf, pc6_own, pc6_mf, pc7_own, pc7_mf, pc8_own, pc8_mf, pc9_own, pc9_mf, pc10_own, pc10_mf, pc11_own, pc11_mf, pc12_own, pc12_mf, pc13_own, pc13_mf, pc14_own, pc14_mf, pc15_own, pc15_mf, pc16_own, pc16_mf, pc17_own, pc17_mf, pc18_own, pc18_mf, pl18_own, pl18_mf, pc_has0, pc_call0, pc_fr0, pc_has1, pc_call1, pc_fr1, pc_has2, pc_call2, pc_fr2, pc_has3, pc_call3, pc_fr3, pc_has4, pc_call4, pc_fr4, pc_has5, pc_call5, pc_fr5, pc_has6, pc_call6, pc_fr6, pc_has7, pc_call7, pc_fr7, pc_has8, pc_call8, pc_fr8, pc_has9, pc_call9, pc_fr9, pc_has10, pc_call10, pc_fr10, pc_has11, pc_call11, pc_fr11, pc_has12, pc_call12, pc_fr12, pc_has13, pc_call13, pc_fr13, pc_has14, pc_call14, pc_fr14, pc_has15, pc_call15, pc_fr15, pc_has16, pc_call16, pc_fr16, pc_has17, pc_call17, pc_fr17, pc_has18, pc_call18, pc_fr18, pc_glb20, pc_glb19, pc_glb21, pc_glb22, pc_cdt22, pl_has0, pl_call0, pl_fr0, pl_has1, pl_call1, pl_fr1, pl_has2, pl_call2, pl_fr2, pl_has3, pl_call3, pl_fr3, pl_has4, pl_call4, pl_fr4, pl_has5, pl_call5, pl_fr5, pl_has6, pl_call6, pl_fr6, pl_has7, pl_call7, pl_fr7, pl_has8, pl_call8, pl_fr8, pl_has9, pl_call9, pl_fr9, pl_has10, pl_call10, pl_fr10, pl_has11, pl_call11, pl_fr11, pl_has12, pl_call12, pl_fr12, pl_has13, pl_call13, pl_fr13, pl_has14, pl_call14, pl_fr14, pl_has15, pl_call15, pl_fr15, pl_has16, pl_call16, pl_fr16, pl_has17, pl_call17, pl_fr17, pl_has18, pl_call18, pl_fr18, pl_glb20, pl_glb19, pl_glb21, pl_glb22, pl_cdt22, lt_chr, chr_lt, lit_a, lit_z, lt_one]
            unfold inSm
            by_cases g1 : c < 97
            · have g1' : ¬ 97 ≤ c := by omega
              simp only [↓pev_comp, ↓pex_for, ↓pex_whl, pexs, pex, pev, pevs, ppks, pevi, pevo, ptst, pevp, plook, psrc_str, psrc_tup, psrc_lst, List.map, List.replicate, List.cons_append, List.nil_append, Nat.sub_self, List.append_nil, Nat.reduceSub, Nat.reduceAdd, List.getElem?_cons_zero, List.getElem?_cons_succ, pbd_rt, pbd_ok, pbd_none, pup_some, pup_none, Option.map_some, Option.map_none, Option.isNone_none, Option.isNone_some, psE_rt, psE_ok, psE_none, psQ_nx, psQ_rt, psQ_bk, psQ_ct, pnoex_rt, if_true, if_false, Bool.false_eq_true, Bool.true_and, Bool.and_true, Bool.false_and, Bool.and_false, Bool.true_or, Bool.false_or, ne_eq, reduceCtorEq, not_false_eq_true, List.set_cons_zero, List.set_cons_succ, pendOf_rt, pendOf_nx, ptru_bl, ptru_int, Bool.not_true, Bool.not_false, Bool.and_self, Bool.or_false, Bool.or_true, not_true_eq_false, ptg, pwipe, pmE_call, pmE_app, pmE_ext, pmE_ins, pmE_clr, frE_lst, frE_list, frE_dict, frE_comp, frE_dct, frE_itl, frE_slc, frE_add, frE_spl, frE_call, frE_ite, isLD, List.all_cons, List.all_nil, Nat.reduceBEq, Nat.reduceEqDiff, Int.reduceEq, Int.reduceLT, Int.reduceLE, Int.reduceNeg, Int.reduceAdd, Int.reduceSub, reduceIte, decide_true, decide_false, Option.some.injEq, isV_var, isV_int, isV_str, isV_bl, isV_non, isV_glb, isV_tup, isV_lst, isV_bin, isV_neg, isV_cmp, isV_chn, isV_and, isV_or, isV_not, isV_ite, isV_idx, isV_slc, isV_call, isV_blt, isV_isi, isV_mth, isV_exf, isV_comp, isV_dct, isV_itl, tupE_var, tupE_int, tupE_str, tupE_bl, tupE_non, tupE_glb, tupE_tup, tupE_lst, tupE_bin, tupE_neg, tupE_cmp, tupE_chn, tupE_and, tupE_or, tupE_not, tupE_ite, tupE_idx, tupE_slc, tupE_call, tupE_blt, tupE_isi, tupE_mth, tupE_exf, tupE_comp, tupE_dct, tupE_itl, pc_calm, pc_exn, pc_free, pc_wf, pl_calm, pl_exn, pl_free, pl_wf, pc_pu, pl_pu, pc0_own, pc0_mf, pc1_own, pc1_mf, pc2_own, pc2_mf, pc3_own, pc3_mf, pc4_own, pc4_mf, pc5_own, pc5_mf, pc6_own, pc6_mf, pc7_own, pc7_mf, pc8_own, pc8_mf, pc9_own, pc9_mf, pc10_own, pc10_mf, pc11_own, pc11_mf, pc12_own, pc12_mf, pc13_own, pc13_mf, pc14_own, pc14_mf, pc15_own, pc15_mf, pc16_own, pc16_mf, pc17_own, pc17_mf, pc18_own, pc18_mf, pl18_own, pl18_mf, pc_has0, pc_call0, pc_fr0, pc_has1, pc_call1, pc_fr1, pc_has2, pc_call2, pc_fr2, pc_has3, pc_call3, pc_fr3, pc_has4, pc_call4, pc_fr4, pc_has5, pc_call5, pc_fr5, pc_has6, pc_call6, pc_fr6, pc_has7, pc_call7, pc_fr7, pc_has8, pc_call8, pc_fr8, pc_has9, pc_call9, pc_fr9, pc_has10, pc_call10, pc_fr10, pc_has11, pc_call11, pc_fr11, pc_has12, pc_call12, pc_fr12, pc_has13, pc_call13, pc_fr13, pc_has14, pc_call14, pc_fr14, pc_has15, pc_call15, pc_fr15, pc_has16, pc_call16, pc_fr16, pc_has17, pc_call17, pc_fr17, pc_has18, pc_call18, pc_fr18, pc_glb20, pc_glb19, pc_glb21, pc_glb22, pc_cdt22, pl_has0, pl_call0, pl_fr0, pl_has1, pl_call1, pl_fr1, pl_has2, pl_call2, pl_fr2, pl_has3, pl_call3, pl_fr3, pl_has4, pl_call4, pl_fr4, pl_has5, pl_call5, pl_fr5, pl_has6, pl_call6, pl_fr6, pl_has7, pl_call7, pl_fr7, pl_has8, pl_call8, pl_fr8, pl_has9, pl_call9, pl_fr9, pl_has10, pl_call10, pl_fr10, pl_has11, pl_call11, pl_fr11, pl_has12, pl_call12, pl_fr12, pl_has13, pl_call13, pl_fr13, pl_has14, pl_call14, pl_fr14, pl_has15, pl_call15, pl_fr15, pl_has16, pl_call16, pl_fr16, pl_has17, pl_call17, pl_fr17, pl_has18, pl_call18, pl_fr18, pl_glb20, pl_glb19, pl_glb21, pl_glb22, pl_cdt22, g1, g1']
            · have g1' : 97 ≤ c := by omega
              by_cases g2 : 122 < c
              · have g2' : ¬ c ≤ 122 := by omega
                simp only [↓pev_comp, ↓pex_for, ↓pex_whl, pexs, pex, pev, pevs, ppks, pevi, pevo, ptst, pevp, plook, psrc_str, psrc_tup, psrc_lst, List.map, List.replicate, List.cons_append, List.nil_append, Nat.sub_self, List.append_nil, Nat.reduceSub, Nat.reduceAdd, List.getElem?_cons_zero, List.getElem?_cons_succ, pbd_rt, pbd_ok, pbd_none, pup_some, pup_none, Option.map_some, Option.map_none, Option.isNone_none, Option.isNone_some, psE_rt, psE_ok, psE_none, psQ_nx, psQ_rt, psQ_bk, psQ_ct, pnoex_rt, if_true, if_false, Bool.false_eq_true, Bool.true_and, Bool.and_true, Bool.false_and, Bool.and_false, Bool.true_or, Bool.false_or, ne_eq, reduceCtorEq, not_false_eq_true, List.set_cons_zero, List.set_cons_succ, pendOf_rt, pendOf_nx, ptru_bl, ptru_int, Bool.not_true, Bool.not_false, Bool.and_self, Bool.or_false, Bool.or_true, not_true_eq_false, ptg, pwipe, pmE_call, pmE_app, pmE_ext, pmE_ins, pmE_clr, frE_lst, frE_list, frE_dict, frE_comp, frE_dct, frE_itl, frE_slc, frE_add, frE_spl, frE_call, frE_ite, isLD, List.all_cons, List.all_nil, Nat.reduceBEq, Nat.reduceEqDiff, Int.reduceEq, Int.reduceLT, Int.reduceLE, Int.reduceNeg, Int.reduceAdd, Int.reduceSub, reduceIte, decide_true, decide_false, Option.some.injEq, isV_var, isV_int, isV_str, isV_bl, isV_non, isV_glb, isV_tup, isV_lst, isV_bin, isV_neg, isV_cmp, isV_chn, isV_and, isV_or, isV_not, isV_ite, isV_idx, isV_slc, isV_call, isV_blt, isV_isi, isV_mth, isV_exf, isV_comp, isV_dct, isV_itl, tupE_var, tupE_int, tupE_str, tupE_bl, tupE_non, tupE_glb, tupE_tup, tupE_lst, tupE_bin, tupE_neg, tupE_cmp, tupE_chn, tupE_and, tupE_or, tupE_not, tupE_ite, tupE_idx, tupE_slc, tupE_call, tupE_blt, tupE_isi, tupE_mth, tupE_exf, tupE_comp, tupE_dct, tupE_itl, pc_calm, pc_exn, pc_free, pc_wf, pl_calm, pl_exn, pl_free, pl_wf, pc_pu, pl_pu, pc0_own, pc0_mf, pc1_own, pc1_mf, pc2_own, pc2_mf, pc3_own, pc3_mf, pc4_own, pc4_mf, pc5_own, pc5_mf, pc6_own, pc6_mf, pc7_own, pc7_mf, pc8_own, pc8_mf, pc9_own, pc9_mf, pc10_own, pc10_mf, pc11_own, pc11_mf, pc12_own, pc12_mf, pc13_own, pc13_mf, pc14_own, pc14_mf, pc15_own, pc15_mf, pc16_own, pc16_mf, pc17_own, pc17_mf, pc18_own, pc18_mf, pl18_own, pl18_mf, pc_has0, pc_call0, pc_fr0, pc_has1, pc_call1, pc_fr1, pc_has2, pc_call2, pc_fr2, pc_has3, pc_call3, pc_fr3, pc_has4, pc_call4, pc_fr4, pc_has5, pc_call5, pc_fr5, pc_has6, pc_call6, pc_fr6, pc_has7, pc_call7, pc_fr7, pc_has8, pc_call8, pc_fr8, pc_has9, pc_call9, pc_fr9, pc_has10, pc_call10, pc_fr10, pc_has11, pc_call11, pc_fr11, pc_has12, pc_call12, pc_fr12, pc_has13, pc_call13, pc_fr13, pc_has14, pc_call14, pc_fr14, pc_has15, pc_call15, pc_fr15, pc_has16, pc_call16, pc_fr16, pc_has17, pc_call17, pc_fr17, pc_has18, pc_call18, pc_fr18, pc_glb20, pc_glb19, pc_glb21, pc_glb22, pc_cdt22, pl_has0, pl_call0, pl_fr0, pl_has1, pl_call1, pl_fr1, pl_has2, pl_call2, pl_fr2, pl_has3, pl_call3, pl_fr3, pl_has4, pl_call4, pl_fr4, pl_has5, pl_call5, pl_fr5, pl_has6, pl_call6, pl_fr6, pl_has7, pl_call7, pl_fr7, pl_has8, pl_call8, pl_fr8, pl_has9, pl_call9, pl_fr9, pl_has10, pl_call10, pl_fr10, pl_has11, pl_call11, pl_fr11, pl_has12, pl_call12, pl_fr12, pl_has13, pl_call13, pl_fr13, pl_has14, pl_call14, pl_fr14, pl_has15, pl_call15, pl_fr15, pl_has16, pl_call16, pl_fr16, pl_has17, pl_call17, pl_fr17, pl_has18, pl_call18, pl_fr18, pl_glb20, pl_glb19, pl_glb21, pl_glb22, pl_cdt22, g1, g1', g2, g2']
              · have g2' : c ≤ 122 := by omega
                simp only [↓pev_comp, ↓pex_for, ↓pex_whl, pexs, pex, pev, pevs, ppks, pevi, pevo, ptst, pevp, plook, psrc_str, psrc_tup, psrc_lst, List.map, List.replicate, List.cons_append, List.nil_append, Nat.sub_self, List.append_nil, Nat.reduceSub, Nat.reduceAdd, List.getElem?_cons_zero, List.getElem?_cons_succ, pbd_rt, pbd_ok, pbd_none, pup_some, pup_none, Option.map_some, Option.map_none, Option.isNone_none, Option.isNone_some, psE_rt, psE_ok, psE_none, psQ_nx, psQ_rt, psQ_bk, psQ_ct, pnoex_rt, if_true, if_false, Bool.false_eq_true, Bool.true_and, Bool.and_true, Bool.false_and, Bool.and_false, Bool.true_or, Bool.false_or, ne_eq, reduceCtorEq, not_false_eq_true, List.set_cons_zero, List.set_cons_succ, pendOf_rt, pendOf_nx, ptru_bl, ptru_int, Bool.not_true, Bool.not_false, Bool.and_self, Bool.or_false, Bool.or_true, not_true_eq_false, ptg, pwipe, pmE_call, pmE_app, pmE_ext, pmE_ins, pmE_clr, frE_lst, frE_list, frE_dict, frE_comp, frE_dct, frE_itl, frE_slc, frE_add, frE_spl, frE_call, frE_ite, isLD, List.all_cons, List.all_nil, Nat.reduceBEq, Nat.reduceEqDiff, Int.reduceEq, Int.reduceLT, Int.reduceLE, Int.reduceNeg, Int.reduceAdd, Int.reduceSub, reduceIte, decide_true, decide_false, Option.some.injEq, isV_var, isV_int, isV_str, isV_bl, isV_non, isV_glb, isV_tup, isV_lst, isV_bin, isV_neg, isV_cmp, isV_chn, isV_and, isV_or, isV_not, isV_ite, isV_idx, isV_slc, isV_call, isV_blt, isV_isi, isV_mth, isV_exf, isV_comp, isV_dct, isV_itl, tupE_var, tupE_int, tupE_str, tupE_bl, tupE_non, tupE_glb, tupE_tup, tupE_lst, tupE_bin, tupE_neg, tupE_cmp, tupE_chn, tupE_and, tupE_or, tupE_not, tupE_ite, tupE_idx, tupE_slc, tupE_call, tupE_blt, tupE_isi, tupE_mth, tupE_exf, tupE_comp, tupE_dct, tupE_itl, pc_calm, pc_exn, pc_free, pc_wf, pl_calm, pl_exn, pl_free, pl_wf, pc_pu, pl_pu, pc0_own, pc0_mf, pc1_own, pc1_mf, pc2_own, pc2_mf, pc3_own, pc3_mf, pc4_own, pc4_mf, pc5_own, pc5_mf, pc6_own, pc6_mf, pc7_own, pc7_mf, pc8_own, pc8_mf, pc9_own, pc9_mf, pc10_own, pc10_mf, pc11_own, pc11_mf, pc12_own, pc12_mf, pc13_own, pc13_mf, pc14_own, pc14_mf, pc15_own, pc15_mf, pc16_own, pc16_mf, pc17_own, pc17_mf, pc18_own, pc18_mf, pl18_own, pl18_mf, pc_has0, pc_call0, pc_fr0, pc_has1, pc_call1, pc_fr1, pc_has2, pc_call2, pc_fr2, pc_has3, pc_call3, pc_fr3, pc_has4, pc_call4, pc_fr4, pc_has5, pc_call5, pc_fr5, pc_has6, pc_call6, pc_fr6, pc_has7, pc_call7, pc_fr7, pc_has8, pc_call8, pc_fr8, pc_has9, pc_call9, pc_fr9, pc_has10, pc_call10, pc_fr10, pc_has11, pc_call11, pc_fr11, pc_has12, pc_call12, pc_fr12, pc_has13, pc_call13, pc_fr13, pc_has14, pc_call14, pc_fr14, pc_has15, pc_call15, pc_fr15, pc_has16, pc_call16, pc_fr16, pc_has17, pc_call17, pc_fr17, pc_has18, pc_call18, pc_fr18, pc_glb20, pc_glb19, pc_glb21, pc_glb22, pc_cdt22, pl_has0, pl_call0, pl_fr0, pl_has1, pl_call1, pl_fr1, pl_has2, pl_call2, pl_fr2, pl_has3, pl_call3, pl_fr3, pl_has4, pl_call4, pl_fr4, pl_has5, pl_call5, pl_fr5, pl_has6, pl_call6, pl_fr6, pl_has7, pl_call7, pl_fr7, pl_has8, pl_call8, pl_fr8, pl_has9, pl_call9, pl_fr9, pl_has10, pl_call10, pl_fr10, pl_has11, pl_call11, pl_fr11, pl_has12, pl_call12, pl_fr12, pl_has13, pl_call13, pl_fr13, pl_has14, pl_call14, pl_fr14, pl_has15, pl_call15, pl_fr15, pl_has16, pl_call16, pl_fr16, pl_has17, pl_call17, pl_fr17, pl_has18, pl_call18, pl_fr18, pl_glb20, pl_glb19, pl_glb21, pl_glb22, pl_cdt22, g1, g1', g2, g2']
      · have h2' : ¬ s.length ≤ 8 := by omega
        simp only [↓pev_comp, ↓pex_for, ↓pex_whl, pexs, pex, pev, pevs, ppks, pevi, pevo, ptst, pevp, plook, psrc_str, psrc_tup, psrc_lst, List.map, List.replicate, List.cons_append, List.nil_append, Nat.sub_self, List.append_nil, Nat.reduceSub, Nat.reduceAdd, List.getElem?_cons_zero, List.getElem?_cons_succ, pbd_rt, pbd_ok, pbd_none, pup_some, pup_none, Option.map_some, Option.map_none, Option.isNone_none, Option.isNone_some, psE_rt, psE_ok, psE_none, psQ_nx, psQ_rt, psQ_bk, psQ_ct, pnoex_rt, if_true, if_false, Bool.false_eq_true, Bool.true_and, Bool.and_true, Bool.false_and, Bool.and_false, Bool.true_or, Bool.false_or, ne_eq, reduceCtorEq, not_false_eq_true, List.set_cons_zero, List.set_cons_succ, pendOf_rt, pendOf_nx, ptru_bl, ptru_int, Bool.not_true, Bool.not_false, Bool.and_self, Bool.or_false, Bool.or_true, not_true_eq_false, ptg, pwipe, pmE_call, pmE_app, pmE_ext, pmE_ins, pmE_clr, frE_lst, frE_list, frE_dict, frE_comp, frE_dct, frE_itl, frE_slc, frE_add, frE_spl, frE_call, frE_ite, isLD, List.all_cons, List.all_nil, Nat.reduceBEq, Nat.reduceEqDiff, Int.reduceEq, Int.reduceLT, Int.reduceLE, Int.reduceNeg, Int.reduceAdd, Int.reduceSub, reduceIte, decide_true, decide_false, Option.some.injEq, isV_var, isV_int, isV_str, isV_bl, isV_non, isV_glb, isV_tup, isV_lst, isV_bin, isV_neg, isV_cmp, isV_chn, isV_and, isV_or, isV_not, isV_ite, isV_idx, isV_slc, isV_call, isV_blt, isV_isi, isV_mth, isV_exf, isV_comp, isV_dct, isV_itl, tupE_var, tupE_int, tupE_str, tupE_bl, tupE_non, tupE_glb, tupE_tup, tupE_lst, tupE_bin, tupE_neg, tupE_cmp, tupE_chn, tupE_and, tupE_or, tupE_not, tupE_ite, tupE_idx, tupE_slc, tupE_call, tupE_blt, tupE_isi, tupE_mth, tupE_exf, tupE_comp, tupE_dct, tupE_itl, pc_calm, pc_exn, pc_free, pc_wf, pl_calm, pl_exn, pl_free, pl_wf, pc_pu, pl_pu, pc0_own, pc0_mf, pc1_own, pc1_mf, pc2_own, pc2_mf, pc3_own, pc3_mf, pc4_own, pc4_mf, pc5_own, pc5_mf, pc6_own, pc6_mf, pc7_own, pc7_mf, pc8_own, pc8_mf, pc9_own, pc9_mf, pc10_own, pc10_mf, pc11_own, pc11_mf, pc12_own, pc12_mf, pc13_own, pc13_mf, pc14_own, pc14_mf, pc15_own, pc15_mf, pc16_own, pc16_mf, pc17_own, pc17_mf, pc18_own, pc18_mf, pl18_own, pl18_mf, pc_has0, pc_call0, pc_fr0, pc_has1, pc_call1, pc_fr1, pc_has2, pc_call2, pc_fr2, pc_has3, pc_call3, pc_fr3, pc_has4, pc_call4, pc_fr4, pc_has5, pc_call5, pc_fr5, pc_has6, pc_call6, pc_fr6, pc_has7, pc_call7, pc_fr7, pc_has8, pc_call8, pc_fr8, pc_has9, pc_call9, pc_fr9, pc_has10, pc_call10, pc_fr10, pc_has11, pc_call11, pc_fr11, pc_has12, pc_call12, pc_fr12, pc_has13, pc_call13, pc_fr13, pc_has14, pc_call14, pc_fr14, pc_has15, pc_call15, pc_fr15, pc_has16, pc_call16, pc_fr16, pc_has17, pc_call17, pc_fr17, pc_has18, pc_call18, pc_fr18, pc_glb20, pc_glb19, pc_glb21, pc_glb22, pc_cdt22, pl_has0, pl_call0, pl_fr0, pl_has1, pl_call1, pl_fr1, pl_has2, pl_call2, pl_fr2, pl_has3, pl_call3, pl_fr3, pl_has4, pl_call4, pl_fr4, pl_has5, pl_call5, pl_fr5, pl_has6, pl_call6, pl_fr6, pl_has7, pl_call7, pl_fr7, pl_has8, pl_call8, pl_fr8, pl_has9, pl_call9, pl_fr9, pl_has10, pl_call10, pl_fr10, pl_has11, pl_call11, pl_fr11, pl_has12, pl_call12, pl_fr12, pl_has13, pl_call13, pl_fr13, pl_has14, pl_call14, pl_fr14, pl_has15, pl_call15, pl_fr15, pl_has16, pl_call16, pl_fr16, pl_has17, pl_call17, pl_fr17, pl_has18, pl_call18, pl_fr18, pl_glb20, pl_glb19, pl_glb21, pl_glb22, pl_cdt22, h1, h2]
        simp [nameV, h2']
    · have h1' : ¬ 1 ≤ s.length := by omega
      simp only [↓pev_comp, ↓pex_for, ↓pex_whl, pexs, pex, pev, pevs, ppks, pevi, pevo, ptst, pevp, plook, psrc_str, psrc_tup, psrc_lst, List.map, List.replicate, List.cons_append, List.nil_append, Nat.sub_self, List.append_nil, Nat.reduceSub, Nat.reduceAdd, List.getElem?_cons_zero, List.getElem?_cons_succ, pbd_rt, pbd_ok, pbd_none, pup_some, pup_none, Option.map_some, Option.map_none, Option.isNone_none, Option.isNone_some, psE_rt, psE_ok, psE_none, psQ_nx, psQ_rt, psQ_bk, psQ_ct, pnoex_rt, if_true, if_false, Bool.false_eq_true, Bool.true_and, Bool.and_true, Bool.false_and, Bool.and_false, Bool.true_or, Bool.false_or, ne_eq, reduceCtorEq, not_false_eq_true, List.set_cons_zero, List.set_cons_succ, pendOf_rt, pendOf_nx, ptru_bl, ptru_int, Bool.not_true, Bool.not_false, Bool.and_self, Bool.or_false, Bool.or_true, not_true_eq_false, ptg, pwipe, pmE_call, pmE_app, pmE_ext, pmE_ins, pmE_clr, frE_lst, frE_list, frE_dict, frE_comp, frE_dct, frE_itl, frE_slc, frE_add, frE_spl, frE_call, frE_ite, isLD, List.all_cons, List.all_nil, Nat.reduceBEq, Nat.reduceEqDiff, Int.reduceEq, Int.reduceLT, Int.reduceLE, Int.reduceNeg, Int.reduceAdd, Int.reduceSub, reduceIte, decide_true, decide_false, Option.some.injEq, isV_var, isV_int, isV_str, isV_bl, isV_non, isV_glb, isV_tup, isV_lst, isV_bin, isV_neg, isV_cmp, isV_chn, isV_and, isV_or, isV_not, isV_ite, isV_idx, isV_slc, isV_call, isV_blt, isV_isi, isV_mth, isV_exf, isV_comp, isV_dct, isV_itl, tupE_var, tupE_int, tupE_str, tupE_bl, tupE_non, tupE_glb, tupE_tup, tupE_lst, tupE_bin, tupE_neg, tupE_cmp, tupE_chn, tupE_and, tupE_or, tupE_not, tupE_ite, tupE_idx, tupE_slc, tupE_call, tupE_blt, tupE_isi, tupE_mth, tupE_exf, tupE_comp, tupE_dct, tupE_itl, pc_calm, pc_exn, pc_free, pc_wf, pl_calm, pl_exn, pl_free, pl_wf, pc_pu, pl_pu, pc0_own, pc0_mf, pc1_own, pc1_mf, pc2_own, pc2_mf, pc3_own, pc3_mf, pc4_own, pc4_mf, pc5_own, pc5_mf, pc6_own, pc6_mf, pc7_own, pc7_mf, pc8_own, pc8_mf, pc9_own, pc9_mf, pc10_own, pc10_mf, pc11_own, pc11_mf, pc12_own, pc12_mf, pc13_own, pc13_mf, pc14_own, pc14_mf, pc15_own, pc15_mf, pc16_own, pc16_mf, pc17_own, pc17_mf, pc18_own, pc18_mf, pl18_own, pl18_mf, pc_has0, pc_call0, pc_fr0, pc_has1, pc_call1, pc_fr1, pc_has2, pc_call2, pc_fr2, pc_has3, pc_call3, pc_fr3, pc_has4, pc_call4, pc_fr4, pc_has5, pc_call5, pc_fr5, pc_has6, pc_call6, pc_fr6, pc_has7, pc_call7, pc_fr7, pc_has8, pc_call8, pc_fr8, pc_has9, pc_call9, pc_fr9, pc_has10, pc_call10, pc_fr10, pc_has11, pc_call11, pc_fr11, pc_has12, pc_call12, pc_fr12, pc_has13, pc_call13, pc_fr13, pc_has14, pc_call14, pc_fr14, pc_has15, pc_call15, pc_fr15, pc_has16, pc_call16, pc_fr16, pc_has17, pc_call17, pc_fr17, pc_has18, pc_call18, pc_fr18, pc_glb20, pc_glb19, pc_glb21, pc_glb22, pc_cdt22, pl_has0, pl_call0, pl_fr0, pl_has1, pl_call1, pl_fr1, pl_has2, pl_call2, pl_fr2, pl_has3, pl_call3, pl_fr3, pl_has4, pl_call4, pl_fr4, pl_has5, pl_call5, pl_fr5, pl_has6, pl_call6, pl_fr6, pl_has7, pl_call7, pl_fr7, pl_has8, pl_call8, pl_fr8, pl_has9, pl_call9, pl_fr9, pl_has10, pl_call10, pl_fr10, pl_has11, pl_call11, pl_fr11, pl_has12, pl_call12, pl_fr12, pl_has13, pl_call13, pl_fr13, pl_has14, pl_call14, pl_fr14, pl_has15, pl_call15, pl_fr15, pl_has16, pl_call16, pl_fr16, pl_has17, pl_call17, pl_fr17, pl_has18, pl_call18, pl_fr18, pl_glb20, pl_glb19, pl_glb21, pl_glb22, pl_cdt22, h1]
      simp [nameV, h1']
  | _ => simp only [↓pev_comp, ↓pex_for, ↓pex_whl, pexs, pex, pev, pevs, ppks, pevi, pevo, ptst, pevp, plook, psrc_str, psrc_tup, psrc_lst, List.map, List.replicate, List.cons_append, List.nil_append, Nat.sub_self, List.append_nil, Nat.reduceSub, Nat.reduceAdd, List.getElem?_cons_zero, List.getElem?_cons_succ, pbd_rt, pbd_ok, pbd_none, pup_some, pup_none, Option.map_some, Option.map_none, Option.isNone_none, Option.isNone_some, psE_rt, psE_ok, psE_none, psQ_nx, psQ_rt, psQ_bk, psQ_ct, pnoex_rt, if_true, if_false, Bool.false_eq_true, Bool.true_and, Bool.and_true, Bool.false_and, Bool.and_false, Bool.true_or, Bool.false_or, ne_eq, reduceCtorEq, not_false_eq_true, List.set_cons_zero, List.set_cons_succ, pendOf_rt, pendOf_nx, ptru_bl, ptru_int, Bool.not_true, Bool.not_false, Bool.and_self, Bool.or_false, Bool.or_true, not_true_eq_false, ptg, pwipe, pmE_call, pmE_app, pmE_ext, pmE_ins, pmE_clr, frE_lst, frE_list, frE_dict, frE_comp, frE_dct, frE_itl, frE_slc, frE_add, frE_spl, frE_call, frE_ite, isLD, List.all_cons, List.all_nil, Nat.reduceBEq, Nat.reduceEqDiff, Int.reduceEq, Int.reduceLT, Int.reduceLE, Int.reduceNeg, Int.reduceAdd, Int.reduceSub, reduceIte, decide_true, decide_false, Option.some.injEq, isV_var, isV_int, isV_str, isV_bl, isV_non, isV_glb, isV_tup, isV_lst, isV_bin, isV_neg, isV_cmp, isV_chn, isV_and, isV_or, isV_not, isV_ite, isV_idx, isV_slc, isV_call, isV_blt, isV_isi, isV_mth, isV_exf, isV_comp, isV_dct, isV_itl, tupE_var, tupE_int, tupE_str, tupE_bl, tupE_non, tupE_glb, tupE_tup, tupE_lst, tupE_bin, tupE_neg, tupE_cmp, tupE_chn, tupE_and, tupE_or, tupE_not, tupE_ite, tupE_idx, tupE_slc, tupE_call, tupE_blt, tupE_isi, tupE_mth, tupE_exf, tupE_comp, tupE_dct, tupE_itl, pc_calm, pc_exn, pc_free, pc_wf, pl_calm, pl_exn, pl_free, pl_wf, pc_pu, pl_pu, pc0_own, pc0_mf, pc1_own, pc1_mf, pc2_own, pc2_mf, pc3_own, pc3_mf, pc4_own, pc4_mf, pc5_own, pc5_mf, pc6_own, pc6_mf, pc7_own, pc7_mf, pc8_own, pc8_mf, pc9_own, pc9_mf, pc10_own, pc10_mf, pc11_own, pc11_mf, pc12_own, pc12_mf, pc13_own, pc13_mf, pc14_own, pc14_mf, pc15_own, pc15_mf, pc16_own, pc16_mf, pc17_own, pc17_mf, pc18_own, pc18_mf, pl18_own, pl18_mf, pc_has0, pc_call0, pc_fr0, pc_has1, pc_call1, pc_fr1, pc_has2, pc_call2, pc_fr2, pc_has3, pc_call3, pc_fr3, pc_has4, pc_call4, pc_fr4, pc_has5, pc_call5, pc_fr5, pc_has6, pc_call6, pc_fr6, pc_has7, pc_call7, pc_fr7, pc_has8, pc_call8, pc_fr8, pc_has9, pc_call9, pc_fr9, pc_has10, pc_call10, pc_fr10, pc_has11, pc_call11, pc_fr11, pc_has12, pc_call12, pc_fr12, pc_has13, pc_call13, pc_fr13, pc_has14, pc_call14, pc_fr14, pc_has15, pc_call15, pc_fr15, pc_has16, pc_call16, pc_fr16, pc_has17, pc_call17, pc_fr17, pc_has18, pc_call18, pc_fr18, pc_glb20, pc_glb19, pc_glb21, pc_glb22, pc_cdt22, pl_has0, pl_call0, pl_fr0, pl_has1, pl_call1, pl_fr1, pl_has2, pl_call2, pl_fr2, pl_has3, pl_call3, pl_fr3, pl_has4, pl_call4, pl_fr4, pl_has5, pl_call5, pl_fr5, pl_has6, pl_call6, pl_fr6, pl_has7, pl_call7, pl_fr7, pl_has8, pl_call8, pl_fr8, pl_has9, pl_call9, pl_fr9, pl_has10, pl_call10, pl_fr10, pl_has11, pl_call11, pl_fr11, pl_has12, pl_call12, pl_fr12, pl_has13, pl_call13, pl_fr13, pl_has14, pl_call14, pl_fr14, pl_has15, pl_call15, pl_fr15, pl_has16, pl_call16, pl_fr16, pl_has17, pl_call17, pl_fr17, pl_has18, pl_call18, pl_fr18, pl_glb20, pl_glb19, pl_glb21, pl_glb22, pl_cdt22, pisi_d hv, tyP, nameV]
def bodyT : MSs := forB (nthS m_law_is_term.body 3)
theorem pow31 : pbin .pow (.int 10) (.int 31) = some (.int (10 ^ 31)) := by
  simp only [pbin]; rw [if_pos (by decide)]; rfl
theorem body_term {k : Nat} (c : Nat) (hc : c = 110 ∨ c = 104 ∨ c = 119 ∨ c = 116) (v : V) (σ : PS) (g : gv v = true) (a b : Option V) (ih : Mi.pv T D (k + 1) 15 [v] σ = prt (.bl (isT v)) σ) :
    pbodyF (Pc (k + 1) 15) T.excs bodyT [a, b, some (chrV c), some v] σ = if fmT c v = true then some (.nx [a, b, some (chrV c), some v] σ) else some (.rt (.bl false) σ) := by
  have hv := gv_isD g
  simp only [pbodyF, bodyT, nthS, forB, m_law_is_term]
  rcases hc with rfl | rfl | rfl | rfl
  · have e : fmT 110 v = numV v := rfl
    rw [e]
    simp only [↓pev_comp, ↓pex_for, ↓pex_whl, pexs, pex, pev, pevs, ppks, pevi, pevo, ptst, pevp, plook, psrc_str, psrc_tup, psrc_lst, List.map, List.replicate, List.cons_append, List.nil_append, Nat.sub_self, List.append_nil, Nat.reduceSub, Nat.reduceAdd, List.getElem?_cons_zero, List.getElem?_cons_succ, pbd_rt, pbd_ok, pbd_none, pup_some, pup_none, Option.map_some, Option.map_none, Option.isNone_none, Option.isNone_some, psE_rt, psE_ok, psE_none, psQ_nx, psQ_rt, psQ_bk, psQ_ct, pnoex_rt, if_true, if_false, Bool.false_eq_true, Bool.true_and, Bool.and_true, Bool.false_and, Bool.and_false, Bool.true_or, Bool.false_or, ne_eq, reduceCtorEq, not_false_eq_true, List.set_cons_zero, List.set_cons_succ, pendOf_rt, pendOf_nx, ptru_bl, ptru_int, Bool.not_true, Bool.not_false, Bool.and_self, Bool.or_false, Bool.or_true, not_true_eq_false, ptg, pwipe, pmE_call, pmE_app, pmE_ext, pmE_ins, pmE_clr, frE_lst, frE_list, frE_dict, frE_comp, frE_dct, frE_itl, frE_slc, frE_add, frE_spl, frE_call, frE_ite, isLD, List.all_cons, List.all_nil, Nat.reduceBEq, Nat.reduceEqDiff, Int.reduceEq, Int.reduceLT, Int.reduceLE, Int.reduceNeg, Int.reduceAdd, Int.reduceSub, reduceIte, decide_true, decide_false, Option.some.injEq, isV_var, isV_int, isV_str, isV_bl, isV_non, isV_glb, isV_tup, isV_lst, isV_bin, isV_neg, isV_cmp, isV_chn, isV_and, isV_or, isV_not, isV_ite, isV_idx, isV_slc, isV_call, isV_blt, isV_isi, isV_mth, isV_exf, isV_comp, isV_dct, isV_itl, tupE_var, tupE_int, tupE_str, tupE_bl, tupE_non, tupE_glb, tupE_tup, tupE_lst, tupE_bin, tupE_neg, tupE_cmp, tupE_chn, tupE_and, tupE_or, tupE_not, tupE_ite, tupE_idx, tupE_slc, tupE_call, tupE_blt, tupE_isi, tupE_mth, tupE_exf, tupE_comp, tupE_dct, tupE_itl, pc_calm, pc_exn, pc_free, pc_wf, pl_calm, pl_exn, pl_free, pl_wf, pc_pu, pl_pu, pc0_own, pc0_mf, pc1_own, pc1_mf, pc2_own, pc2_mf, pc3_own, pc3_mf, pc4_own, pc4_mf, pc5_own, pc5_mf, pc6_own, pc6_mf, pc7_own, pc7_mf, pc8_own, pc8_mf, pc9_own, pc9_mf, pc10_own, pc10_mf, pc11_own, pc11_mf, pc12_own, pc12_mf, pc13_own, pc13_mf, pc14_own, pc14_mf, pc15_own, pc15_mf, pc16_own, pc16_mf, pc17_own, pc17_mf, pc18_own, pc18_mf, pl18_own, pl18_mf, pc_has0, pc_call0, pc_fr0, pc_has1, pc_call1, pc_fr1, pc_has2, pc_call2, pc_fr2, pc_has3, pc_call3, pc_fr3, pc_has4, pc_call4, pc_fr4, pc_has5, pc_call5, pc_fr5, pc_has6, pc_call6, pc_fr6, pc_has7, pc_call7, pc_fr7, pc_has8, pc_call8, pc_fr8, pc_has9, pc_call9, pc_fr9, pc_has10, pc_call10, pc_fr10, pc_has11, pc_call11, pc_fr11, pc_has12, pc_call12, pc_fr12, pc_has13, pc_call13, pc_fr13, pc_has14, pc_call14, pc_fr14, pc_has15, pc_call15, pc_fr15, pc_has16, pc_call16, pc_fr16, pc_has17, pc_call17, pc_fr17, pc_has18, pc_call18, pc_fr18, pc_glb20, pc_glb19, pc_glb21, pc_glb22, pc_cdt22, pl_has0, pl_call0, pl_fr0, pl_has1, pl_call1, pl_fr1, pl_has2, pl_call2, pl_fr2, pl_has3, pl_call3, pl_fr3, pl_has4, pl_call4, pl_fr4, pl_has5, pl_call5, pl_fr5, pl_has6, pl_call6, pl_fr6, pl_has7, pl_call7, pl_fr7, pl_has8, pl_call8, pl_fr8, pl_has9, pl_call9, pl_fr9, pl_has10, pl_call10, pl_fr10, pl_has11, pl_call11, pl_fr11, pl_has12, pl_call12, pl_fr12, pl_has13, pl_call13, pl_fr13, pl_has14, pl_call14, pl_fr14, pl_has15, pl_call15, pl_fr15, pl_has16, pl_call16, pl_fr16, pl_has17, pl_call17, pl_fr17, pl_has18, pl_call18, pl_fr18, pl_glb20, pl_glb19, pl_glb21, pl_glb22, pl_cdt22, chrV, peq_str, lit_n, lit_h, lit_w, lit_t, one_eq, pow31, e_whole2 k v 0 (10 ^ 31) σ hv, num_whole g]
    cases numV v <;> rfl
  · have e : fmT 104 v = wholeV v 0 5 := rfl
    rw [e]
    simp only [↓pev_comp, ↓pex_for, ↓pex_whl, pexs, pex, pev, pevs, ppks, pevi, pevo, ptst, pevp, plook, psrc_str, psrc_tup, psrc_lst, List.map, List.replicate, List.cons_append, List.nil_append, Nat.sub_self, List.append_nil, Nat.reduceSub, Nat.reduceAdd, List.getElem?_cons_zero, List.getElem?_cons_succ, pbd_rt, pbd_ok, pbd_none, pup_some, pup_none, Option.map_some, Option.map_none, Option.isNone_none, Option.isNone_some, psE_rt, psE_ok, psE_none, psQ_nx, psQ_rt, psQ_bk, psQ_ct, pnoex_rt, if_true, if_false, Bool.false_eq_true, Bool.true_and, Bool.and_true, Bool.false_and, Bool.and_false, Bool.true_or, Bool.false_or, ne_eq, reduceCtorEq, not_false_eq_true, List.set_cons_zero, List.set_cons_succ, pendOf_rt, pendOf_nx, ptru_bl, ptru_int, Bool.not_true, Bool.not_false, Bool.and_self, Bool.or_false, Bool.or_true, not_true_eq_false, ptg, pwipe, pmE_call, pmE_app, pmE_ext, pmE_ins, pmE_clr, frE_lst, frE_list, frE_dict, frE_comp, frE_dct, frE_itl, frE_slc, frE_add, frE_spl, frE_call, frE_ite, isLD, List.all_cons, List.all_nil, Nat.reduceBEq, Nat.reduceEqDiff, Int.reduceEq, Int.reduceLT, Int.reduceLE, Int.reduceNeg, Int.reduceAdd, Int.reduceSub, reduceIte, decide_true, decide_false, Option.some.injEq, isV_var, isV_int, isV_str, isV_bl, isV_non, isV_glb, isV_tup, isV_lst, isV_bin, isV_neg, isV_cmp, isV_chn, isV_and, isV_or, isV_not, isV_ite, isV_idx, isV_slc, isV_call, isV_blt, isV_isi, isV_mth, isV_exf, isV_comp, isV_dct, isV_itl, tupE_var, tupE_int, tupE_str, tupE_bl, tupE_non, tupE_glb, tupE_tup, tupE_lst, tupE_bin, tupE_neg, tupE_cmp, tupE_chn, tupE_and, tupE_or, tupE_not, tupE_ite, tupE_idx, tupE_slc, tupE_call, tupE_blt, tupE_isi, tupE_mth, tupE_exf, tupE_comp, tupE_dct, tupE_itl, pc_calm, pc_exn, pc_free, pc_wf, pl_calm, pl_exn, pl_free, pl_wf, pc_pu, pl_pu, pc0_own, pc0_mf, pc1_own, pc1_mf, pc2_own, pc2_mf, pc3_own, pc3_mf, pc4_own, pc4_mf, pc5_own, pc5_mf, pc6_own, pc6_mf, pc7_own, pc7_mf, pc8_own, pc8_mf, pc9_own, pc9_mf, pc10_own, pc10_mf, pc11_own, pc11_mf, pc12_own, pc12_mf, pc13_own, pc13_mf, pc14_own, pc14_mf, pc15_own, pc15_mf, pc16_own, pc16_mf, pc17_own, pc17_mf, pc18_own, pc18_mf, pl18_own, pl18_mf, pc_has0, pc_call0, pc_fr0, pc_has1, pc_call1, pc_fr1, pc_has2, pc_call2, pc_fr2, pc_has3, pc_call3, pc_fr3, pc_has4, pc_call4, pc_fr4, pc_has5, pc_call5, pc_fr5, pc_has6, pc_call6, pc_fr6, pc_has7, pc_call7, pc_fr7, pc_has8, pc_call8, pc_fr8, pc_has9, pc_call9, pc_fr9, pc_has10, pc_call10, pc_fr10, pc_has11, pc_call11, pc_fr11, pc_has12, pc_call12, pc_fr12, pc_has13, pc_call13, pc_fr13, pc_has14, pc_call14, pc_fr14, pc_has15, pc_call15, pc_fr15, pc_has16, pc_call16, pc_fr16, pc_has17, pc_call17, pc_fr17, pc_has18, pc_call18, pc_fr18, pc_glb20, pc_glb19, pc_glb21, pc_glb22, pc_cdt22, pl_has0, pl_call0, pl_fr0, pl_has1, pl_call1, pl_fr1, pl_has2, pl_call2, pl_fr2, pl_has3, pl_call3, pl_fr3, pl_has4, pl_call4, pl_fr4, pl_has5, pl_call5, pl_fr5, pl_has6, pl_call6, pl_fr6, pl_has7, pl_call7, pl_fr7, pl_has8, pl_call8, pl_fr8, pl_has9, pl_call9, pl_fr9, pl_has10, pl_call10, pl_fr10, pl_has11, pl_call11, pl_fr11, pl_has12, pl_call12, pl_fr12, pl_has13, pl_call13, pl_fr13, pl_has14, pl_call14, pl_fr14, pl_has15, pl_call15, pl_fr15, pl_has16, pl_call16, pl_fr16, pl_has17, pl_call17, pl_fr17, pl_has18, pl_call18, pl_fr18, pl_glb20, pl_glb19, pl_glb21, pl_glb22, pl_cdt22, chrV, peq_str, lit_n, lit_h, lit_w, lit_t, one_eq, pow31, e_whole2 k v 0 5 σ hv]
    cases wholeV v 0 5 <;> rfl
  · have e : fmT 119 v = nameV v := rfl
    rw [e]
    simp only [↓pev_comp, ↓pex_for, ↓pex_whl, pexs, pex, pev, pevs, ppks, pevi, pevo, ptst, pevp, plook, psrc_str, psrc_tup, psrc_lst, List.map, List.replicate, List.cons_append, List.nil_append, Nat.sub_self, List.append_nil, Nat.reduceSub, Nat.reduceAdd, List.getElem?_cons_zero, List.getElem?_cons_succ, pbd_rt, pbd_ok, pbd_none, pup_some, pup_none, Option.map_some, Option.map_none, Option.isNone_none, Option.isNone_some, psE_rt, psE_ok, psE_none, psQ_nx, psQ_rt, psQ_bk, psQ_ct, pnoex_rt, if_true, if_false, Bool.false_eq_true, Bool.true_and, Bool.and_true, Bool.false_and, Bool.and_false, Bool.true_or, Bool.false_or, ne_eq, reduceCtorEq, not_false_eq_true, List.set_cons_zero, List.set_cons_succ, pendOf_rt, pendOf_nx, ptru_bl, ptru_int, Bool.not_true, Bool.not_false, Bool.and_self, Bool.or_false, Bool.or_true, not_true_eq_false, ptg, pwipe, pmE_call, pmE_app, pmE_ext, pmE_ins, pmE_clr, frE_lst, frE_list, frE_dict, frE_comp, frE_dct, frE_itl, frE_slc, frE_add, frE_spl, frE_call, frE_ite, isLD, List.all_cons, List.all_nil, Nat.reduceBEq, Nat.reduceEqDiff, Int.reduceEq, Int.reduceLT, Int.reduceLE, Int.reduceNeg, Int.reduceAdd, Int.reduceSub, reduceIte, decide_true, decide_false, Option.some.injEq, isV_var, isV_int, isV_str, isV_bl, isV_non, isV_glb, isV_tup, isV_lst, isV_bin, isV_neg, isV_cmp, isV_chn, isV_and, isV_or, isV_not, isV_ite, isV_idx, isV_slc, isV_call, isV_blt, isV_isi, isV_mth, isV_exf, isV_comp, isV_dct, isV_itl, tupE_var, tupE_int, tupE_str, tupE_bl, tupE_non, tupE_glb, tupE_tup, tupE_lst, tupE_bin, tupE_neg, tupE_cmp, tupE_chn, tupE_and, tupE_or, tupE_not, tupE_ite, tupE_idx, tupE_slc, tupE_call, tupE_blt, tupE_isi, tupE_mth, tupE_exf, tupE_comp, tupE_dct, tupE_itl, pc_calm, pc_exn, pc_free, pc_wf, pl_calm, pl_exn, pl_free, pl_wf, pc_pu, pl_pu, pc0_own, pc0_mf, pc1_own, pc1_mf, pc2_own, pc2_mf, pc3_own, pc3_mf, pc4_own, pc4_mf, pc5_own, pc5_mf, pc6_own, pc6_mf, pc7_own, pc7_mf, pc8_own, pc8_mf, pc9_own, pc9_mf, pc10_own, pc10_mf, pc11_own, pc11_mf, pc12_own, pc12_mf, pc13_own, pc13_mf, pc14_own, pc14_mf, pc15_own, pc15_mf, pc16_own, pc16_mf, pc17_own, pc17_mf, pc18_own, pc18_mf, pl18_own, pl18_mf, pc_has0, pc_call0, pc_fr0, pc_has1, pc_call1, pc_fr1, pc_has2, pc_call2, pc_fr2, pc_has3, pc_call3, pc_fr3, pc_has4, pc_call4, pc_fr4, pc_has5, pc_call5, pc_fr5, pc_has6, pc_call6, pc_fr6, pc_has7, pc_call7, pc_fr7, pc_has8, pc_call8, pc_fr8, pc_has9, pc_call9, pc_fr9, pc_has10, pc_call10, pc_fr10, pc_has11, pc_call11, pc_fr11, pc_has12, pc_call12, pc_fr12, pc_has13, pc_call13, pc_fr13, pc_has14, pc_call14, pc_fr14, pc_has15, pc_call15, pc_fr15, pc_has16, pc_call16, pc_fr16, pc_has17, pc_call17, pc_fr17, pc_has18, pc_call18, pc_fr18, pc_glb20, pc_glb19, pc_glb21, pc_glb22, pc_cdt22, pl_has0, pl_call0, pl_fr0, pl_has1, pl_call1, pl_fr1, pl_has2, pl_call2, pl_fr2, pl_has3, pl_call3, pl_fr3, pl_has4, pl_call4, pl_fr4, pl_has5, pl_call5, pl_fr5, pl_has6, pl_call6, pl_fr6, pl_has7, pl_call7, pl_fr7, pl_has8, pl_call8, pl_fr8, pl_has9, pl_call9, pl_fr9, pl_has10, pl_call10, pl_fr10, pl_has11, pl_call11, pl_fr11, pl_has12, pl_call12, pl_fr12, pl_has13, pl_call13, pl_fr13, pl_has14, pl_call14, pl_fr14, pl_has15, pl_call15, pl_fr15, pl_has16, pl_call16, pl_fr16, pl_has17, pl_call17, pl_fr17, pl_has18, pl_call18, pl_fr18, pl_glb20, pl_glb19, pl_glb21, pl_glb22, pl_cdt22, chrV, peq_str, lit_n, lit_h, lit_w, lit_t, one_eq, e_name2 k v σ hv (gv_str g)]
    cases nameV v <;> rfl
  · have e : fmT 116 v = isT v := rfl
    rw [e]
    simp only [↓pev_comp, ↓pex_for, ↓pex_whl, pexs, pex, pev, pevs, ppks, pevi, pevo, ptst, pevp, plook, psrc_str, psrc_tup, psrc_lst, List.map, List.replicate, List.cons_append, List.nil_append, Nat.sub_self, List.append_nil, Nat.reduceSub, Nat.reduceAdd, List.getElem?_cons_zero, List.getElem?_cons_succ, pbd_rt, pbd_ok, pbd_none, pup_some, pup_none, Option.map_some, Option.map_none, Option.isNone_none, Option.isNone_some, psE_rt, psE_ok, psE_none, psQ_nx, psQ_rt, psQ_bk, psQ_ct, pnoex_rt, if_true, if_false, Bool.false_eq_true, Bool.true_and, Bool.and_true, Bool.false_and, Bool.and_false, Bool.true_or, Bool.false_or, ne_eq, reduceCtorEq, not_false_eq_true, List.set_cons_zero, List.set_cons_succ, pendOf_rt, pendOf_nx, ptru_bl, ptru_int, Bool.not_true, Bool.not_false, Bool.and_self, Bool.or_false, Bool.or_true, not_true_eq_false, ptg, pwipe, pmE_call, pmE_app, pmE_ext, pmE_ins, pmE_clr, frE_lst, frE_list, frE_dict, frE_comp, frE_dct, frE_itl, frE_slc, frE_add, frE_spl, frE_call, frE_ite, isLD, List.all_cons, List.all_nil, Nat.reduceBEq, Nat.reduceEqDiff, Int.reduceEq, Int.reduceLT, Int.reduceLE, Int.reduceNeg, Int.reduceAdd, Int.reduceSub, reduceIte, decide_true, decide_false, Option.some.injEq, isV_var, isV_int, isV_str, isV_bl, isV_non, isV_glb, isV_tup, isV_lst, isV_bin, isV_neg, isV_cmp, isV_chn, isV_and, isV_or, isV_not, isV_ite, isV_idx, isV_slc, isV_call, isV_blt, isV_isi, isV_mth, isV_exf, isV_comp, isV_dct, isV_itl, tupE_var, tupE_int, tupE_str, tupE_bl, tupE_non, tupE_glb, tupE_tup, tupE_lst, tupE_bin, tupE_neg, tupE_cmp, tupE_chn, tupE_and, tupE_or, tupE_not, tupE_ite, tupE_idx, tupE_slc, tupE_call, tupE_blt, tupE_isi, tupE_mth, tupE_exf, tupE_comp, tupE_dct, tupE_itl, pc_calm, pc_exn, pc_free, pc_wf, pl_calm, pl_exn, pl_free, pl_wf, pc_pu, pl_pu, pc0_own, pc0_mf, pc1_own, pc1_mf, pc2_own, pc2_mf, pc3_own, pc3_mf, pc4_own, pc4_mf, pc5_own, pc5_mf, pc6_own, pc6_mf, pc7_own, pc7_mf, pc8_own, pc8_mf, pc9_own, pc9_mf, pc10_own, pc10_mf, pc11_own, pc11_mf, pc12_own, pc12_mf, pc13_own, pc13_mf, pc14_own, pc14_mf, pc15_own, pc15_mf, pc16_own, pc16_mf, pc17_own, pc17_mf, pc18_own, pc18_mf, pl18_own, pl18_mf, pc_has0, pc_call0, pc_fr0, pc_has1, pc_call1, pc_fr1, pc_has2, pc_call2, pc_fr2, pc_has3, pc_call3, pc_fr3, pc_has4, pc_call4, pc_fr4, pc_has5, pc_call5, pc_fr5, pc_has6, pc_call6, pc_fr6, pc_has7, pc_call7, pc_fr7, pc_has8, pc_call8, pc_fr8, pc_has9, pc_call9, pc_fr9, pc_has10, pc_call10, pc_fr10, pc_has11, pc_call11, pc_fr11, pc_has12, pc_call12, pc_fr12, pc_has13, pc_call13, pc_fr13, pc_has14, pc_call14, pc_fr14, pc_has15, pc_call15, pc_fr15, pc_has16, pc_call16, pc_fr16, pc_has17, pc_call17, pc_fr17, pc_has18, pc_call18, pc_fr18, pc_glb20, pc_glb19, pc_glb21, pc_glb22, pc_cdt22, pl_has0, pl_call0, pl_fr0, pl_has1, pl_call1, pl_fr1, pl_has2, pl_call2, pl_fr2, pl_has3, pl_call3, pl_fr3, pl_has4, pl_call4, pl_fr4, pl_has5, pl_call5, pl_fr5, pl_has6, pl_call6, pl_fr6, pl_has7, pl_call7, pl_fr7, pl_has8, pl_call8, pl_fr8, pl_has9, pl_call9, pl_fr9, pl_has10, pl_call10, pl_fr10, pl_has11, pl_call11, pl_fr11, pl_has12, pl_call12, pl_fr12, pl_has13, pl_call13, pl_fr13, pl_has14, pl_call14, pl_fr14, pl_has15, pl_call15, pl_fr15, pl_has16, pl_call16, pl_fr16, pl_has17, pl_call17, pl_fr17, pl_has18, pl_call18, pl_fr18, pl_glb20, pl_glb19, pl_glb21, pl_glb22, pl_cdt22, chrV, peq_str, lit_n, lit_h, lit_w, lit_t, one_eq, ih]
    cases isT v <;> rfl
theorem loop_term {k : Nat} (a b : Option V) (σ : PS) : ∀ (l : List (Nat × V)) (x y : Option V), (∀ p ∈ l, (p.1 = 110 ∨ p.1 = 104 ∨ p.1 = 119 ∨ p.1 = 116) ∧ gv p.2 = true ∧ Mi.pv T D (k + 1) 15 [p.2] σ = prt (.bl (isT p.2)) σ) →
    ∃ x' y', pfor (ptg (Pc (k + 1) 15) (.tp [2, 3])) (pbodyF (Pc (k + 1) 15) T.excs bodyT) (l.map fun p => .tup [chrV p.1, p.2]) [a, b, x, y] σ = if (l.all fun p => fmT p.1 p.2) = true then some (.nx [a, b, x', y'] σ) else some (.rt (.bl false) σ)
  | [], x, y, _ => ⟨x, y, by simp [pfor]⟩
  | (c, v) :: l, x, y, h => by
    obtain ⟨h1, h2, h3⟩ := h _ List.mem_cons_self
    obtain ⟨x', y', e⟩ := loop_term a b σ l (some (chrV c)) (some v) fun p hp => h p (List.mem_cons_of_mem _ hp)
    refine ⟨x', y', ?_⟩
    have ht : ptg (Pc (k + 1) 15) (.tp [2, 3]) (.tup [chrV c, v]) [a, b, x, y] = some [a, b, some (chrV c), some v] := by
      simp only [↓pev_comp, ↓pex_for, ↓pex_whl, pexs, pex, pev, pevs, ppks, pevi, pevo, ptst, pevp, plook, psrc_str, psrc_tup, psrc_lst, List.map, List.replicate, List.cons_append, List.nil_append, Nat.sub_self, List.append_nil, Nat.reduceSub, Nat.reduceAdd, List.getElem?_cons_zero, List.getElem?_cons_succ, pbd_rt, pbd_ok, pbd_none, pup_some, pup_none, Option.map_some, Option.map_none, Option.isNone_none, Option.isNone_some, psE_rt, psE_ok, psE_none, psQ_nx, psQ_rt, psQ_bk, psQ_ct, pnoex_rt, if_true, if_false, Bool.false_eq_true, Bool.true_and, Bool.and_true, Bool.false_and, Bool.and_false, Bool.true_or, Bool.false_or, ne_eq, reduceCtorEq, not_false_eq_true, List.set_cons_zero, List.set_cons_succ, pendOf_rt, pendOf_nx, ptru_bl, ptru_int, Bool.not_true, Bool.not_false, Bool.and_self, Bool.or_false, Bool.or_true, not_true_eq_false, ptg, pwipe, pmE_call, pmE_app, pmE_ext, pmE_ins, pmE_clr, frE_lst, frE_list, frE_dict, frE_comp, frE_dct, frE_itl, frE_slc, frE_add, frE_spl, frE_call, frE_ite, isLD, List.all_cons, List.all_nil, Nat.reduceBEq, Nat.reduceEqDiff, Int.reduceEq, Int.reduceLT, Int.reduceLE, Int.reduceNeg, Int.reduceAdd, Int.reduceSub, reduceIte, decide_true, decide_false, Option.some.injEq, isV_var, isV_int, isV_str, isV_bl, isV_non, isV_glb, isV_tup, isV_lst, isV_bin, isV_neg, isV_cmp, isV_chn, isV_and, isV_or, isV_not, isV_ite, isV_idx, isV_slc, isV_call, isV_blt, isV_isi, isV_mth, isV_exf, isV_comp, isV_dct, isV_itl, tupE_var, tupE_int, tupE_str, tupE_bl, tupE_non, tupE_glb, tupE_tup, tupE_lst, tupE_bin, tupE_neg, tupE_cmp, tupE_chn, tupE_and, tupE_or, tupE_not, tupE_ite, tupE_idx, tupE_slc, tupE_call, tupE_blt, tupE_isi, tupE_mth, tupE_exf, tupE_comp, tupE_dct, tupE_itl, pc_calm, pc_exn, pc_free, pc_wf, pl_calm, pl_exn, pl_free, pl_wf, pc_pu, pl_pu, pc0_own, pc0_mf, pc1_own, pc1_mf, pc2_own, pc2_mf, pc3_own, pc3_mf, pc4_own, pc4_mf, pc5_own, pc5_mf, pc6_own, pc6_mf, pc7_own, pc7_mf, pc8_own, pc8_mf, pc9_own, pc9_mf, pc10_own, pc10_mf, pc11_own, pc11_mf, pc12_own, pc12_mf, pc13_own, pc13_mf, pc14_own, pc14_mf, pc15_own, pc15_mf, pc16_own, pc16_mf, pc17_own, pc17_mf, pc18_own, pc18_mf, pl18_own, pl18_mf, pc_has0, pc_call0, pc_fr0, pc_has1, pc_call1, pc_fr1, pc_has2, pc_call2, pc_fr2, pc_has3, pc_call3, pc_fr3, pc_has4, pc_call4, pc_fr4, pc_has5, pc_call5, pc_fr5, pc_has6, pc_call6, pc_fr6, pc_has7, pc_call7, pc_fr7, pc_has8, pc_call8, pc_fr8, pc_has9, pc_call9, pc_fr9, pc_has10, pc_call10, pc_fr10, pc_has11, pc_call11, pc_fr11, pc_has12, pc_call12, pc_fr12, pc_has13, pc_call13, pc_fr13, pc_has14, pc_call14, pc_fr14, pc_has15, pc_call15, pc_fr15, pc_has16, pc_call16, pc_fr16, pc_has17, pc_call17, pc_fr17, pc_has18, pc_call18, pc_fr18, pc_glb20, pc_glb19, pc_glb21, pc_glb22, pc_cdt22, pl_has0, pl_call0, pl_fr0, pl_has1, pl_call1, pl_fr1, pl_has2, pl_call2, pl_fr2, pl_has3, pl_call3, pl_fr3, pl_has4, pl_call4, pl_fr4, pl_has5, pl_call5, pl_fr5, pl_has6, pl_call6, pl_fr6, pl_has7, pl_call7, pl_fr7, pl_has8, pl_call8, pl_fr8, pl_has9, pl_call9, pl_fr9, pl_has10, pl_call10, pl_fr10, pl_has11, pl_call11, pl_fr11, pl_has12, pl_call12, pl_fr12, pl_has13, pl_call13, pl_fr13, pl_has14, pl_call14, pl_fr14, pl_has15, pl_call15, pl_fr15, pl_has16, pl_call16, pl_fr16, pl_has17, pl_call17, pl_fr17, pl_has18, pl_call18, pl_fr18, pl_glb20, pl_glb19, pl_glb21, pl_glb22, pl_cdt22, List.length_cons, List.length_nil, and_self, pSet]
    have hb := body_term c h1 v σ h2 a b h3
    cases hf : fmT c v with
    | true =>
      rw [hf, if_pos rfl] at hb
      simp only [List.map_cons, pfor, ht, hb, List.all_cons, hf, e, Bool.true_and]
    | false =>
      rw [hf, if_neg (by decide)] at hb
      simp only [List.map_cons, pfor, ht, hb, List.all_cons, hf, Bool.false_and, Bool.false_eq_true, if_false]
theorem e_term2 : ∀ (n k : Nat), n + 4 ≤ k → ∀ (v : V) (σ : PS), dep v ≤ n → gv v = true → Mi.pv T D k 15 [v] σ = prt (.bl (isT v)) σ := by
  intro n
  induction n with
  | zero => intro k hk v σ hd g; cases v <;> simp [dep] at hd
  | succ n ih =>
    intro k hk v σ hd g
    obtain ⟨k, rfl⟩ : ∃ j, k = j + 2 := ⟨k - 2, by omega⟩
    rw [pv_s (k + 1) 15 _ σ m_law_is_term rfl rfl rfl]
    simp only [m_law_is_term]
    have hv := gv_isD g
    have h0 : ([] : List V).length ≤ sizeLine := Nat.zero_le _
    cases v with
    | tup xs =>
      cases xs with
      | nil => simp only [↓pev_comp, ↓pex_for, ↓pex_whl, pexs, pex, pev, pevs, ppks, pevi, pevo, ptst, pevp, plook, psrc_str, psrc_tup, psrc_lst, List.map, List.replicate, List.cons_append, List.nil_append, Nat.sub_self, List.append_nil, Nat.reduceSub, Nat.reduceAdd, List.getElem?_cons_zero, List.getElem?_cons_succ, pbd_rt, pbd_ok, pbd_none, pup_some, pup_none, Option.map_some, Option.map_none, Option.isNone_none, Option.isNone_some, psE_rt, psE_ok, psE_none, psQ_nx, psQ_rt, psQ_bk, psQ_ct, pnoex_rt, if_true, if_false, Bool.false_eq_true, Bool.true_and, Bool.and_true, Bool.false_and, Bool.and_false, Bool.true_or, Bool.false_or, ne_eq, reduceCtorEq, not_false_eq_true, List.set_cons_zero, List.set_cons_succ, pendOf_rt, pendOf_nx, ptru_bl, ptru_int, Bool.not_true, Bool.not_false, Bool.and_self, Bool.or_false, Bool.or_true, not_true_eq_false, ptg, pwipe, pmE_call, pmE_app, pmE_ext, pmE_ins, pmE_clr, frE_lst, frE_list, frE_dict, frE_comp, frE_dct, frE_itl, frE_slc, frE_add, frE_spl, frE_call, frE_ite, isLD, List.all_cons, List.all_nil, Nat.reduceBEq, Nat.reduceEqDiff, Int.reduceEq, Int.reduceLT, Int.reduceLE, Int.reduceNeg, Int.reduceAdd, Int.reduceSub, reduceIte, decide_true, decide_false, Option.some.injEq, isV_var, isV_int, isV_str, isV_bl, isV_non, isV_glb, isV_tup, isV_lst, isV_bin, isV_neg, isV_cmp, isV_chn, isV_and, isV_or, isV_not, isV_ite, isV_idx, isV_slc, isV_call, isV_blt, isV_isi, isV_mth, isV_exf, isV_comp, isV_dct, isV_itl, tupE_var, tupE_int, tupE_str, tupE_bl, tupE_non, tupE_glb, tupE_tup, tupE_lst, tupE_bin, tupE_neg, tupE_cmp, tupE_chn, tupE_and, tupE_or, tupE_not, tupE_ite, tupE_idx, tupE_slc, tupE_call, tupE_blt, tupE_isi, tupE_mth, tupE_exf, tupE_comp, tupE_dct, tupE_itl, pc_calm, pc_exn, pc_free, pc_wf, pl_calm, pl_exn, pl_free, pl_wf, pc_pu, pl_pu, pc0_own, pc0_mf, pc1_own, pc1_mf, pc2_own, pc2_mf, pc3_own, pc3_mf, pc4_own, pc4_mf, pc5_own, pc5_mf, pc6_own, pc6_mf, pc7_own, pc7_mf, pc8_own, pc8_mf, pc9_own, pc9_mf, pc10_own, pc10_mf, pc11_own, pc11_mf, pc12_own, pc12_mf, pc13_own, pc13_mf, pc14_own, pc14_mf, pc15_own, pc15_mf, pc16_own, pc16_mf, pc17_own, pc17_mf, pc18_own, pc18_mf, pl18_own, pl18_mf, pc_has0, pc_call0, pc_fr0, pc_has1, pc_call1, pc_fr1, pc_has2, pc_call2, pc_fr2, pc_has3, pc_call3, pc_fr3, pc_has4, pc_call4, pc_fr4, pc_has5, pc_call5, pc_fr5, pc_has6, pc_call6, pc_fr6, pc_has7, pc_call7, pc_fr7, pc_has8, pc_call8, pc_fr8, pc_has9, pc_call9, pc_fr9, pc_has10, pc_call10, pc_fr10, pc_has11, pc_call11, pc_fr11, pc_has12, pc_call12, pc_fr12, pc_has13, pc_call13, pc_fr13, pc_has14, pc_call14, pc_fr14, pc_has15, pc_call15, pc_fr15, pc_has16, pc_call16, pc_fr16, pc_has17, pc_call17, pc_fr17, pc_has18, pc_call18, pc_fr18, pc_glb20, pc_glb19, pc_glb21, pc_glb22, pc_cdt22, pl_has0, pl_call0, pl_fr0, pl_has1, pl_call1, pl_fr1, pl_has2, pl_call2, pl_fr2, pl_has3, pl_call3, pl_fr3, pl_has4, pl_call4, pl_fr4, pl_has5, pl_call5, pl_fr5, pl_has6, pl_call6, pl_fr6, pl_has7, pl_call7, pl_fr7, pl_has8, pl_call8, pl_fr8, pl_has9, pl_call9, pl_fr9, pl_has10, pl_call10, pl_fr10, pl_has11, pl_call11, pl_fr11, pl_has12, pl_call12, pl_fr12, pl_has13, pl_call13, pl_fr13, pl_has14, pl_call14, pl_fr14, pl_has15, pl_call15, pl_fr15, pl_has16, pl_call16, pl_fr16, pl_has17, pl_call17, pl_fr17, pl_has18, pl_call18, pl_fr18, pl_glb20, pl_glb19, pl_glb21, pl_glb22, pl_cdt22, pisi_d hv, tyP, h0, peq_tup0, List.isEmpty_nil, isT]
      | cons x rest =>
        simp only [gv, gvs, Bool.and_eq_true] at g
        simp only [dep, deps] at hd
        have a0 : L2.atI (x :: rest) 0 = some x := at_0 x rest
        cases x with
        | str s =>
          have hst := pisi_d (show isD (V.str s) = true from rfl)
          cases hf : kvGet FORMS s with
          | none =>
            simp only [↓pev_comp, ↓pex_for, ↓pex_whl, pexs, pex, pev, pevs, ppks, pevi, pevo, ptst, pevp, plook, psrc_str, psrc_tup, psrc_lst, List.map, List.replicate, List.cons_append, List.nil_append, Nat.sub_self, List.append_nil, Nat.reduceSub, Nat.reduceAdd, List.getElem?_cons_zero, List.getElem?_cons_succ, pbd_rt, pbd_ok, pbd_none, pup_some, pup_none, Option.map_some, Option.map_none, Option.isNone_none, Option.isNone_some, psE_rt, psE_ok, psE_none, psQ_nx, psQ_rt, psQ_bk, psQ_ct, pnoex_rt, if_true, if_false, Bool.false_eq_true, Bool.true_and, Bool.and_true, Bool.false_and, Bool.and_false, Bool.true_or, Bool.false_or, ne_eq, reduceCtorEq, not_false_eq_true, List.set_cons_zero, List.set_cons_succ, pendOf_rt, pendOf_nx, ptru_bl, ptru_int, Bool.not_true, Bool.not_false, Bool.and_self, Bool.or_false, Bool.or_true, not_true_eq_false, ptg, pwipe, pmE_call, pmE_app, pmE_ext, pmE_ins, pmE_clr, frE_lst, frE_list, frE_dict, frE_comp, frE_dct, frE_itl, frE_slc, frE_add, frE_spl, frE_call, frE_ite, isLD, List.all_cons, List.all_nil, Nat.reduceBEq, Nat.reduceEqDiff, Int.reduceEq, Int.reduceLT, Int.reduceLE, Int.reduceNeg, Int.reduceAdd, Int.reduceSub, reduceIte, decide_true, decide_false, Option.some.injEq, isV_var, isV_int, isV_str, isV_bl, isV_non, isV_glb, isV_tup, isV_lst, isV_bin, isV_neg, isV_cmp, isV_chn, isV_and, isV_or, isV_not, isV_ite, isV_idx, isV_slc, isV_call, isV_blt, isV_isi, isV_mth, isV_exf, isV_comp, isV_dct, isV_itl, tupE_var, tupE_int, tupE_str, tupE_bl, tupE_non, tupE_glb, tupE_tup, tupE_lst, tupE_bin, tupE_neg, tupE_cmp, tupE_chn, tupE_and, tupE_or, tupE_not, tupE_ite, tupE_idx, tupE_slc, tupE_call, tupE_blt, tupE_isi, tupE_mth, tupE_exf, tupE_comp, tupE_dct, tupE_itl, pc_calm, pc_exn, pc_free, pc_wf, pl_calm, pl_exn, pl_free, pl_wf, pc_pu, pl_pu, pc0_own, pc0_mf, pc1_own, pc1_mf, pc2_own, pc2_mf, pc3_own, pc3_mf, pc4_own, pc4_mf, pc5_own, pc5_mf, pc6_own, pc6_mf, pc7_own, pc7_mf, pc8_own, pc8_mf, pc9_own, pc9_mf, pc10_own, pc10_mf, pc11_own, pc11_mf, pc12_own, pc12_mf, pc13_own, pc13_mf, pc14_own, pc14_mf, pc15_own, pc15_mf, pc16_own, pc16_mf, pc17_own, pc17_mf, pc18_own, pc18_mf, pl18_own, pl18_mf, pc_has0, pc_call0, pc_fr0, pc_has1, pc_call1, pc_fr1, pc_has2, pc_call2, pc_fr2, pc_has3, pc_call3, pc_fr3, pc_has4, pc_call4, pc_fr4, pc_has5, pc_call5, pc_fr5, pc_has6, pc_call6, pc_fr6, pc_has7, pc_call7, pc_fr7, pc_has8, pc_call8, pc_fr8, pc_has9, pc_call9, pc_fr9, pc_has10, pc_call10, pc_fr10, pc_has11, pc_call11, pc_fr11, pc_has12, pc_call12, pc_fr12, pc_has13, pc_call13, pc_fr13, pc_has14, pc_call14, pc_fr14, pc_has15, pc_call15, pc_fr15, pc_has16, pc_call16, pc_fr16, pc_has17, pc_call17, pc_fr17, pc_has18, pc_call18, pc_fr18, pc_glb20, pc_glb19, pc_glb21, pc_glb22, pc_cdt22, pl_has0, pl_call0, pl_fr0, pl_has1, pl_call1, pl_fr1, pl_has2, pl_call2, pl_fr2, pl_has3, pl_call3, pl_fr3, pl_has4, pl_call4, pl_fr4, pl_has5, pl_call5, pl_fr5, pl_has6, pl_call6, pl_fr6, pl_has7, pl_call7, pl_fr7, pl_has8, pl_call8, pl_fr8, pl_has9, pl_call9, pl_fr9, pl_has10, pl_call10, pl_fr10, pl_has11, pl_call11, pl_fr11, pl_has12, pl_call12, pl_fr12, pl_has13, pl_call13, pl_fr13, pl_has14, pl_call14, pl_fr14, pl_has15, pl_call15, pl_fr15, pl_has16, pl_call16, pl_fr16, pl_has17, pl_call17, pl_fr17, pl_has18, pl_call18, pl_fr18, pl_glb20, pl_glb19, pl_glb21, pl_glb22, pl_cdt22, pisi_d hv, tyP, h0, peq_tup0, List.isEmpty_cons, pget_tup, a0, hst, e_forms, pnin_, pin_dct, kS_get, hf, Option.isSome_none, isT]
          | some v =>
            obtain ⟨f, rfl, hf3, hf4⟩ := forms_str hf
            have hfs : f.length ≤ sizeLine := Nat.le_trans hf3 (by decide)
            simp only [↓pev_comp, ↓pex_for, ↓pex_whl, pexs, pex, pev, pevs, ppks, pevi, pevo, ptst, pevp, plook, psrc_str, psrc_tup, psrc_lst, List.map, List.replicate, List.cons_append, List.nil_append, Nat.sub_self, List.append_nil, Nat.reduceSub, Nat.reduceAdd, List.getElem?_cons_zero, List.getElem?_cons_succ, pbd_rt, pbd_ok, pbd_none, pup_some, pup_none, Option.map_some, Option.map_none, Option.isNone_none, Option.isNone_some, psE_rt, psE_ok, psE_none, psQ_nx, psQ_rt, psQ_bk, psQ_ct, pnoex_rt, if_true, if_false, Bool.false_eq_true, Bool.true_and, Bool.and_true, Bool.false_and, Bool.and_false, Bool.true_or, Bool.false_or, ne_eq, reduceCtorEq, not_false_eq_true, List.set_cons_zero, List.set_cons_succ, pendOf_rt, pendOf_nx, ptru_bl, ptru_int, Bool.not_true, Bool.not_false, Bool.and_self, Bool.or_false, Bool.or_true, not_true_eq_false, ptg, pwipe, pmE_call, pmE_app, pmE_ext, pmE_ins, pmE_clr, frE_lst, frE_list, frE_dict, frE_comp, frE_dct, frE_itl, frE_slc, frE_add, frE_spl, frE_call, frE_ite, isLD, List.all_cons, List.all_nil, Nat.reduceBEq, Nat.reduceEqDiff, Int.reduceEq, Int.reduceLT, Int.reduceLE, Int.reduceNeg, Int.reduceAdd, Int.reduceSub, reduceIte, decide_true, decide_false, Option.some.injEq, isV_var, isV_int, isV_str, isV_bl, isV_non, isV_glb, isV_tup, isV_lst, isV_bin, isV_neg, isV_cmp, isV_chn, isV_and, isV_or, isV_not, isV_ite, isV_idx, isV_slc, isV_call, isV_blt, isV_isi, isV_mth, isV_exf, isV_comp, isV_dct, isV_itl, tupE_var, tupE_int, tupE_str, tupE_bl, tupE_non, tupE_glb, tupE_tup, tupE_lst, tupE_bin, tupE_neg, tupE_cmp, tupE_chn, tupE_and, tupE_or, tupE_not, tupE_ite, tupE_idx, tupE_slc, tupE_call, tupE_blt, tupE_isi, tupE_mth, tupE_exf, tupE_comp, tupE_dct, tupE_itl, pc_calm, pc_exn, pc_free, pc_wf, pl_calm, pl_exn, pl_free, pl_wf, pc_pu, pl_pu, pc0_own, pc0_mf, pc1_own, pc1_mf, pc2_own, pc2_mf, pc3_own, pc3_mf, pc4_own, pc4_mf, pc5_own, pc5_mf, pc6_own, pc6_mf, pc7_own, pc7_mf, pc8_own, pc8_mf, pc9_own, pc9_mf, pc10_own, pc10_mf, pc11_own, pc11_mf, pc12_own, pc12_mf, pc13_own, pc13_mf, pc14_own, pc14_mf, pc15_own, pc15_mf, pc16_own, pc16_mf, pc17_own, pc17_mf, pc18_own, pc18_mf, pl18_own, pl18_mf, pc_has0, pc_call0, pc_fr0, pc_has1, pc_call1, pc_fr1, pc_has2, pc_call2, pc_fr2, pc_has3, pc_call3, pc_fr3, pc_has4, pc_call4, pc_fr4, pc_has5, pc_call5, pc_fr5, pc_has6, pc_call6, pc_fr6, pc_has7, pc_call7, pc_fr7, pc_has8, pc_call8, pc_fr8, pc_has9, pc_call9, pc_fr9, pc_has10, pc_call10, pc_fr10, pc_has11, pc_call11, pc_fr11, pc_has12, pc_call12, pc_fr12, pc_has13, pc_call13, pc_fr13, pc_has14, pc_call14, pc_fr14, pc_has15, pc_call15, pc_fr15, pc_has16, pc_call16, pc_fr16, pc_has17, pc_call17, pc_fr17, pc_has18, pc_call18, pc_fr18, pc_glb20, pc_glb19, pc_glb21, pc_glb22, pc_cdt22, pl_has0, pl_call0, pl_fr0, pl_has1, pl_call1, pl_fr1, pl_has2, pl_call2, pl_fr2, pl_has3, pl_call3, pl_fr3, pl_has4, pl_call4, pl_fr4, pl_has5, pl_call5, pl_fr5, pl_has6, pl_call6, pl_fr6, pl_has7, pl_call7, pl_fr7, pl_has8, pl_call8, pl_fr8, pl_has9, pl_call9, pl_fr9, pl_has10, pl_call10, pl_fr10, pl_has11, pl_call11, pl_fr11, pl_has12, pl_call12, pl_fr12, pl_has13, pl_call13, pl_fr13, pl_has14, pl_call14, pl_fr14, pl_has15, pl_call15, pl_fr15, pl_has16, pl_call16, pl_fr16, pl_has17, pl_call17, pl_fr17, pl_has18, pl_call18, pl_fr18, pl_glb20, pl_glb19, pl_glb21, pl_glb22, pl_cdt22, pisi_d hv, tyP, h0, peq_tup0, List.isEmpty_cons, pget_tup, a0, hst, e_forms, pnin_, pin_dct, kS_get, hf, Option.isSome_some, pget_dct, plen_tup, plen_str hfs, padd_int, pne_int]
            by_cases hl : rest.length = f.length
            · have hd : decide (((V.str s :: rest : List V).length : Int) = 1 + (f.length : Int)) = true := by
                simp only [List.length_cons, decide_eq_true_eq]; omega
              obtain ⟨x', y', e⟩ := loop_term (k := k) (some (.tup (.str s :: rest))) (some (.str f)) σ (f.cps.toList.zip rest) none none (fun p hp => by
                obtain ⟨c, w⟩ := p
                have hw : w ∈ rest := (List.of_mem_zip hp).2
                have gw := gvs_mem g.2 w hw
                have dw := deps_mem hw
                exact ⟨hf4 c (List.of_mem_zip hp).1, gw, ih (k + 1) (by omega) w σ (by omega) gw⟩)
              simp only [bodyT, nthS, forB, m_law_is_term] at e
              simp only [↓pev_comp, ↓pex_for, ↓pex_whl, pexs, pex, pev, pevs, ppks, pevi, pevo, ptst, pevp, plook, psrc_str, psrc_tup, psrc_lst, List.map, List.replicate, List.cons_append, List.nil_append, Nat.sub_self, List.append_nil, Nat.reduceSub, Nat.reduceAdd, List.getElem?_cons_zero, List.getElem?_cons_succ, pbd_rt, pbd_ok, pbd_none, pup_some, pup_none, Option.map_some, Option.map_none, Option.isNone_none, Option.isNone_some, psE_rt, psE_ok, psE_none, psQ_nx, psQ_rt, psQ_bk, psQ_ct, pnoex_rt, if_true, if_false, Bool.false_eq_true, Bool.true_and, Bool.and_true, Bool.false_and, Bool.and_false, Bool.true_or, Bool.false_or, ne_eq, reduceCtorEq, not_false_eq_true, List.set_cons_zero, List.set_cons_succ, pendOf_rt, pendOf_nx, ptru_bl, ptru_int, Bool.not_true, Bool.not_false, Bool.and_self, Bool.or_false, Bool.or_true, not_true_eq_false, ptg, pwipe, pmE_call, pmE_app, pmE_ext, pmE_ins, pmE_clr, frE_lst, frE_list, frE_dict, frE_comp, frE_dct, frE_itl, frE_slc, frE_add, frE_spl, frE_call, frE_ite, isLD, List.all_cons, List.all_nil, Nat.reduceBEq, Nat.reduceEqDiff, Int.reduceEq, Int.reduceLT, Int.reduceLE, Int.reduceNeg, Int.reduceAdd, Int.reduceSub, reduceIte, decide_true, decide_false, Option.some.injEq, isV_var, isV_int, isV_str, isV_bl, isV_non, isV_glb, isV_tup, isV_lst, isV_bin, isV_neg, isV_cmp, isV_chn, isV_and, isV_or, isV_not, isV_ite, isV_idx, isV_slc, isV_call, isV_blt, isV_isi, isV_mth, isV_exf, isV_comp, isV_dct, isV_itl, tupE_var, tupE_int, tupE_str, tupE_bl, tupE_non, tupE_glb, tupE_tup, tupE_lst, tupE_bin, tupE_neg, tupE_cmp, tupE_chn, tupE_and, tupE_or, tupE_not, tupE_ite, tupE_idx, tupE_slc, tupE_call, tupE_blt, tupE_isi, tupE_mth, tupE_exf, tupE_comp, tupE_dct, tupE_itl, pc_calm, pc_exn, pc_free, pc_wf, pl_calm, pl_exn, pl_free, pl_wf, pc_pu, pl_pu, pc0_own, pc0_mf, pc1_own, pc1_mf, pc2_own, pc2_mf, pc3_own, pc3_mf, pc4_own, pc4_mf, pc5_own, pc5_mf, pc6_own, pc6_mf, pc7_own, pc7_mf, pc8_own, pc8_mf, pc9_own, pc9_mf, pc10_own, pc10_mf, pc11_own, pc11_mf, pc12_own, pc12_mf, pc13_own, pc13_mf, pc14_own, pc14_mf, pc15_own, pc15_mf, pc16_own, pc16_mf, pc17_own, pc17_mf, pc18_own, pc18_mf, pl18_own, pl18_mf, pc_has0, pc_call0, pc_fr0, pc_has1, pc_call1, pc_fr1, pc_has2, pc_call2, pc_fr2, pc_has3, pc_call3, pc_fr3, pc_has4, pc_call4, pc_fr4, pc_has5, pc_call5, pc_fr5, pc_has6, pc_call6, pc_fr6, pc_has7, pc_call7, pc_fr7, pc_has8, pc_call8, pc_fr8, pc_has9, pc_call9, pc_fr9, pc_has10, pc_call10, pc_fr10, pc_has11, pc_call11, pc_fr11, pc_has12, pc_call12, pc_fr12, pc_has13, pc_call13, pc_fr13, pc_has14, pc_call14, pc_fr14, pc_has15, pc_call15, pc_fr15, pc_has16, pc_call16, pc_fr16, pc_has17, pc_call17, pc_fr17, pc_has18, pc_call18, pc_fr18, pc_glb20, pc_glb19, pc_glb21, pc_glb22, pc_cdt22, pl_has0, pl_call0, pl_fr0, pl_has1, pl_call1, pl_fr1, pl_has2, pl_call2, pl_fr2, pl_has3, pl_call3, pl_fr3, pl_has4, pl_call4, pl_fr4, pl_has5, pl_call5, pl_fr5, pl_has6, pl_call6, pl_fr6, pl_has7, pl_call7, pl_fr7, pl_has8, pl_call8, pl_fr8, pl_has9, pl_call9, pl_fr9, pl_has10, pl_call10, pl_fr10, pl_has11, pl_call11, pl_fr11, pl_has12, pl_call12, pl_fr12, pl_has13, pl_call13, pl_fr13, pl_has14, pl_call14, pl_fr14, pl_has15, pl_call15, pl_fr15, pl_has16, pl_call16, pl_fr16, pl_has17, pl_call17, pl_fr17, pl_has18, pl_call18, pl_fr18, pl_glb20, pl_glb19, pl_glb21, pl_glb22, pl_cdt22, hd, pslc_1, pzip_map, e, isT, hf, isTs_zip, str_len, hl]
              cases (f.cps.toList.zip rest).all (fun p => fmT p.1 p.2) <;> rfl
            · have hd : decide (((V.str s :: rest : List V).length : Int) = 1 + (f.length : Int)) = false := by
                simp only [List.length_cons, decide_eq_false_iff_not]; omega
              simp only [↓pev_comp, ↓pex_for, ↓pex_whl, pexs, pex, pev, pevs, ppks, pevi, pevo, ptst, pevp, plook, psrc_str, psrc_tup, psrc_lst, List.map, List.replicate, List.cons_append, List.nil_append, Nat.sub_self, List.append_nil, Nat.reduceSub, Nat.reduceAdd, List.getElem?_cons_zero, List.getElem?_cons_succ, pbd_rt, pbd_ok, pbd_none, pup_some, pup_none, Option.map_some, Option.map_none, Option.isNone_none, Option.isNone_some, psE_rt, psE_ok, psE_none, psQ_nx, psQ_rt, psQ_bk, psQ_ct, pnoex_rt, if_true, if_false, Bool.false_eq_true, Bool.true_and, Bool.and_true, Bool.false_and, Bool.and_false, Bool.true_or, Bool.false_or, ne_eq, reduceCtorEq, not_false_eq_true, List.set_cons_zero, List.set_cons_succ, pendOf_rt, pendOf_nx, ptru_bl, ptru_int, Bool.not_true, Bool.not_false, Bool.and_self, Bool.or_false, Bool.or_true, not_true_eq_false, ptg, pwipe, pmE_call, pmE_app, pmE_ext, pmE_ins, pmE_clr, frE_lst, frE_list, frE_dict, frE_comp, frE_dct, frE_itl, frE_slc, frE_add, frE_spl, frE_call, frE_ite, isLD, List.all_cons, List.all_nil, Nat.reduceBEq, Nat.reduceEqDiff, Int.reduceEq, Int.reduceLT, Int.reduceLE, Int.reduceNeg, Int.reduceAdd, Int.reduceSub, reduceIte, decide_true, decide_false, Option.some.injEq, isV_var, isV_int, isV_str, isV_bl, isV_non, isV_glb, isV_tup, isV_lst, isV_bin, isV_neg, isV_cmp, isV_chn, isV_and, isV_or, isV_not, isV_ite, isV_idx, isV_slc, isV_call, isV_blt, isV_isi, isV_mth, isV_exf, isV_comp, isV_dct, isV_itl, tupE_var, tupE_int, tupE_str, tupE_bl, tupE_non, tupE_glb, tupE_tup, tupE_lst, tupE_bin, tupE_neg, tupE_cmp, tupE_chn, tupE_and, tupE_or, tupE_not, tupE_ite, tupE_idx, tupE_slc, tupE_call, tupE_blt, tupE_isi, tupE_mth, tupE_exf, tupE_comp, tupE_dct, tupE_itl, pc_calm, pc_exn, pc_free, pc_wf, pl_calm, pl_exn, pl_free, pl_wf, pc_pu, pl_pu, pc0_own, pc0_mf, pc1_own, pc1_mf, pc2_own, pc2_mf, pc3_own, pc3_mf, pc4_own, pc4_mf, pc5_own, pc5_mf, pc6_own, pc6_mf, pc7_own, pc7_mf, pc8_own, pc8_mf, pc9_own, pc9_mf, pc10_own, pc10_mf, pc11_own, pc11_mf, pc12_own, pc12_mf, pc13_own, pc13_mf, pc14_own, pc14_mf, pc15_own, pc15_mf, pc16_own, pc16_mf, pc17_own, pc17_mf, pc18_own, pc18_mf, pl18_own, pl18_mf, pc_has0, pc_call0, pc_fr0, pc_has1, pc_call1, pc_fr1, pc_has2, pc_call2, pc_fr2, pc_has3, pc_call3, pc_fr3, pc_has4, pc_call4, pc_fr4, pc_has5, pc_call5, pc_fr5, pc_has6, pc_call6, pc_fr6, pc_has7, pc_call7, pc_fr7, pc_has8, pc_call8, pc_fr8, pc_has9, pc_call9, pc_fr9, pc_has10, pc_call10, pc_fr10, pc_has11, pc_call11, pc_fr11, pc_has12, pc_call12, pc_fr12, pc_has13, pc_call13, pc_fr13, pc_has14, pc_call14, pc_fr14, pc_has15, pc_call15, pc_fr15, pc_has16, pc_call16, pc_fr16, pc_has17, pc_call17, pc_fr17, pc_has18, pc_call18, pc_fr18, pc_glb20, pc_glb19, pc_glb21, pc_glb22, pc_cdt22, pl_has0, pl_call0, pl_fr0, pl_has1, pl_call1, pl_fr1, pl_has2, pl_call2, pl_fr2, pl_has3, pl_call3, pl_fr3, pl_has4, pl_call4, pl_fr4, pl_has5, pl_call5, pl_fr5, pl_has6, pl_call6, pl_fr6, pl_has7, pl_call7, pl_fr7, pl_has8, pl_call8, pl_fr8, pl_has9, pl_call9, pl_fr9, pl_has10, pl_call10, pl_fr10, pl_has11, pl_call11, pl_fr11, pl_has12, pl_call12, pl_fr12, pl_has13, pl_call13, pl_fr13, pl_has14, pl_call14, pl_fr14, pl_has15, pl_call15, pl_fr15, pl_has16, pl_call16, pl_fr16, pl_has17, pl_call17, pl_fr17, pl_has18, pl_call18, pl_fr18, pl_glb20, pl_glb19, pl_glb21, pl_glb22, pl_cdt22, hd, isT, hf, isTs_zip, str_len, hl]
        | _ =>
          simp only [↓pev_comp, ↓pex_for, ↓pex_whl, pexs, pex, pev, pevs, ppks, pevi, pevo, ptst, pevp, plook, psrc_str, psrc_tup, psrc_lst, List.map, List.replicate, List.cons_append, List.nil_append, Nat.sub_self, List.append_nil, Nat.reduceSub, Nat.reduceAdd, List.getElem?_cons_zero, List.getElem?_cons_succ, pbd_rt, pbd_ok, pbd_none, pup_some, pup_none, Option.map_some, Option.map_none, Option.isNone_none, Option.isNone_some, psE_rt, psE_ok, psE_none, psQ_nx, psQ_rt, psQ_bk, psQ_ct, pnoex_rt, if_true, if_false, Bool.false_eq_true, Bool.true_and, Bool.and_true, Bool.false_and, Bool.and_false, Bool.true_or, Bool.false_or, ne_eq, reduceCtorEq, not_false_eq_true, List.set_cons_zero, List.set_cons_succ, pendOf_rt, pendOf_nx, ptru_bl, ptru_int, Bool.not_true, Bool.not_false, Bool.and_self, Bool.or_false, Bool.or_true, not_true_eq_false, ptg, pwipe, pmE_call, pmE_app, pmE_ext, pmE_ins, pmE_clr, frE_lst, frE_list, frE_dict, frE_comp, frE_dct, frE_itl, frE_slc, frE_add, frE_spl, frE_call, frE_ite, isLD, List.all_cons, List.all_nil, Nat.reduceBEq, Nat.reduceEqDiff, Int.reduceEq, Int.reduceLT, Int.reduceLE, Int.reduceNeg, Int.reduceAdd, Int.reduceSub, reduceIte, decide_true, decide_false, Option.some.injEq, isV_var, isV_int, isV_str, isV_bl, isV_non, isV_glb, isV_tup, isV_lst, isV_bin, isV_neg, isV_cmp, isV_chn, isV_and, isV_or, isV_not, isV_ite, isV_idx, isV_slc, isV_call, isV_blt, isV_isi, isV_mth, isV_exf, isV_comp, isV_dct, isV_itl, tupE_var, tupE_int, tupE_str, tupE_bl, tupE_non, tupE_glb, tupE_tup, tupE_lst, tupE_bin, tupE_neg, tupE_cmp, tupE_chn, tupE_and, tupE_or, tupE_not, tupE_ite, tupE_idx, tupE_slc, tupE_call, tupE_blt, tupE_isi, tupE_mth, tupE_exf, tupE_comp, tupE_dct, tupE_itl, pc_calm, pc_exn, pc_free, pc_wf, pl_calm, pl_exn, pl_free, pl_wf, pc_pu, pl_pu, pc0_own, pc0_mf, pc1_own, pc1_mf, pc2_own, pc2_mf, pc3_own, pc3_mf, pc4_own, pc4_mf, pc5_own, pc5_mf, pc6_own, pc6_mf, pc7_own, pc7_mf, pc8_own, pc8_mf, pc9_own, pc9_mf, pc10_own, pc10_mf, pc11_own, pc11_mf, pc12_own, pc12_mf, pc13_own, pc13_mf, pc14_own, pc14_mf, pc15_own, pc15_mf, pc16_own, pc16_mf, pc17_own, pc17_mf, pc18_own, pc18_mf, pl18_own, pl18_mf, pc_has0, pc_call0, pc_fr0, pc_has1, pc_call1, pc_fr1, pc_has2, pc_call2, pc_fr2, pc_has3, pc_call3, pc_fr3, pc_has4, pc_call4, pc_fr4, pc_has5, pc_call5, pc_fr5, pc_has6, pc_call6, pc_fr6, pc_has7, pc_call7, pc_fr7, pc_has8, pc_call8, pc_fr8, pc_has9, pc_call9, pc_fr9, pc_has10, pc_call10, pc_fr10, pc_has11, pc_call11, pc_fr11, pc_has12, pc_call12, pc_fr12, pc_has13, pc_call13, pc_fr13, pc_has14, pc_call14, pc_fr14, pc_has15, pc_call15, pc_fr15, pc_has16, pc_call16, pc_fr16, pc_has17, pc_call17, pc_fr17, pc_has18, pc_call18, pc_fr18, pc_glb20, pc_glb19, pc_glb21, pc_glb22, pc_cdt22, pl_has0, pl_call0, pl_fr0, pl_has1, pl_call1, pl_fr1, pl_has2, pl_call2, pl_fr2, pl_has3, pl_call3, pl_fr3, pl_has4, pl_call4, pl_fr4, pl_has5, pl_call5, pl_fr5, pl_has6, pl_call6, pl_fr6, pl_has7, pl_call7, pl_fr7, pl_has8, pl_call8, pl_fr8, pl_has9, pl_call9, pl_fr9, pl_has10, pl_call10, pl_fr10, pl_has11, pl_call11, pl_fr11, pl_has12, pl_call12, pl_fr12, pl_has13, pl_call13, pl_fr13, pl_has14, pl_call14, pl_fr14, pl_has15, pl_call15, pl_fr15, pl_has16, pl_call16, pl_fr16, pl_has17, pl_call17, pl_fr17, pl_has18, pl_call18, pl_fr18, pl_glb20, pl_glb19, pl_glb21, pl_glb22, pl_cdt22, pisi_d hv, tyP, h0, peq_tup0, List.isEmpty_cons, pget_tup, a0, pisi_d (gv_isD g.1), isT]
    | _ => simp only [↓pev_comp, ↓pex_for, ↓pex_whl, pexs, pex, pev, pevs, ppks, pevi, pevo, ptst, pevp, plook, psrc_str, psrc_tup, psrc_lst, List.map, List.replicate, List.cons_append, List.nil_append, Nat.sub_self, List.append_nil, Nat.reduceSub, Nat.reduceAdd, List.getElem?_cons_zero, List.getElem?_cons_succ, pbd_rt, pbd_ok, pbd_none, pup_some, pup_none, Option.map_some, Option.map_none, Option.isNone_none, Option.isNone_some, psE_rt, psE_ok, psE_none, psQ_nx, psQ_rt, psQ_bk, psQ_ct, pnoex_rt, if_true, if_false, Bool.false_eq_true, Bool.true_and, Bool.and_true, Bool.false_and, Bool.and_false, Bool.true_or, Bool.false_or, ne_eq, reduceCtorEq, not_false_eq_true, List.set_cons_zero, List.set_cons_succ, pendOf_rt, pendOf_nx, ptru_bl, ptru_int, Bool.not_true, Bool.not_false, Bool.and_self, Bool.or_false, Bool.or_true, not_true_eq_false, ptg, pwipe, pmE_call, pmE_app, pmE_ext, pmE_ins, pmE_clr, frE_lst, frE_list, frE_dict, frE_comp, frE_dct, frE_itl, frE_slc, frE_add, frE_spl, frE_call, frE_ite, isLD, List.all_cons, List.all_nil, Nat.reduceBEq, Nat.reduceEqDiff, Int.reduceEq, Int.reduceLT, Int.reduceLE, Int.reduceNeg, Int.reduceAdd, Int.reduceSub, reduceIte, decide_true, decide_false, Option.some.injEq, isV_var, isV_int, isV_str, isV_bl, isV_non, isV_glb, isV_tup, isV_lst, isV_bin, isV_neg, isV_cmp, isV_chn, isV_and, isV_or, isV_not, isV_ite, isV_idx, isV_slc, isV_call, isV_blt, isV_isi, isV_mth, isV_exf, isV_comp, isV_dct, isV_itl, tupE_var, tupE_int, tupE_str, tupE_bl, tupE_non, tupE_glb, tupE_tup, tupE_lst, tupE_bin, tupE_neg, tupE_cmp, tupE_chn, tupE_and, tupE_or, tupE_not, tupE_ite, tupE_idx, tupE_slc, tupE_call, tupE_blt, tupE_isi, tupE_mth, tupE_exf, tupE_comp, tupE_dct, tupE_itl, pc_calm, pc_exn, pc_free, pc_wf, pl_calm, pl_exn, pl_free, pl_wf, pc_pu, pl_pu, pc0_own, pc0_mf, pc1_own, pc1_mf, pc2_own, pc2_mf, pc3_own, pc3_mf, pc4_own, pc4_mf, pc5_own, pc5_mf, pc6_own, pc6_mf, pc7_own, pc7_mf, pc8_own, pc8_mf, pc9_own, pc9_mf, pc10_own, pc10_mf, pc11_own, pc11_mf, pc12_own, pc12_mf, pc13_own, pc13_mf, pc14_own, pc14_mf, pc15_own, pc15_mf, pc16_own, pc16_mf, pc17_own, pc17_mf, pc18_own, pc18_mf, pl18_own, pl18_mf, pc_has0, pc_call0, pc_fr0, pc_has1, pc_call1, pc_fr1, pc_has2, pc_call2, pc_fr2, pc_has3, pc_call3, pc_fr3, pc_has4, pc_call4, pc_fr4, pc_has5, pc_call5, pc_fr5, pc_has6, pc_call6, pc_fr6, pc_has7, pc_call7, pc_fr7, pc_has8, pc_call8, pc_fr8, pc_has9, pc_call9, pc_fr9, pc_has10, pc_call10, pc_fr10, pc_has11, pc_call11, pc_fr11, pc_has12, pc_call12, pc_fr12, pc_has13, pc_call13, pc_fr13, pc_has14, pc_call14, pc_fr14, pc_has15, pc_call15, pc_fr15, pc_has16, pc_call16, pc_fr16, pc_has17, pc_call17, pc_fr17, pc_has18, pc_call18, pc_fr18, pc_glb20, pc_glb19, pc_glb21, pc_glb22, pc_cdt22, pl_has0, pl_call0, pl_fr0, pl_has1, pl_call1, pl_fr1, pl_has2, pl_call2, pl_fr2, pl_has3, pl_call3, pl_fr3, pl_has4, pl_call4, pl_fr4, pl_has5, pl_call5, pl_fr5, pl_has6, pl_call6, pl_fr6, pl_has7, pl_call7, pl_fr7, pl_has8, pl_call8, pl_fr8, pl_has9, pl_call9, pl_fr9, pl_has10, pl_call10, pl_fr10, pl_has11, pl_call11, pl_fr11, pl_has12, pl_call12, pl_fr12, pl_has13, pl_call13, pl_fr13, pl_has14, pl_call14, pl_fr14, pl_has15, pl_call15, pl_fr15, pl_has16, pl_call16, pl_fr16, pl_has17, pl_call17, pl_fr17, pl_has18, pl_call18, pl_fr18, pl_glb20, pl_glb19, pl_glb21, pl_glb22, pl_cdt22, pisi_d hv, tyP, isT]
end K01
set_option linter.all false
set_option maxRecDepth 100000
set_option maxHeartbeats 4000000
namespace K01
open PySem PySem.Spec Mi
theorem e_cell (k : Nat) (ns : List Int) (i : Nat) (σ : PS) : ∃ c : Int, Mi.pv T D (k + 1) 6 [.fl (ns.map .int), .int i] σ = prt (.int c) σ := by
  rw [pv_s k 6 _ σ m_law_cell rfl rfl rfl]
  simp only [m_law_cell]
  by_cases hi : (i : Int) < ns.length
  · have hn : i < ns.length := by omega
    refine ⟨ns[i], ?_⟩
    have hg : L2.atI (ns.map V.int) i = some (.int ns[i]) := by
      rw [at_nat _ _ (by simpa using hn), List.getElem?_map, List.getElem?_eq_getElem hn]; rfl
    simp only [↓pev_comp, ↓pex_for, ↓pex_whl, pexs, pex, pev, pevs, ppks, pevi, pevo, ptst, pevp, plook, psrc_str, psrc_tup, psrc_lst, List.map, List.replicate, List.cons_append, List.nil_append, Nat.sub_self, List.append_nil, Nat.reduceSub, Nat.reduceAdd, List.getElem?_cons_zero, List.getElem?_cons_succ, pbd_rt, pbd_ok, pbd_none, pup_some, pup_none, Option.map_some, Option.map_none, Option.isNone_none, Option.isNone_some, psE_rt, psE_ok, psE_none, psQ_nx, psQ_rt, psQ_bk, psQ_ct, pnoex_rt, if_true, if_false, Bool.false_eq_true, Bool.true_and, Bool.and_true, Bool.false_and, Bool.and_false, Bool.true_or, Bool.false_or, ne_eq, reduceCtorEq, not_false_eq_true, List.set_cons_zero, List.set_cons_succ, pendOf_rt, pendOf_nx, ptru_bl, ptru_int, Bool.not_true, Bool.not_false, Bool.and_self, Bool.or_false, Bool.or_true, not_true_eq_false, ptg, pwipe, pmE_call, pmE_app, pmE_ext, pmE_ins, pmE_clr, frE_lst, frE_list, frE_dict, frE_comp, frE_dct, frE_itl, frE_slc, frE_add, frE_spl, frE_call, frE_ite, isLD, List.all_cons, List.all_nil, Nat.reduceBEq, Nat.reduceEqDiff, Int.reduceEq, Int.reduceLT, Int.reduceLE, Int.reduceNeg, Int.reduceAdd, Int.reduceSub, reduceIte, decide_true, decide_false, Option.some.injEq, isV_var, isV_int, isV_str, isV_bl, isV_non, isV_glb, isV_tup, isV_lst, isV_bin, isV_neg, isV_cmp, isV_chn, isV_and, isV_or, isV_not, isV_ite, isV_idx, isV_slc, isV_call, isV_blt, isV_isi, isV_mth, isV_exf, isV_comp, isV_dct, isV_itl, tupE_var, tupE_int, tupE_str, tupE_bl, tupE_non, tupE_glb, tupE_tup, tupE_lst, tupE_bin, tupE_neg, tupE_cmp, tupE_chn, tupE_and, tupE_or, tupE_not, tupE_ite, tupE_idx, tupE_slc, tupE_call, tupE_blt, tupE_isi, tupE_mth, tupE_exf, tupE_comp, tupE_dct, tupE_itl, pc_calm, pc_exn, pc_free, pc_wf, pl_calm, pl_exn, pl_free, pl_wf, pc_pu, pl_pu, pc0_own, pc0_mf, pc1_own, pc1_mf, pc2_own, pc2_mf, pc3_own, pc3_mf, pc4_own, pc4_mf, pc5_own, pc5_mf, pc6_own, pc6_mf, pc7_own, pc7_mf, pc8_own, pc8_mf, pc9_own, pc9_mf, pc10_own, pc10_mf, pc11_own, pc11_mf, pc12_own, pc12_mf, pc13_own, pc13_mf, pc14_own, pc14_mf, pc15_own, pc15_mf, pc16_own, pc16_mf, pc17_own, pc17_mf, pc18_own, pc18_mf, pl18_own, pl18_mf, pc_has0, pc_call0, pc_fr0, pc_has1, pc_call1, pc_fr1, pc_has2, pc_call2, pc_fr2, pc_has3, pc_call3, pc_fr3, pc_has4, pc_call4, pc_fr4, pc_has5, pc_call5, pc_fr5, pc_has6, pc_call6, pc_fr6, pc_has7, pc_call7, pc_fr7, pc_has8, pc_call8, pc_fr8, pc_has9, pc_call9, pc_fr9, pc_has10, pc_call10, pc_fr10, pc_has11, pc_call11, pc_fr11, pc_has12, pc_call12, pc_fr12, pc_has13, pc_call13, pc_fr13, pc_has14, pc_call14, pc_fr14, pc_has15, pc_call15, pc_fr15, pc_has16, pc_call16, pc_fr16, pc_has17, pc_call17, pc_fr17, pc_has18, pc_call18, pc_fr18, pc_glb20, pc_glb19, pc_glb21, pc_glb22, pc_cdt22, pl_has0, pl_call0, pl_fr0, pl_has1, pl_call1, pl_fr1, pl_has2, pl_call2, pl_fr2, pl_has3, pl_call3, pl_fr3, pl_has4, pl_call4, pl_fr4, pl_has5, pl_call5, pl_fr5, pl_has6, pl_call6, pl_fr6, pl_has7, pl_call7, pl_fr7, pl_has8, pl_call8, pl_fr8, pl_has9, pl_call9, pl_fr9, pl_has10, pl_call10, pl_fr10, pl_has11, pl_call11, pl_fr11, pl_has12, pl_call12, pl_fr12, pl_has13, pl_call13, pl_fr13, pl_has14, pl_call14, pl_fr14, pl_has15, pl_call15, pl_fr15, pl_has16, pl_call16, pl_fr16, pl_has17, pl_call17, pl_fr17, pl_has18, pl_call18, pl_fr18, pl_glb20, pl_glb19, pl_glb21, pl_glb22, pl_cdt22, plen_fl, List.length_map, plt_int, hi, pget_fl, hg]
  · refine ⟨6113 * i + 19, ?_⟩
    have hm : pbin .mul (.int 6113) (.int i) = some (.int (6113 * i)) := pmul_l (by decide)
    simp only [↓pev_comp, ↓pex_for, ↓pex_whl, pexs, pex, pev, pevs, ppks, pevi, pevo, ptst, pevp, plook, psrc_str, psrc_tup, psrc_lst, List.map, List.replicate, List.cons_append, List.nil_append, Nat.sub_self, List.append_nil, Nat.reduceSub, Nat.reduceAdd, List.getElem?_cons_zero, List.getElem?_cons_succ, pbd_rt, pbd_ok, pbd_none, pup_some, pup_none, Option.map_some, Option.map_none, Option.isNone_none, Option.isNone_some, psE_rt, psE_ok, psE_none, psQ_nx, psQ_rt, psQ_bk, psQ_ct, pnoex_rt, if_true, if_false, Bool.false_eq_true, Bool.true_and, Bool.and_true, Bool.false_and, Bool.and_false, Bool.true_or, Bool.false_or, ne_eq, reduceCtorEq, not_false_eq_true, List.set_cons_zero, List.set_cons_succ, pendOf_rt, pendOf_nx, ptru_bl, ptru_int, Bool.not_true, Bool.not_false, Bool.and_self, Bool.or_false, Bool.or_true, not_true_eq_false, ptg, pwipe, pmE_call, pmE_app, pmE_ext, pmE_ins, pmE_clr, frE_lst, frE_list, frE_dict, frE_comp, frE_dct, frE_itl, frE_slc, frE_add, frE_spl, frE_call, frE_ite, isLD, List.all_cons, List.all_nil, Nat.reduceBEq, Nat.reduceEqDiff, Int.reduceEq, Int.reduceLT, Int.reduceLE, Int.reduceNeg, Int.reduceAdd, Int.reduceSub, reduceIte, decide_true, decide_false, Option.some.injEq, isV_var, isV_int, isV_str, isV_bl, isV_non, isV_glb, isV_tup, isV_lst, isV_bin, isV_neg, isV_cmp, isV_chn, isV_and, isV_or, isV_not, isV_ite, isV_idx, isV_slc, isV_call, isV_blt, isV_isi, isV_mth, isV_exf, isV_comp, isV_dct, isV_itl, tupE_var, tupE_int, tupE_str, tupE_bl, tupE_non, tupE_glb, tupE_tup, tupE_lst, tupE_bin, tupE_neg, tupE_cmp, tupE_chn, tupE_and, tupE_or, tupE_not, tupE_ite, tupE_idx, tupE_slc, tupE_call, tupE_blt, tupE_isi, tupE_mth, tupE_exf, tupE_comp, tupE_dct, tupE_itl, pc_calm, pc_exn, pc_free, pc_wf, pl_calm, pl_exn, pl_free, pl_wf, pc_pu, pl_pu, pc0_own, pc0_mf, pc1_own, pc1_mf, pc2_own, pc2_mf, pc3_own, pc3_mf, pc4_own, pc4_mf, pc5_own, pc5_mf, pc6_own, pc6_mf, pc7_own, pc7_mf, pc8_own, pc8_mf, pc9_own, pc9_mf, pc10_own, pc10_mf, pc11_own, pc11_mf, pc12_own, pc12_mf, pc13_own, pc13_mf, pc14_own, pc14_mf, pc15_own, pc15_mf, pc16_own, pc16_mf, pc17_own, pc17_mf, pc18_own, pc18_mf, pl18_own, pl18_mf, pc_has0, pc_call0, pc_fr0, pc_has1, pc_call1, pc_fr1, pc_has2, pc_call2, pc_fr2, pc_has3, pc_call3, pc_fr3, pc_has4, pc_call4, pc_fr4, pc_has5, pc_call5, pc_fr5, pc_has6, pc_call6, pc_fr6, pc_has7, pc_call7, pc_fr7, pc_has8, pc_call8, pc_fr8, pc_has9, pc_call9, pc_fr9, pc_has10, pc_call10, pc_fr10, pc_has11, pc_call11, pc_fr11, pc_has12, pc_call12, pc_fr12, pc_has13, pc_call13, pc_fr13, pc_has14, pc_call14, pc_fr14, pc_has15, pc_call15, pc_fr15, pc_has16, pc_call16, pc_fr16, pc_has17, pc_call17, pc_fr17, pc_has18, pc_call18, pc_fr18, pc_glb20, pc_glb19, pc_glb21, pc_glb22, pc_cdt22, pl_has0, pl_call0, pl_fr0, pl_has1, pl_call1, pl_fr1, pl_has2, pl_call2, pl_fr2, pl_has3, pl_call3, pl_fr3, pl_has4, pl_call4, pl_fr4, pl_has5, pl_call5, pl_fr5, pl_has6, pl_call6, pl_fr6, pl_has7, pl_call7, pl_fr7, pl_has8, pl_call8, pl_fr8, pl_has9, pl_call9, pl_fr9, pl_has10, pl_call10, pl_fr10, pl_has11, pl_call11, pl_fr11, pl_has12, pl_call12, pl_fr12, pl_has13, pl_call13, pl_fr13, pl_has14, pl_call14, pl_fr14, pl_has15, pl_call15, pl_fr15, pl_has16, pl_call16, pl_fr16, pl_has17, pl_call17, pl_fr17, pl_has18, pl_call18, pl_fr18, pl_glb20, pl_glb19, pl_glb21, pl_glb22, pl_cdt22, plen_fl, List.length_map, plt_int, hi, hm, padd_int]
theorem e_purse (k : Nat) (c : Int) (σ : PS) : ∃ n m : Int, 0 ≤ n ∧ 0 ≤ m ∧ m < 2147483629 ∧ Mi.pv T D (k + 1) 7 [.int c] σ = prt (.lst [.int n, .int m, .int 0]) σ := by
  rw [pv_s k 7 _ σ m_law_purse rfl rfl rfl]
  simp only [m_law_purse]
  refine ⟨if c - 10 ^ 18 > 0 then c - 10 ^ 18 else 0, c % 2147483629, by split <;> omega, Int.emod_nonneg _ (by decide), Int.emod_lt_of_pos _ (by decide), ?_⟩
  have hp : pbin .pow (.int 10) (.int 18) = some (.int (10 ^ 18)) := by
    simp only [pbin]; rw [if_pos (by decide)]; rfl
  have hm : pblt (Pc k 7) .max [.int 0, .int (c - 10 ^ 18)] = some (.int (if c - 10 ^ 18 > 0 then c - 10 ^ 18 else 0)) := rfl
  have h3 : ∀ a b d : V, [a, b, d].length ≤ sizeLine := fun _ _ _ => by show 3 ≤ sizeLine; decide
  simp only [↓pev_comp, ↓pex_for, ↓pex_whl, pexs, pex, pev, pevs, ppks, pevi, pevo, ptst, pevp, plook, psrc_str, psrc_tup, psrc_lst, List.map, List.replicate, List.cons_append, List.nil_append, Nat.sub_self, List.append_nil, Nat.reduceSub, Nat.reduceAdd, List.getElem?_cons_zero, List.getElem?_cons_succ, pbd_rt, pbd_ok, pbd_none, pup_some, pup_none, Option.map_some, Option.map_none, Option.isNone_none, Option.isNone_some, psE_rt, psE_ok, psE_none, psQ_nx, psQ_rt, psQ_bk, psQ_ct, pnoex_rt, if_true, if_false, Bool.false_eq_true, Bool.true_and, Bool.and_true, Bool.false_and, Bool.and_false, Bool.true_or, Bool.false_or, ne_eq, reduceCtorEq, not_false_eq_true, List.set_cons_zero, List.set_cons_succ, pendOf_rt, pendOf_nx, ptru_bl, ptru_int, Bool.not_true, Bool.not_false, Bool.and_self, Bool.or_false, Bool.or_true, not_true_eq_false, ptg, pwipe, pmE_call, pmE_app, pmE_ext, pmE_ins, pmE_clr, frE_lst, frE_list, frE_dict, frE_comp, frE_dct, frE_itl, frE_slc, frE_add, frE_spl, frE_call, frE_ite, isLD, List.all_cons, List.all_nil, Nat.reduceBEq, Nat.reduceEqDiff, Int.reduceEq, Int.reduceLT, Int.reduceLE, Int.reduceNeg, Int.reduceAdd, Int.reduceSub, reduceIte, decide_true, decide_false, Option.some.injEq, isV_var, isV_int, isV_str, isV_bl, isV_non, isV_glb, isV_tup, isV_lst, isV_bin, isV_neg, isV_cmp, isV_chn, isV_and, isV_or, isV_not, isV_ite, isV_idx, isV_slc, isV_call, isV_blt, isV_isi, isV_mth, isV_exf, isV_comp, isV_dct, isV_itl, tupE_var, tupE_int, tupE_str, tupE_bl, tupE_non, tupE_glb, tupE_tup, tupE_lst, tupE_bin, tupE_neg, tupE_cmp, tupE_chn, tupE_and, tupE_or, tupE_not, tupE_ite, tupE_idx, tupE_slc, tupE_call, tupE_blt, tupE_isi, tupE_mth, tupE_exf, tupE_comp, tupE_dct, tupE_itl, pc_calm, pc_exn, pc_free, pc_wf, pl_calm, pl_exn, pl_free, pl_wf, pc_pu, pl_pu, pc0_own, pc0_mf, pc1_own, pc1_mf, pc2_own, pc2_mf, pc3_own, pc3_mf, pc4_own, pc4_mf, pc5_own, pc5_mf, pc6_own, pc6_mf, pc7_own, pc7_mf, pc8_own, pc8_mf, pc9_own, pc9_mf, pc10_own, pc10_mf, pc11_own, pc11_mf, pc12_own, pc12_mf, pc13_own, pc13_mf, pc14_own, pc14_mf, pc15_own, pc15_mf, pc16_own, pc16_mf, pc17_own, pc17_mf, pc18_own, pc18_mf, pl18_own, pl18_mf, pc_has0, pc_call0, pc_fr0, pc_has1, pc_call1, pc_fr1, pc_has2, pc_call2, pc_fr2, pc_has3, pc_call3, pc_fr3, pc_has4, pc_call4, pc_fr4, pc_has5, pc_call5, pc_fr5, pc_has6, pc_call6, pc_fr6, pc_has7, pc_call7, pc_fr7, pc_has8, pc_call8, pc_fr8, pc_has9, pc_call9, pc_fr9, pc_has10, pc_call10, pc_fr10, pc_has11, pc_call11, pc_fr11, pc_has12, pc_call12, pc_fr12, pc_has13, pc_call13, pc_fr13, pc_has14, pc_call14, pc_fr14, pc_has15, pc_call15, pc_fr15, pc_has16, pc_call16, pc_fr16, pc_has17, pc_call17, pc_fr17, pc_has18, pc_call18, pc_fr18, pc_glb20, pc_glb19, pc_glb21, pc_glb22, pc_cdt22, pl_has0, pl_call0, pl_fr0, pl_has1, pl_call1, pl_fr1, pl_has2, pl_call2, pl_fr2, pl_has3, pl_call3, pl_fr3, pl_has4, pl_call4, pl_fr4, pl_has5, pl_call5, pl_fr5, pl_has6, pl_call6, pl_fr6, pl_has7, pl_call7, pl_fr7, pl_has8, pl_call8, pl_fr8, pl_has9, pl_call9, pl_fr9, pl_has10, pl_call10, pl_fr10, pl_has11, pl_call11, pl_fr11, pl_has12, pl_call12, pl_fr12, pl_has13, pl_call13, pl_fr13, pl_has14, pl_call14, pl_fr14, pl_has15, pl_call15, pl_fr15, pl_has16, pl_call16, pl_fr16, pl_has17, pl_call17, pl_fr17, pl_has18, pl_call18, pl_fr18, pl_glb20, pl_glb19, pl_glb21, pl_glb22, pl_cdt22, hp, psub_int, hm, pmod_int (by decide : (0 : Int) < 2147483629), h3]
theorem cut_to {α : Type} (xs : List α) (i : Nat) (hi : i ≤ xs.length) : cut xs none (some (i : Int)) = xs.take i := by
  unfold cut
  simp only [HT.sIx]
  rw [if_neg (by omega)]
  simp [Nat.min_eq_left hi]
theorem cut_from {α : Type} (xs : List α) (i : Nat) (hi : i ≤ xs.length) : cut xs (some (i : Int)) none = xs.drop i := by
  unfold cut
  simp only [HT.sIx]
  rw [if_neg (by omega)]
  simp [Nat.min_eq_left hi]
  rw [List.take_of_length_le (by simp)]
theorem cut_last {α : Type} (xs : List α) : cut xs none (some (-1)) = xs.take (xs.length - 1) := by
  unfold cut
  simp only [HT.sIx]
  rw [if_pos (by decide)]
  simp
  congr 1
  omega
def O1 : List V := [.int 0, .int (-1), .int 5, .int 6, .bl true, .bl false, .non, .int 999, .str "", .str "at", .str "kind", .str "app", .str "put", .str "self", .str "names", .str "num", .str "Num"]
def O2 : List V := [.str "n1", .str "ninechars", .str "eightcha", .tup [.str "at", .int 0], .lst [.str "at", .int 0], .dct [], .str "all", .str "fun", .str "same", .str "a b", .str "eater", .str "maker"]
theorem o1_fold : ([.int 0, .int (-1), .int 5, .int 6, .bl true, .bl false, .non, .int 999, .str "", .str "at", .str "kind", .str "app", .str "put", .str "self", .str "names", .str "num", .str "Num"] : List V) = O1 := rfl
theorem o2_fold : ([.str "n1", .str "ninechars", .str "eightcha", .tup [.str "at", .int 0], .lst [.str "at", .int 0], .dct [], .str "all", .str "fun", .str "same", .str "a b", .str "eater", .str "maker"] : List V) = O2 := rfl
theorem odd_get {l : List V} {v : Int} (h0 : 0 ≤ v) (h1 : v < l.length) : ∃ x ∈ l, L2.atI l v = some x := by
  obtain ⟨j, rfl⟩ : ∃ j : Nat, v = j := ⟨v.toNat, by omega⟩
  have hj : j < l.length := by omega
  exact ⟨l[j], List.getElem_mem hj, by rw [at_nat _ _ hj, List.getElem?_eq_getElem hj]⟩
/-- good, so deep, so long -/
def Th (n Z : Nat) (v : V) : Bool := gv v && decide (dep v ≤ n) && decide (wtV v ≤ Z)
theorem th_iff {n Z : Nat} {v : V} : Th n Z v = true ↔ gv v = true ∧ dep v ≤ n ∧ wtV v ≤ Z := by
  simp only [Th, Bool.and_eq_true, decide_eq_true_eq, and_assoc]
theorem th_mono {n m Z Y : Nat} {v : V} (h : Th n Z v = true) (h1 : n ≤ m) (h2 : Z ≤ Y) : Th m Y v = true := by
  rw [th_iff] at *
  exact ⟨h.1, by omega, by omega⟩
theorem th_odd : (O1 ++ O2).all (Th 2 500) = true := by decide +kernel
theorem e_odd (k : Nat) (z : Int) (v : V) (σ : PS) (hv : isD v = true) (hw : tyP v .tuple = false) (hP : PuOk z σ) (hz : z < 900000000) :
    ∃ (v' : V) (σ' : PS), Mi.pv T D (k + 2) 16 [.prs, v] σ = prt v' σ' ∧ Th 2 500 v' = true ∧ PuOk (z + 1) σ' := by
  rw [pv_s (k + 1) 16 _ σ m_law_spoilt rfl rfl rfl]
  obtain ⟨u, σ1, e1, u0, u1, P1⟩ := e_take k z 29 σ hP (by omega) (by decide) (by decide)
  obtain ⟨x, hx, hat⟩ := odd_get (l := O1 ++ O2) u0 u1
  refine ⟨x, σ1, ?_, List.all_eq_true.mp th_odd x hx, P1⟩
  simp only [m_law_spoilt]
  have z1 : O1.length ≤ sizeLine := by decide +kernel
  have z2 : ([V.str "at", .int 0] : List V).length ≤ sizeLine := by decide +kernel
  have z3 : O2.length ≤ sizeLine := by decide +kernel
  have z4 : O1.length + O2.length ≤ sizeLine := by decide +kernel
  simp only [↓pev_comp, ↓pex_for, ↓pex_whl, pexs, pex, pev, pevs, ppks, pevi, pevo, ptst, pevp, plook, psrc_str, psrc_tup, psrc_lst, List.map, List.replicate, List.cons_append, List.nil_append, Nat.sub_self, List.append_nil, Nat.reduceSub, Nat.reduceAdd, List.getElem?_cons_zero, List.getElem?_cons_succ, pbd_rt, pbd_ok, pbd_none, pup_some, pup_none, Option.map_some, Option.map_none, Option.isNone_none, Option.isNone_some, psE_rt, psE_ok, psE_none, psQ_nx, psQ_rt, psQ_bk, psQ_ct, pnoex_rt, if_true, if_false, Bool.false_eq_true, Bool.true_and, Bool.and_true, Bool.false_and, Bool.and_false, Bool.true_or, Bool.false_or, ne_eq, reduceCtorEq, not_false_eq_true, List.set_cons_zero, List.set_cons_succ, pendOf_rt, pendOf_nx, ptru_bl, ptru_int, Bool.not_true, Bool.not_false, Bool.and_self, Bool.or_false, Bool.or_true, not_true_eq_false, ptg, pwipe, pmE_call, pmE_app, pmE_ext, pmE_ins, pmE_clr, frE_lst, frE_list, frE_dict, frE_comp, frE_dct, frE_itl, frE_slc, frE_add, frE_spl, frE_call, frE_ite, isLD, List.all_cons, List.all_nil, Nat.reduceBEq, Nat.reduceEqDiff, Int.reduceEq, Int.reduceLT, Int.reduceLE, Int.reduceNeg, Int.reduceAdd, Int.reduceSub, reduceIte, decide_true, decide_false, Option.some.injEq, isV_var, isV_int, isV_str, isV_bl, isV_non, isV_glb, isV_tup, isV_lst, isV_bin, isV_neg, isV_cmp, isV_chn, isV_and, isV_or, isV_not, isV_ite, isV_idx, isV_slc, isV_call, isV_blt, isV_isi, isV_mth, isV_exf, isV_comp, isV_dct, isV_itl, tupE_var, tupE_int, tupE_str, tupE_bl, tupE_non, tupE_glb, tupE_tup, tupE_lst, tupE_bin, tupE_neg, tupE_cmp, tupE_chn, tupE_and, tupE_or, tupE_not, tupE_ite, tupE_idx, tupE_slc, tupE_call, tupE_blt, tupE_isi, tupE_mth, tupE_exf, tupE_comp, tupE_dct, tupE_itl, pc_calm, pc_exn, pc_free, pc_wf, pl_calm, pl_exn, pl_free, pl_wf, pc_pu, pl_pu, pc0_own, pc0_mf, pc1_own, pc1_mf, pc2_own, pc2_mf, pc3_own, pc3_mf, pc4_own, pc4_mf, pc5_own, pc5_mf, pc6_own, pc6_mf, pc7_own, pc7_mf, pc8_own, pc8_mf, pc9_own, pc9_mf, pc10_own, pc10_mf, pc11_own, pc11_mf, pc12_own, pc12_mf, pc13_own, pc13_mf, pc14_own, pc14_mf, pc15_own, pc15_mf, pc16_own, pc16_mf, pc17_own, pc17_mf, pc18_own, pc18_mf, pl18_own, pl18_mf, pc_has0, pc_call0, pc_fr0, pc_has1, pc_call1, pc_fr1, pc_has2, pc_call2, pc_fr2, pc_has3, pc_call3, pc_fr3, pc_has4, pc_call4, pc_fr4, pc_has5, pc_call5, pc_fr5, pc_has6, pc_call6, pc_fr6, pc_has7, pc_call7, pc_fr7, pc_has8, pc_call8, pc_fr8, pc_has9, pc_call9, pc_fr9, pc_has10, pc_call10, pc_fr10, pc_has11, pc_call11, pc_fr11, pc_has12, pc_call12, pc_fr12, pc_has13, pc_call13, pc_fr13, pc_has14, pc_call14, pc_fr14, pc_has15, pc_call15, pc_fr15, pc_has16, pc_call16, pc_fr16, pc_has17, pc_call17, pc_fr17, pc_has18, pc_call18, pc_fr18, pc_glb20, pc_glb19, pc_glb21, pc_glb22, pc_cdt22, pl_has0, pl_call0, pl_fr0, pl_has1, pl_call1, pl_fr1, pl_has2, pl_call2, pl_fr2, pl_has3, pl_call3, pl_fr3, pl_has4, pl_call4, pl_fr4, pl_has5, pl_call5, pl_fr5, pl_has6, pl_call6, pl_fr6, pl_has7, pl_call7, pl_fr7, pl_has8, pl_call8, pl_fr8, pl_has9, pl_call9, pl_fr9, pl_has10, pl_call10, pl_fr10, pl_has11, pl_call11, pl_fr11, pl_has12, pl_call12, pl_fr12, pl_has13, pl_call13, pl_fr13, pl_has14, pl_call14, pl_fr14, pl_has15, pl_call15, pl_fr15, pl_has16, pl_call16, pl_fr16, pl_has17, pl_call17, pl_fr17, pl_has18, pl_call18, pl_fr18, pl_glb20, pl_glb19, pl_glb21, pl_glb22, pl_cdt22, pisi_d hv, hw, o1_fold, z1, z2, o2_fold, z3, padd_lst z4, e1, pget_lst, hat]
theorem th_tup {n Z : Nat} {xs : List V} : Th (n + 1) Z (.tup xs) = true ↔ gvs xs = true ∧ deps xs ≤ n ∧ wtVs xs + 4 ≤ Z := by
  rw [th_iff]
  simp only [gv, dep, wtV]
  exact ⟨fun h => ⟨h.1, by omega, by omega⟩, fun h => ⟨h.1, by omega, by omega⟩⟩
theorem take_drop3 (xs : List V) (i : Nat) (hi : i < xs.length) : xs = xs.take i ++ [xs[i]] ++ xs.drop (i + 1) := by
  simp
theorem e_spoilt : ∀ (n k : Nat) (Z : Nat) (z : Int) (v : V) (σ : PS), n + 2 ≤ k → Th n Z v = true → Z ≤ 1900000 → PuOk z σ → z + 3 * n < 900000000 →
    ∃ (v' : V) (σ' : PS), Mi.pv T D k 16 [.prs, v] σ = prt v' σ' ∧ Th (n + 2) (Z + 1000) v' = true ∧ PuOk (z + 3 * n) σ' := by
  intro n
  induction n with
  | zero => intro k Z z v σ hk h; rw [th_iff] at h; cases v <;> simp [dep] at h
  | succ n ih =>
    intro k Z z v σ hk h hZ hP hz
    obtain ⟨k, rfl⟩ : ∃ j, k = j + 2 := ⟨k - 2, by omega⟩
    have hv := gv_isD (th_iff.mp h).1
    cases hw : tyP v .tuple with
    | false =>
      obtain ⟨v', σ', e, h', P⟩ := e_odd k z v σ hv hw hP (by omega)
      exact ⟨v', σ', e, th_mono h' (by omega) (by omega), P.mono (by omega)⟩
    | true =>
      obtain ⟨xs, rfl⟩ := ty_tup.mp hw
      rw [th_tup] at h
      obtain ⟨g, d, w⟩ := h
      have hlen := wtVs_len xs
      have hl2 : xs.length ≤ 950000 := by omega
      have hsz : (1900000 : Nat) ≤ sizeLine := by decide
      have h0 : ([] : List V).length ≤ sizeLine := Nat.zero_le _
      have h1 : ∀ v : V, [v].length ≤ sizeLine := fun v => by show 1 ≤ sizeLine; decide
      have h2 : ∀ v w : V, [v, w].length ≤ sizeLine := fun v w => by show 2 ≤ sizeLine; decide
      have h9 : ∀ a b c d e f g h i : V, [a, b, c, d, e, f, g, h, i].length ≤ sizeLine := fun a b c d e f g h i => by show 9 ≤ sizeLine; decide
      rw [pv_s (k + 1) 16 _ σ m_law_spoilt rfl rfl rfl]
      have second : ∀ (σ : PS) (z' : Int), PuOk z' σ → z' ≤ z + 1 → ∃ (v' : V) (σ' : PS), (Mi.pv T D (k + 1) 8 [.prs, .int 9] σ = prt v' σ' ∨ True) ∧ ∃ u : Int, Mi.pv T D (k + 1) 8 [.prs, .int 9] σ = prt (.int u) σ' ∧
          L2.atI [V.lst xs, .tup (xs.take (xs.length - 1)), .tup (xs ++ [.tup [.str "kind", .int 0]]), .tup (xs ++ [.int 0]), .tup [], .non, .tup (xs.drop 1), .tup [.tup xs], .str "at"] u = some v' ∧ Th (n + 1 + 2) (Z + 1000) v' = true ∧ PuOk (z' + 1) σ' := fun σ z' hP hz' => by
        obtain ⟨u, σ1, e1, u0, u1, P1⟩ := e_take k z' 9 σ hP (by omega) (by decide) (by decide)
        obtain ⟨x, hx, hat⟩ := odd_get (l := [V.lst xs, .tup (xs.take (xs.length - 1)), .tup (xs ++ [.tup [.str "kind", .int 0]]), .tup (xs ++ [.int 0]), .tup [], .non, .tup (xs.drop 1), .tup [.tup xs], .str "at"]) u0 u1
        refine ⟨x, σ1, .inr trivial, u, e1, hat, ?_, P1⟩
        have tk : ∀ i, gvs (xs.take i) = true ∧ deps (xs.take i) ≤ deps xs ∧ wtVs (xs.take i) ≤ wtVs xs := fun i => by
          have a1 := gvs_app (xs.take i) (xs.drop i)
          have a2 := deps_app (xs.take i) (xs.drop i)
          have a3 := wtVs_app (xs.take i) (xs.drop i)
          rw [List.take_append_drop] at a1 a2 a3
          rw [g] at a1
          simp only [Bool.true_eq, Bool.and_eq_true] at a1
          exact ⟨a1.1, by omega, by omega⟩
        have dr : ∀ i, gvs (xs.drop i) = true ∧ deps (xs.drop i) ≤ deps xs ∧ wtVs (xs.drop i) ≤ wtVs xs := fun i => by
          have a1 := gvs_app (xs.take i) (xs.drop i)
          have a2 := deps_app (xs.take i) (xs.drop i)
          have a3 := wtVs_app (xs.take i) (xs.drop i)
          rw [List.take_append_drop] at a1 a2 a3
          rw [g] at a1
          simp only [Bool.true_eq, Bool.and_eq_true] at a1
          exact ⟨a1.2, by omega, by omega⟩
        have sn : ∀ y : V, Th 2 600 y = true → Th (n + 1 + 2) (Z + 1000) (.tup (xs ++ [y])) = true := fun y hy => by
          rw [th_iff] at hy
          rw [th_tup, gvs_app, deps_app, wtVs_app]
          simp only [gvs, deps, wtVs, g, hy.1, Bool.and_self]
          exact ⟨trivial, by omega, by omega⟩
        simp only [List.mem_cons, List.not_mem_nil, or_false] at hx
        rcases hx with rfl | rfl | rfl | rfl | rfl | rfl | rfl | rfl | rfl
        · rw [th_iff]; simp only [gv, dep, wtV, g]; exact ⟨trivial, by omega, by omega⟩
        · rw [th_tup]; have := tk (xs.length - 1); exact ⟨this.1, by omega, by omega⟩
        · exact sn _ (by decide +kernel)
        · exact sn _ (by decide +kernel)
        · exact th_mono (n := 1) (Z := 4) (by decide +kernel) (by omega) (by omega)
        · exact th_mono (n := 1) (Z := 4) (by decide +kernel) (by omega) (by omega)
        · rw [th_tup]; have := dr 1; exact ⟨this.1, by omega, by omega⟩
        · rw [th_tup]; simp only [gvs, gv, deps, dep, wtVs, wtV, g, Bool.and_self]; exact ⟨trivial, by omega, by omega⟩
        · exact th_mono (n := 1) (Z := 402) (by decide +kernel) (by omega) (by omega)
      have cl := cut_last xs
      have a1 : xs.length + [V.tup [.str "kind", .int 0]].length ≤ sizeLine := by simp only [List.length_cons, List.length_nil]; omega
      have a2 : xs.length + [V.int 0].length ≤ sizeLine := by simp only [List.length_cons, List.length_nil]; omega
      have c1 : cut xs (some 1) none = xs.drop 1 := by
        cases xs with
        | nil => rfl
        | cons x xs => rw [cut_1]; rfl
      simp only [m_law_spoilt]
      cases xs with
      | nil =>
        obtain ⟨v', σ', _, u, e1, hat, h', P⟩ := second σ z hP (by omega)
        refine ⟨v', σ', ?_, h', P.mono (by omega)⟩
        simp only [List.nil_append] at hat
        simp only [↓pev_comp, ↓pex_for, ↓pex_whl, pexs, pex, pev, pevs, ppks, pevi, pevo, ptst, pevp, plook, psrc_str, psrc_tup, psrc_lst, List.map, List.replicate, List.cons_append, List.nil_append, Nat.sub_self, List.append_nil, Nat.reduceSub, Nat.reduceAdd, List.getElem?_cons_zero, List.getElem?_cons_succ, pbd_rt, pbd_ok, pbd_none, pup_some, pup_none, Option.map_some, Option.map_none, Option.isNone_none, Option.isNone_some, psE_rt, psE_ok, psE_none, psQ_nx, psQ_rt, psQ_bk, psQ_ct, pnoex_rt, if_true, if_false, Bool.false_eq_true, Bool.true_and, Bool.and_true, Bool.false_and, Bool.and_false, Bool.true_or, Bool.false_or, ne_eq, reduceCtorEq, not_false_eq_true, List.set_cons_zero, List.set_cons_succ, pendOf_rt, pendOf_nx, ptru_bl, ptru_int, Bool.not_true, Bool.not_false, Bool.and_self, Bool.or_false, Bool.or_true, not_true_eq_false, ptg, pwipe, pmE_call, pmE_app, pmE_ext, pmE_ins, pmE_clr, frE_lst, frE_list, frE_dict, frE_comp, frE_dct, frE_itl, frE_slc, frE_add, frE_spl, frE_call, frE_ite, isLD, List.all_cons, List.all_nil, Nat.reduceBEq, Nat.reduceEqDiff, Int.reduceEq, Int.reduceLT, Int.reduceLE, Int.reduceNeg, Int.reduceAdd, Int.reduceSub, reduceIte, decide_true, decide_false, Option.some.injEq, isV_var, isV_int, isV_str, isV_bl, isV_non, isV_glb, isV_tup, isV_lst, isV_bin, isV_neg, isV_cmp, isV_chn, isV_and, isV_or, isV_not, isV_ite, isV_idx, isV_slc, isV_call, isV_blt, isV_isi, isV_mth, isV_exf, isV_comp, isV_dct, isV_itl, tupE_var, tupE_int, tupE_str, tupE_bl, tupE_non, tupE_glb, tupE_tup, tupE_lst, tupE_bin, tupE_neg, tupE_cmp, tupE_chn, tupE_and, tupE_or, tupE_not, tupE_ite, tupE_idx, tupE_slc, tupE_call, tupE_blt, tupE_isi, tupE_mth, tupE_exf, tupE_comp, tupE_dct, tupE_itl, pc_calm, pc_exn, pc_free, pc_wf, pl_calm, pl_exn, pl_free, pl_wf, pc_pu, pl_pu, pc0_own, pc0_mf, pc1_own, pc1_mf, pc2_own, pc2_mf, pc3_own, pc3_mf, pc4_own, pc4_mf, pc5_own, pc5_mf, pc6_own, pc6_mf, pc7_own, pc7_mf, pc8_own, pc8_mf, pc9_own, pc9_mf, pc10_own, pc10_mf, pc11_own, pc11_mf, pc12_own, pc12_mf, pc13_own, pc13_mf, pc14_own, pc14_mf, pc15_own, pc15_mf, pc16_own, pc16_mf, pc17_own, pc17_mf, pc18_own, pc18_mf, pl18_own, pl18_mf, pc_has0, pc_call0, pc_fr0, pc_has1, pc_call1, pc_fr1, pc_has2, pc_call2, pc_fr2, pc_has3, pc_call3, pc_fr3, pc_has4, pc_call4, pc_fr4, pc_has5, pc_call5, pc_fr5, pc_has6, pc_call6, pc_fr6, pc_has7, pc_call7, pc_fr7, pc_has8, pc_call8, pc_fr8, pc_has9, pc_call9, pc_fr9, pc_has10, pc_call10, pc_fr10, pc_has11, pc_call11, pc_fr11, pc_has12, pc_call12, pc_fr12, pc_has13, pc_call13, pc_fr13, pc_has14, pc_call14, pc_fr14, pc_has15, pc_call15, pc_fr15, pc_has16, pc_call16, pc_fr16, pc_has17, pc_call17, pc_fr17, pc_has18, pc_call18, pc_fr18, pc_glb20, pc_glb19, pc_glb21, pc_glb22, pc_cdt22, pl_has0, pl_call0, pl_fr0, pl_has1, pl_call1, pl_fr1, pl_has2, pl_call2, pl_fr2, pl_has3, pl_call3, pl_fr3, pl_has4, pl_call4, pl_fr4, pl_has5, pl_call5, pl_fr5, pl_has6, pl_call6, pl_fr6, pl_has7, pl_call7, pl_fr7, pl_has8, pl_call8, pl_fr8, pl_has9, pl_call9, pl_fr9, pl_has10, pl_call10, pl_fr10, pl_has11, pl_call11, pl_fr11, pl_has12, pl_call12, pl_fr12, pl_has13, pl_call13, pl_fr13, pl_has14, pl_call14, pl_fr14, pl_has15, pl_call15, pl_fr15, pl_has16, pl_call16, pl_fr16, pl_has17, pl_call17, pl_fr17, pl_has18, pl_call18, pl_fr18, pl_glb20, pl_glb19, pl_glb21, pl_glb22, pl_cdt22, pisi_d hv, tyP, h0, pne_tup0, List.isEmpty_nil, pblt, pseq, pslc, cl, h2, h1, padd_tup a1, padd_tup a2, c1, h9, e1, pget_lst, hat]
      | cons x xs =>
        obtain ⟨c, σ1, e1, c0, c1', P1⟩ := e_take k z 3 σ hP (by omega) (by decide) (by decide)
        by_cases hc : 0 < c
        · obtain ⟨i, σ2, e2, i0, i1, P2⟩ := e_take k (z + 1) ((x :: xs).length : Int) σ1 P1 (by omega) (by simp only [List.length_cons]; omega) (by omega)
          obtain ⟨j, rfl⟩ : ∃ j : Nat, i = j := ⟨i.toNat, by omega⟩
          have hj : j < (x :: xs).length := by omega
          have hat : L2.atI (x :: xs) (j : Int) = some (x :: xs)[j] := by rw [at_nat _ _ hj, List.getElem?_eq_getElem hj]
          have hm : (x :: xs)[j] ∈ x :: xs := List.getElem_mem hj
          have hwm := wtVs_mem hm
          have hsp : Th n (wtV (x :: xs)[j]) (x :: xs)[j] = true := by
            rw [th_iff]
            have := deps_mem hm
            exact ⟨gvs_mem g _ hm, by omega, by omega⟩
          obtain ⟨y, σ3, e3, hy, P3⟩ := ih (k + 1) (wtV (x :: xs)[j]) (z + 1 + 1) (x :: xs)[j] σ2 (by omega) hsp (by omega) P2 (by omega)
          have td := take_drop3 (x :: xs) j hj
          generalize hA : (x :: xs).take j = A at *
          generalize hB : (x :: xs).drop (j + 1) = B at *
          have b1 : A.length + [y].length ≤ sizeLine := by
            have : A.length ≤ (x :: xs).length := by rw [← hA, List.length_take]; omega
            simp only [List.length_cons, List.length_nil] at *; omega
          have b2 : (A ++ [y]).length + B.length ≤ sizeLine := by
            have : A.length ≤ (x :: xs).length := by rw [← hA, List.length_take]; omega
            have : B.length ≤ (x :: xs).length := by rw [← hB, List.length_drop]; omega
            simp only [List.length_append, List.length_cons, List.length_nil] at *; omega
          have ct : cut (x :: xs) none (some (j : Int)) = A := by rw [cut_to _ _ (by omega), hA]
          have cf : cut (x :: xs) (some ((j : Int) + 1)) none = B := by
            have := cut_from (x :: xs) (j + 1) (by omega)
            rw [hB] at this
            exact_mod_cast this
          refine ⟨.tup (A ++ [y] ++ B), σ3, ?_, ?_, P3.mono (by omega)⟩
          · simp only [↓pev_comp, ↓pex_for, ↓pex_whl, pexs, pex, pev, pevs, ppks, pevi, pevo, ptst, pevp, plook, psrc_str, psrc_tup, psrc_lst, List.map, List.replicate, List.cons_append, List.nil_append, Nat.sub_self, List.append_nil, Nat.reduceSub, Nat.reduceAdd, List.getElem?_cons_zero, List.getElem?_cons_succ, pbd_rt, pbd_ok, pbd_none, pup_some, pup_none, Option.map_some, Option.map_none, Option.isNone_none, Option.isNone_some, psE_rt, psE_ok, psE_none, psQ_nx, psQ_rt, psQ_bk, psQ_ct, pnoex_rt, if_true, if_false, Bool.false_eq_true, Bool.true_and, Bool.and_true, Bool.false_and, Bool.and_false, Bool.true_or, Bool.false_or, ne_eq, reduceCtorEq, not_false_eq_true, List.set_cons_zero, List.set_cons_succ, pendOf_rt, pendOf_nx, ptru_bl, ptru_int, Bool.not_true, Bool.not_false, Bool.and_self, Bool.or_false, Bool.or_true, not_true_eq_false, ptg, pwipe, pmE_call, pmE_app, pmE_ext, pmE_ins, pmE_clr, frE_lst, frE_list, frE_dict, frE_comp, frE_dct, frE_itl, frE_slc, frE_add, frE_spl, frE_call, frE_ite, isLD, List.all_cons, List.all_nil, Nat.reduceBEq, Nat.reduceEqDiff, Int.reduceEq, Int.reduceLT, Int.reduceLE, Int.reduceNeg, Int.reduceAdd, Int.reduceSub, reduceIte, decide_true, decide_false, Option.some.injEq, isV_var, isV_int, isV_str, isV_bl, isV_non, isV_glb, isV_tup, isV_lst, isV_bin, isV_neg, isV_cmp, isV_chn, isV_and, isV_or, isV_not, isV_ite, isV_idx, isV_slc, isV_call, isV_blt, isV_isi, isV_mth, isV_exf, isV_comp, isV_dct, isV_itl, tupE_var, tupE_int, tupE_str, tupE_bl, tupE_non, tupE_glb, tupE_tup, tupE_lst, tupE_bin, tupE_neg, tupE_cmp, tupE_chn, tupE_and, tupE_or, tupE_not, tupE_ite, tupE_idx, tupE_slc, tupE_call, tupE_blt, tupE_isi, tupE_mth, tupE_exf, tupE_comp, tupE_dct, tupE_itl, pc_calm, pc_exn, pc_free, pc_wf, pl_calm, pl_exn, pl_free, pl_wf, pc_pu, pl_pu, pc0_own, pc0_mf, pc1_own, pc1_mf, pc2_own, pc2_mf, pc3_own, pc3_mf, pc4_own, pc4_mf, pc5_own, pc5_mf, pc6_own, pc6_mf, pc7_own, pc7_mf, pc8_own, pc8_mf, pc9_own, pc9_mf, pc10_own, pc10_mf, pc11_own, pc11_mf, pc12_own, pc12_mf, pc13_own, pc13_mf, pc14_own, pc14_mf, pc15_own, pc15_mf, pc16_own, pc16_mf, pc17_own, pc17_mf, pc18_own, pc18_mf, pl18_own, pl18_mf, pc_has0, pc_call0, pc_fr0, pc_has1, pc_call1, pc_fr1, pc_has2, pc_call2, pc_fr2, pc_has3, pc_call3, pc_fr3, pc_has4, pc_call4, pc_fr4, pc_has5, pc_call5, pc_fr5, pc_has6, pc_call6, pc_fr6, pc_has7, pc_call7, pc_fr7, pc_has8, pc_call8, pc_fr8, pc_has9, pc_call9, pc_fr9, pc_has10, pc_call10, pc_fr10, pc_has11, pc_call11, pc_fr11, pc_has12, pc_call12, pc_fr12, pc_has13, pc_call13, pc_fr13, pc_has14, pc_call14, pc_fr14, pc_has15, pc_call15, pc_fr15, pc_has16, pc_call16, pc_fr16, pc_has17, pc_call17, pc_fr17, pc_has18, pc_call18, pc_fr18, pc_glb20, pc_glb19, pc_glb21, pc_glb22, pc_cdt22, pl_has0, pl_call0, pl_fr0, pl_has1, pl_call1, pl_fr1, pl_has2, pl_call2, pl_fr2, pl_has3, pl_call3, pl_fr3, pl_has4, pl_call4, pl_fr4, pl_has5, pl_call5, pl_fr5, pl_has6, pl_call6, pl_fr6, pl_has7, pl_call7, pl_fr7, pl_has8, pl_call8, pl_fr8, pl_has9, pl_call9, pl_fr9, pl_has10, pl_call10, pl_fr10, pl_has11, pl_call11, pl_fr11, pl_has12, pl_call12, pl_fr12, pl_has13, pl_call13, pl_fr13, pl_has14, pl_call14, pl_fr14, pl_has15, pl_call15, pl_fr15, pl_has16, pl_call16, pl_fr16, pl_has17, pl_call17, pl_fr17, pl_has18, pl_call18, pl_fr18, pl_glb20, pl_glb19, pl_glb21, pl_glb22, pl_cdt22, pisi_d hv, tyP, h0, pne_tup0, List.isEmpty_cons, e1, pgt_int, hc, plen_tup, e2, pslc, ct, pget_tup, hat, e3, h1, padd_tup b1, padd_int, cf, padd_tup b2]
          · rw [th_iff] at hy
            rw [td] at g d w
            rw [th_tup]
            simp only [gvs_app, deps_app, wtVs_app, gvs, deps, wtVs, Bool.and_eq_true, Bool.and_true] at g d w ⊢
            exact ⟨⟨⟨g.1.1, hy.1⟩, g.2⟩, by omega, by omega⟩
        · obtain ⟨v', σ', _, u, e2, hat, h', P⟩ := second σ1 (z + 1) P1 (by omega)
          refine ⟨v', σ', ?_, h', P.mono (by omega)⟩
          simp only [List.cons_append] at hat
          simp only [↓pev_comp, ↓pex_for, ↓pex_whl, pexs, pex, pev, pevs, ppks, pevi, pevo, ptst, pevp, plook, psrc_str, psrc_tup, psrc_lst, List.map, List.replicate, List.cons_append, List.nil_append, Nat.sub_self, List.append_nil, Nat.reduceSub, Nat.reduceAdd, List.getElem?_cons_zero, List.getElem?_cons_succ, pbd_rt, pbd_ok, pbd_none, pup_some, pup_none, Option.map_some, Option.map_none, Option.isNone_none, Option.isNone_some, psE_rt, psE_ok, psE_none, psQ_nx, psQ_rt, psQ_bk, psQ_ct, pnoex_rt, if_true, if_false, Bool.false_eq_true, Bool.true_and, Bool.and_true, Bool.false_and, Bool.and_false, Bool.true_or, Bool.false_or, ne_eq, reduceCtorEq, not_false_eq_true, List.set_cons_zero, List.set_cons_succ, pendOf_rt, pendOf_nx, ptru_bl, ptru_int, Bool.not_true, Bool.not_false, Bool.and_self, Bool.or_false, Bool.or_true, not_true_eq_false, ptg, pwipe, pmE_call, pmE_app, pmE_ext, pmE_ins, pmE_clr, frE_lst, frE_list, frE_dict, frE_comp, frE_dct, frE_itl, frE_slc, frE_add, frE_spl, frE_call, frE_ite, isLD, List.all_cons, List.all_nil, Nat.reduceBEq, Nat.reduceEqDiff, Int.reduceEq, Int.reduceLT, Int.reduceLE, Int.reduceNeg, Int.reduceAdd, Int.reduceSub, reduceIte, decide_true, decide_false, Option.some.injEq, isV_var, isV_int, isV_str, isV_bl, isV_non, isV_glb, isV_tup, isV_lst, isV_bin, isV_neg, isV_cmp, isV_chn, isV_and, isV_or, isV_not, isV_ite, isV_idx, isV_slc, isV_call, isV_blt, isV_isi, isV_mth, isV_exf, isV_comp, isV_dct, isV_itl, tupE_var, tupE_int, tupE_str, tupE_bl, tupE_non, tupE_glb, tupE_tup, tupE_lst, tupE_bin, tupE_neg, tupE_cmp, tupE_chn, tupE_and, tupE_or, tupE_not, tupE_ite, tupE_idx, tupE_slc, tupE_call, tupE_blt, tupE_isi, tupE_mth, tupE_exf, tupE_comp, tupE_dct, tupE_itl, pc_calm, pc_exn, pc_free, pc_wf, pl_calm, pl_exn, pl_free, pl_wf, pc_pu, pl_pu, pc0_own, pc0_mf, pc1_own, pc1_mf, pc2_own, pc2_mf, pc3_own, pc3_mf, pc4_own, pc4_mf, pc5_own, pc5_mf, pc6_own, pc6_mf, pc7_own, pc7_mf, pc8_own, pc8_mf, pc9_own, pc9_mf, pc10_own, pc10_mf, pc11_own, pc11_mf, pc12_own, pc12_mf, pc13_own, pc13_mf, pc14_own, pc14_mf, pc15_own, pc15_mf, pc16_own, pc16_mf, pc17_own, pc17_mf, pc18_own, pc18_mf, pl18_own, pl18_mf, pc_has0, pc_call0, pc_fr0, pc_has1, pc_call1, pc_fr1, pc_has2, pc_call2, pc_fr2, pc_has3, pc_call3, pc_fr3, pc_has4, pc_call4, pc_fr4, pc_has5, pc_call5, pc_fr5, pc_has6, pc_call6, pc_fr6, pc_has7, pc_call7, pc_fr7, pc_has8, pc_call8, pc_fr8, pc_has9, pc_call9, pc_fr9, pc_has10, pc_call10, pc_fr10, pc_has11, pc_call11, pc_fr11, pc_has12, pc_call12, pc_fr12, pc_has13, pc_call13, pc_fr13, pc_has14, pc_call14, pc_fr14, pc_has15, pc_call15, pc_fr15, pc_has16, pc_call16, pc_fr16, pc_has17, pc_call17, pc_fr17, pc_has18, pc_call18, pc_fr18, pc_glb20, pc_glb19, pc_glb21, pc_glb22, pc_cdt22, pl_has0, pl_call0, pl_fr0, pl_has1, pl_call1, pl_fr1, pl_has2, pl_call2, pl_fr2, pl_has3, pl_call3, pl_fr3, pl_has4, pl_call4, pl_fr4, pl_has5, pl_call5, pl_fr5, pl_has6, pl_call6, pl_fr6, pl_has7, pl_call7, pl_fr7, pl_has8, pl_call8, pl_fr8, pl_has9, pl_call9, pl_fr9, pl_has10, pl_call10, pl_fr10, pl_has11, pl_call11, pl_fr11, pl_has12, pl_call12, pl_fr12, pl_has13, pl_call13, pl_fr13, pl_has14, pl_call14, pl_fr14, pl_has15, pl_call15, pl_fr15, pl_has16, pl_call16, pl_fr16, pl_has17, pl_call17, pl_fr17, pl_has18, pl_call18, pl_fr18, pl_glb20, pl_glb19, pl_glb21, pl_glb22, pl_cdt22, pisi_d hv, tyP, h0, pne_tup0, List.isEmpty_cons, e1, pgt_int, hc, pblt, pseq, pslc, cl, h2, h1, padd_tup a1, padd_tup a2, c1, h9, e2, pget_lst, hat]
end K01
set_option linter.all false
set_option maxRecDepth 100000
set_option maxHeartbeats 8000000
namespace K01
open PySem PySem.Spec Mi
def TH1 : List V := [.str "a", .str "abcdefgh", .str "abcdefghi", .str "", .str "all", .str "fun", .str "same", .str "self", .str "put", .str "alls", .str "A", .str "a1", .str "a b", .str "z"]
def TH2 : List V := [.str "a_b", .str "_", .str "a{", .str "`a"]
def TH3 : List V := [.tup [], .tup [.int 0], .tup [.int 0, .int 1, .int 2], .tup [.int (-1)], .tup [.bl true], .lst [.int 0], .tup [.int 0, .str "0"], .tup [.int (10 ^ 29)], .tup [.tup []], .non]
def TH4 : List V := [.bl true, .int 0, .int 5, .int (-1), .int (10 ^ 29), .str "at", .lst [.str "at", .int 0], .tup [.str "at"], .tup [.str "at", .int 0, .int 0], .dct [], .dct [(.inr "at", .int 0)]]
theorem th1_fold : ([.str "a", .str "abcdefgh", .str "abcdefghi", .str "", .str "all", .str "fun", .str "same", .str "self", .str "put", .str "alls", .str "A", .str "a1", .str "a b", .str "z"] : List V) = TH1 := rfl
theorem th2_fold : ([.str "a_b", .str "_", .str "a{", .str "`a"] : List V) = TH2 := rfl
theorem th3_fold : ([.tup [], .tup [.int 0], .tup [.int 0, .int 1, .int 2], .tup [.int (-1)], .tup [.bl true], .lst [.int 0], .tup [.int 0, .str "0"], .tup [.int (10 ^ 29)], .tup [.tup []], .non] : List V) = TH3 := rfl
theorem th4_fold : ([.bl true, .int 0, .int 5, .int (-1), .int (10 ^ 29), .str "at", .lst [.str "at", .int 0], .tup [.str "at"], .tup [.str "at", .int 0, .int 0], .dct [], .dct [(.inr "at", .int 0)]] : List V) = TH4 := rfl
theorem th12_ok : (TH1 ++ TH2).all (Th 3 1500) = true := by decide +kernel
theorem th34_ok : (TH3 ++ TH4).all (Th 3 1500) = true := by decide +kernel
theorem pow29 : pbin .pow (.int 10) (.int 29) = some (.int (10 ^ 29)) := by
  simp only [pbin]; rw [if_pos (by decide)]; rfl
theorem mg1 : pmerge [] [((Sum.inr ("at" : Str) : L2.Key), V.int 0)] = [(Sum.inr ("at" : Str), V.int 0)] := by kernel_rfl
theorem e_things (k : Nat) (z : Int) (σ : PS) (hP : PuOk z σ) (hz : z < 900000000) : ∃ (l : List V) (σ' : PS), Mi.pv T D (k + 2) 17 [.prs] σ = prt (.lst l) σ' ∧ l.all (Th 3 1500) = true ∧ l.length = 22 ∧ PuOk (z + 1) σ' := by
  rw [pv_s (k + 1) 17 _ σ m_law_things rfl rfl rfl]
  obtain ⟨u, σ1, e1, u0, u1, P1⟩ := e_take k z 18 σ hP (by omega) (by decide) (by decide)
  obtain ⟨x, hx, hat⟩ := odd_get (l := TH1 ++ TH2) u0 u1
  refine ⟨x :: (TH3 ++ TH4), σ1, ?_, ?_, rfl, P1⟩
  · simp only [m_law_things]
    have z1 : TH1.length ≤ sizeLine := by decide +kernel
    have z2 : TH2.length ≤ sizeLine := by decide +kernel
    have z3 : TH1.length + TH2.length ≤ sizeLine := by decide +kernel
    have z4 : (x :: TH3).length ≤ sizeLine := by show 11 ≤ sizeLine; decide
    have z5 : TH4.length ≤ sizeLine := by decide +kernel
    have z6 : (x :: TH3).length + TH4.length ≤ sizeLine := by show 11 + 11 ≤ sizeLine; decide
    have q0 : ([] : List V).length ≤ sizeLine := Nat.zero_le _
    have q1 : ∀ a : V, [a].length ≤ sizeLine := fun _ => by show 1 ≤ sizeLine; decide
    have q2 : ∀ a b : V, [a, b].length ≤ sizeLine := fun _ _ => by show 2 ≤ sizeLine; decide
    have q3 : ∀ a b c : V, [a, b, c].length ≤ sizeLine := fun _ _ _ => by show 3 ≤ sizeLine; decide
    have h1 : [((Sum.inr ("at" : Str) : L2.Key), V.int 0)].length ≤ 15 := by decide +kernel
    simp only [↓pev_comp, ↓pex_for, ↓pex_whl, pexs, pex, pev, pevs, ppks, pevi, pevo, ptst, pevp, plook, psrc_str, psrc_tup, psrc_lst, List.map, List.replicate, List.cons_append, List.nil_append, Nat.sub_self, List.append_nil, Nat.reduceSub, Nat.reduceAdd, List.getElem?_cons_zero, List.getElem?_cons_succ, pbd_rt, pbd_ok, pbd_none, pup_some, pup_none, Option.map_some, Option.map_none, Option.isNone_none, Option.isNone_some, psE_rt, psE_ok, psE_none, psQ_nx, psQ_rt, psQ_bk, psQ_ct, pnoex_rt, if_true, if_false, Bool.false_eq_true, Bool.true_and, Bool.and_true, Bool.false_and, Bool.and_false, Bool.true_or, Bool.false_or, ne_eq, reduceCtorEq, not_false_eq_true, List.set_cons_zero, List.set_cons_succ, pendOf_rt, pendOf_nx, ptru_bl, ptru_int, Bool.not_true, Bool.not_false, Bool.and_self, Bool.or_false, Bool.or_true, not_true_eq_false, ptg, pwipe, pmE_call, pmE_app, pmE_ext, pmE_ins, pmE_clr, frE_lst, frE_list, frE_dict, frE_comp, frE_dct, frE_itl, frE_slc, frE_add, frE_spl, frE_call, frE_ite, isLD, List.all_cons, List.all_nil, Nat.reduceBEq, Nat.reduceEqDiff, Int.reduceEq, Int.reduceLT, Int.reduceLE, Int.reduceNeg, Int.reduceAdd, Int.reduceSub, reduceIte, decide_true, decide_false, Option.some.injEq, isV_var, isV_int, isV_str, isV_bl, isV_non, isV_glb, isV_tup, isV_lst, isV_bin, isV_neg, isV_cmp, isV_chn, isV_and, isV_or, isV_not, isV_ite, isV_idx, isV_slc, isV_call, isV_blt, isV_isi, isV_mth, isV_exf, isV_comp, isV_dct, isV_itl, tupE_var, tupE_int, tupE_str, tupE_bl, tupE_non, tupE_glb, tupE_tup, tupE_lst, tupE_bin, tupE_neg, tupE_cmp, tupE_chn, tupE_and, tupE_or, tupE_not, tupE_ite, tupE_idx, tupE_slc, tupE_call, tupE_blt, tupE_isi, tupE_mth, tupE_exf, tupE_comp, tupE_dct, tupE_itl, pc_calm, pc_exn, pc_free, pc_wf, pl_calm, pl_exn, pl_free, pl_wf, pc_pu, pl_pu, pc0_own, pc0_mf, pc1_own, pc1_mf, pc2_own, pc2_mf, pc3_own, pc3_mf, pc4_own, pc4_mf, pc5_own, pc5_mf, pc6_own, pc6_mf, pc7_own, pc7_mf, pc8_own, pc8_mf, pc9_own, pc9_mf, pc10_own, pc10_mf, pc11_own, pc11_mf, pc12_own, pc12_mf, pc13_own, pc13_mf, pc14_own, pc14_mf, pc15_own, pc15_mf, pc16_own, pc16_mf, pc17_own, pc17_mf, pc18_own, pc18_mf, pl18_own, pl18_mf, pc_has0, pc_call0, pc_fr0, pc_has1, pc_call1, pc_fr1, pc_has2, pc_call2, pc_fr2, pc_has3, pc_call3, pc_fr3, pc_has4, pc_call4, pc_fr4, pc_has5, pc_call5, pc_fr5, pc_has6, pc_call6, pc_fr6, pc_has7, pc_call7, pc_fr7, pc_has8, pc_call8, pc_fr8, pc_has9, pc_call9, pc_fr9, pc_has10, pc_call10, pc_fr10, pc_has11, pc_call11, pc_fr11, pc_has12, pc_call12, pc_fr12, pc_has13, pc_call13, pc_fr13, pc_has14, pc_call14, pc_fr14, pc_has15, pc_call15, pc_fr15, pc_has16, pc_call16, pc_fr16, pc_has17, pc_call17, pc_fr17, pc_has18, pc_call18, pc_fr18, pc_glb20, pc_glb19, pc_glb21, pc_glb22, pc_cdt22, pl_has0, pl_call0, pl_fr0, pl_has1, pl_call1, pl_fr1, pl_has2, pl_call2, pl_fr2, pl_has3, pl_call3, pl_fr3, pl_has4, pl_call4, pl_fr4, pl_has5, pl_call5, pl_fr5, pl_has6, pl_call6, pl_fr6, pl_has7, pl_call7, pl_fr7, pl_has8, pl_call8, pl_fr8, pl_has9, pl_call9, pl_fr9, pl_has10, pl_call10, pl_fr10, pl_has11, pl_call11, pl_fr11, pl_has12, pl_call12, pl_fr12, pl_has13, pl_call13, pl_fr13, pl_has14, pl_call14, pl_fr14, pl_has15, pl_call15, pl_fr15, pl_has16, pl_call16, pl_fr16, pl_has17, pl_call17, pl_fr17, pl_has18, pl_call18, pl_fr18, pl_glb20, pl_glb19, pl_glb21, pl_glb22, pl_cdt22, th1_fold, th2_fold, z1, z2, padd_lst z3, e1, pget_lst, hat, q0, q1, q2, q3, pow29, th3_fold, z4, pkeys, keyV, h1, mg1, th4_fold, z5, padd_lst z6]
  · rw [List.all_cons, List.all_eq_true.mp th12_ok x hx, th34_ok]; rfl
mutual
theorem gv_noPr : ∀ {v : V}, gv v = true → noPr v = true
  | .non, _ => rfl
  | .bl _, _ => rfl
  | .int _, _ => rfl
  | .str _, _ => rfl
  | .tup xs, h => by simp only [gv] at h; simp only [noPr]; exact gvs_noPr h
  | .lst xs, h => by simp only [gv] at h; simp only [noPr]; exact gvs_noPr h
  | .dct xs, h => by simp only [gv] at h; simp only [noPr]; exact gvk_noPr h
  | .fl _, h => by simp [gv] at h
  | .nm _, h => by simp [gv] at h
  | .prs, h => by simp [gv] at h
  | .opl _, h => by simp [gv] at h
theorem gvs_noPr : ∀ {v : List V}, gvs v = true → noPrs v = true
  | [], _ => rfl
  | x :: xs, h => by simp only [gvs, Bool.and_eq_true] at h; simp only [noPrs, gv_noPr h.1, gvs_noPr h.2, Bool.and_self]
theorem gvk_noPr : ∀ {v : List (L2.Key × V)}, gvk v = true → noPrk v = true
  | [], _ => rfl
  | (k, x) :: xs, h => by simp only [gvk, Bool.and_eq_true] at h; simp only [noPrk, gv_noPr h.1.2, gvk_noPr h.2, Bool.and_self]
end
def bodyO : MSs := forB (nthS m_law.body 0)
def bodyI : MSs := forB (nthS bodyO 5)
theorem bl4 (a b c d : Bool) : gv (.lst [.bl a, .bl b, .bl c, .bl d]) = true ∧ dep (.lst [.bl a, .bl b, .bl c, .bl d]) ≤ FU ∧ wtV (.lst [.bl a, .bl b, .bl c, .bl d]) ≤ sizeLine := ⟨rfl, by decide +revert, by decide +revert⟩
theorem inner_ok (k : Nat) (hk : 160 ≤ k) (v : V) (lo hi : Int) (σ : PS) (hv : Th 70 1900000 v = true) (r0 r1 r2 r3 r4 r5 r9 r10 r11 r12 r13 : Option V) :
    ∃ s9 s10 s11 s12, pbodyF (PL k) T.excs bodyI [r0, r1, r2, r3, r4, r5, some v, some (.int lo), some (.int hi), r9, r10, r11, r12, r13] σ = some (.nx [r0, r1, r2, r3, r4, r5, some v, some (.int lo), some (.int hi), s9, s10, s11, s12, r13] σ) := by
  rw [th_iff] at hv
  obtain ⟨g, d, w⟩ := hv
  have hD := gv_isD g
  obtain ⟨k, rfl⟩ : ∃ j, k = j + 2 := ⟨k - 2, by omega⟩
  have hsz : (1900000 : Nat) ≤ sizeLine := by decide
  have t1 := e_term 70 (k + 2) (by omega) v σ d g
  have t2 := e_term2 70 (k + 2) (by omega) v σ d g
  have n1 := e_name (k + 1) v σ hD (gv_str g)
  have n2 := e_name2 (k + 1) v σ hD (gv_str g)
  have hx : ∀ xs, v = .tup xs → xs.length ≤ sizeLine ∧ ∀ y ∈ xs, isD y = true := fun xs e => by
    subst e
    simp only [gv] at g
    simp only [wtV] at w
    have := wtVs_len xs
    exact ⟨by omega, fun y hy => gv_isD (gvs_mem g y hy)⟩
  have s1 := e_spot k v σ hD hx
  have w1 := e_whole (k + 1) v lo hi σ hD
  have w2 := e_whole2 (k + 1) v lo hi σ hD
  have rp := prepr (C := PL (k + 2)) g (Nat.le_trans d (by decide)) (by omega)
  have q0 : ([] : List V).length ≤ sizeLine := Nat.zero_le _
  have q4 : ∀ a b c d : V, [a, b, c, d].length ≤ sizeLine := fun _ _ _ _ => by show 4 ≤ sizeLine; decide
  obtain ⟨b1, b2, b3⟩ := bl4 (isT v) (nameV v) (spotV v) (wholeV v lo hi)
  have rb := prepr (C := PL (k + 2)) b1 b2 b3
  refine ⟨some (.str (toD v).shown), some (.bl (spotV v)), some (.lst [.bl (isT v), .bl (nameV v), .bl (spotV v), .bl (wholeV v lo hi)]), some (.lst [.bl (isT v), .bl (nameV v), .bl (spotV v), .bl (wholeV v lo hi)]), ?_⟩
  simp only [pbodyF, bodyI, bodyO, nthS, forB, m_law]
  cases hty : tyP v .tuple with
  | false =>
    have hs : spotV v = false := by cases v <;> first | rfl | (simp [tyP] at hty)
    rw [hs] at rb s1
    simp only [hs]
    simp only [↓pev_comp, ↓pex_for, ↓pex_whl, pexs, pex, pev, pevs, ppks, pevi, pevo, ptst, pevp, plook, psrc_str, psrc_tup, psrc_lst, List.map, List.replicate, List.cons_append, List.nil_append, Nat.sub_self, List.append_nil, Nat.reduceSub, Nat.reduceAdd, List.getElem?_cons_zero, List.getElem?_cons_succ, pbd_rt, pbd_ok, pbd_none, pup_some, pup_none, Option.map_some, Option.map_none, Option.isNone_none, Option.isNone_some, psE_rt, psE_ok, psE_none, psQ_nx, psQ_rt, psQ_bk, psQ_ct, pnoex_rt, if_true, if_false, Bool.false_eq_true, Bool.true_and, Bool.and_true, Bool.false_and, Bool.and_false, Bool.true_or, Bool.false_or, ne_eq, reduceCtorEq, not_false_eq_true, List.set_cons_zero, List.set_cons_succ, pendOf_rt, pendOf_nx, ptru_bl, ptru_int, Bool.not_true, Bool.not_false, Bool.and_self, Bool.or_false, Bool.or_true, not_true_eq_false, ptg, pwipe, pmE_call, pmE_app, pmE_ext, pmE_ins, pmE_clr, frE_lst, frE_list, frE_dict, frE_comp, frE_dct, frE_itl, frE_slc, frE_add, frE_spl, frE_call, frE_ite, isLD, List.all_cons, List.all_nil, Nat.reduceBEq, Nat.reduceEqDiff, Int.reduceEq, Int.reduceLT, Int.reduceLE, Int.reduceNeg, Int.reduceAdd, Int.reduceSub, reduceIte, decide_true, decide_false, Option.some.injEq, isV_var, isV_int, isV_str, isV_bl, isV_non, isV_glb, isV_tup, isV_lst, isV_bin, isV_neg, isV_cmp, isV_chn, isV_and, isV_or, isV_not, isV_ite, isV_idx, isV_slc, isV_call, isV_blt, isV_isi, isV_mth, isV_exf, isV_comp, isV_dct, isV_itl, tupE_var, tupE_int, tupE_str, tupE_bl, tupE_non, tupE_glb, tupE_tup, tupE_lst, tupE_bin, tupE_neg, tupE_cmp, tupE_chn, tupE_and, tupE_or, tupE_not, tupE_ite, tupE_idx, tupE_slc, tupE_call, tupE_blt, tupE_isi, tupE_mth, tupE_exf, tupE_comp, tupE_dct, tupE_itl, pc_calm, pc_exn, pc_free, pc_wf, pl_calm, pl_exn, pl_free, pl_wf, pc_pu, pl_pu, pc0_own, pc0_mf, pc1_own, pc1_mf, pc2_own, pc2_mf, pc3_own, pc3_mf, pc4_own, pc4_mf, pc5_own, pc5_mf, pc6_own, pc6_mf, pc7_own, pc7_mf, pc8_own, pc8_mf, pc9_own, pc9_mf, pc10_own, pc10_mf, pc11_own, pc11_mf, pc12_own, pc12_mf, pc13_own, pc13_mf, pc14_own, pc14_mf, pc15_own, pc15_mf, pc16_own, pc16_mf, pc17_own, pc17_mf, pc18_own, pc18_mf, pl18_own, pl18_mf, pc_has0, pc_call0, pc_fr0, pc_has1, pc_call1, pc_fr1, pc_has2, pc_call2, pc_fr2, pc_has3, pc_call3, pc_fr3, pc_has4, pc_call4, pc_fr4, pc_has5, pc_call5, pc_fr5, pc_has6, pc_call6, pc_fr6, pc_has7, pc_call7, pc_fr7, pc_has8, pc_call8, pc_fr8, pc_has9, pc_call9, pc_fr9, pc_has10, pc_call10, pc_fr10, pc_has11, pc_call11, pc_fr11, pc_has12, pc_call12, pc_fr12, pc_has13, pc_call13, pc_fr13, pc_has14, pc_call14, pc_fr14, pc_has15, pc_call15, pc_fr15, pc_has16, pc_call16, pc_fr16, pc_has17, pc_call17, pc_fr17, pc_has18, pc_call18, pc_fr18, pc_glb20, pc_glb19, pc_glb21, pc_glb22, pc_cdt22, pl_has0, pl_call0, pl_fr0, pl_has1, pl_call1, pl_fr1, pl_has2, pl_call2, pl_fr2, pl_has3, pl_call3, pl_fr3, pl_has4, pl_call4, pl_fr4, pl_has5, pl_call5, pl_fr5, pl_has6, pl_call6, pl_fr6, pl_has7, pl_call7, pl_fr7, pl_has8, pl_call8, pl_fr8, pl_has9, pl_call9, pl_fr9, pl_has10, pl_call10, pl_fr10, pl_has11, pl_call11, pl_fr11, pl_has12, pl_call12, pl_fr12, pl_has13, pl_call13, pl_fr13, pl_has14, pl_call14, pl_fr14, pl_has15, pl_call15, pl_fr15, pl_has16, pl_call16, pl_fr16, pl_has17, pl_call17, pl_fr17, pl_has18, pl_call18, pl_fr18, pl_glb20, pl_glb19, pl_glb21, pl_glb22, pl_cdt22, rp, pisi_d hD, hty, t2, n2, w2, q4, t1, n1, s1, w1, rb, pne_str]
  | true =>
    obtain ⟨xs, rfl⟩ := ty_tup.mp hty
    obtain ⟨hl, hy⟩ := hx xs rfl
    simp only [↓pev_comp, ↓pex_for, ↓pex_whl, pexs, pex, pev, pevs, ppks, pevi, pevo, ptst, pevp, plook, psrc_str, psrc_tup, psrc_lst, List.map, List.replicate, List.cons_append, List.nil_append, Nat.sub_self, List.append_nil, Nat.reduceSub, Nat.reduceAdd, List.getElem?_cons_zero, List.getElem?_cons_succ, pbd_rt, pbd_ok, pbd_none, pup_some, pup_none, Option.map_some, Option.map_none, Option.isNone_none, Option.isNone_some, psE_rt, psE_ok, psE_none, psQ_nx, psQ_rt, psQ_bk, psQ_ct, pnoex_rt, if_true, if_false, Bool.false_eq_true, Bool.true_and, Bool.and_true, Bool.false_and, Bool.and_false, Bool.true_or, Bool.false_or, ne_eq, reduceCtorEq, not_false_eq_true, List.set_cons_zero, List.set_cons_succ, pendOf_rt, pendOf_nx, ptru_bl, ptru_int, Bool.not_true, Bool.not_false, Bool.and_self, Bool.or_false, Bool.or_true, not_true_eq_false, ptg, pwipe, pmE_call, pmE_app, pmE_ext, pmE_ins, pmE_clr, frE_lst, frE_list, frE_dict, frE_comp, frE_dct, frE_itl, frE_slc, frE_add, frE_spl, frE_call, frE_ite, isLD, List.all_cons, List.all_nil, Nat.reduceBEq, Nat.reduceEqDiff, Int.reduceEq, Int.reduceLT, Int.reduceLE, Int.reduceNeg, Int.reduceAdd, Int.reduceSub, reduceIte, decide_true, decide_false, Option.some.injEq, isV_var, isV_int, isV_str, isV_bl, isV_non, isV_glb, isV_tup, isV_lst, isV_bin, isV_neg, isV_cmp, isV_chn, isV_and, isV_or, isV_not, isV_ite, isV_idx, isV_slc, isV_call, isV_blt, isV_isi, isV_mth, isV_exf, isV_comp, isV_dct, isV_itl, tupE_var, tupE_int, tupE_str, tupE_bl, tupE_non, tupE_glb, tupE_tup, tupE_lst, tupE_bin, tupE_neg, tupE_cmp, tupE_chn, tupE_and, tupE_or, tupE_not, tupE_ite, tupE_idx, tupE_slc, tupE_call, tupE_blt, tupE_isi, tupE_mth, tupE_exf, tupE_comp, tupE_dct, tupE_itl, pc_calm, pc_exn, pc_free, pc_wf, pl_calm, pl_exn, pl_free, pl_wf, pc_pu, pl_pu, pc0_own, pc0_mf, pc1_own, pc1_mf, pc2_own, pc2_mf, pc3_own, pc3_mf, pc4_own, pc4_mf, pc5_own, pc5_mf, pc6_own, pc6_mf, pc7_own, pc7_mf, pc8_own, pc8_mf, pc9_own, pc9_mf, pc10_own, pc10_mf, pc11_own, pc11_mf, pc12_own, pc12_mf, pc13_own, pc13_mf, pc14_own, pc14_mf, pc15_own, pc15_mf, pc16_own, pc16_mf, pc17_own, pc17_mf, pc18_own, pc18_mf, pl18_own, pl18_mf, pc_has0, pc_call0, pc_fr0, pc_has1, pc_call1, pc_fr1, pc_has2, pc_call2, pc_fr2, pc_has3, pc_call3, pc_fr3, pc_has4, pc_call4, pc_fr4, pc_has5, pc_call5, pc_fr5, pc_has6, pc_call6, pc_fr6, pc_has7, pc_call7, pc_fr7, pc_has8, pc_call8, pc_fr8, pc_has9, pc_call9, pc_fr9, pc_has10, pc_call10, pc_fr10, pc_has11, pc_call11, pc_fr11, pc_has12, pc_call12, pc_fr12, pc_has13, pc_call13, pc_fr13, pc_has14, pc_call14, pc_fr14, pc_has15, pc_call15, pc_fr15, pc_has16, pc_call16, pc_fr16, pc_has17, pc_call17, pc_fr17, pc_has18, pc_call18, pc_fr18, pc_glb20, pc_glb19, pc_glb21, pc_glb22, pc_cdt22, pl_has0, pl_call0, pl_fr0, pl_has1, pl_call1, pl_fr1, pl_has2, pl_call2, pl_fr2, pl_has3, pl_call3, pl_fr3, pl_has4, pl_call4, pl_fr4, pl_has5, pl_call5, pl_fr5, pl_has6, pl_call6, pl_fr6, pl_has7, pl_call7, pl_fr7, pl_has8, pl_call8, pl_fr8, pl_has9, pl_call9, pl_fr9, pl_has10, pl_call10, pl_fr10, pl_has11, pl_call11, pl_fr11, pl_has12, pl_call12, pl_fr12, pl_has13, pl_call13, pl_fr13, pl_has14, pl_call14, pl_fr14, pl_has15, pl_call15, pl_fr15, pl_has16, pl_call16, pl_fr16, pl_has17, pl_call17, pl_fr17, pl_has18, pl_call18, pl_fr18, pl_glb20, pl_glb19, pl_glb21, pl_glb22, pl_cdt22, rp, pisi_d hD, hty]
    have := pcomp_flt (F := pcmpF (PL (k + 2)) (.var 13) (.nm 13) (some (.not (.call 14 (.cons (.var 13) (.cons (.int 0) (.cons (.bin .pow (.int 10) (.int 31)) .nil)))))) [r0, r1, r2, r3, r4, r5, some (.tup xs), some (.int lo), some (.int hi), some (.str (toD (.tup xs)).shown), r10, r11, r12, none]) id (fun y => !numV y) (l := xs) (n := 0) (σ := σ) (by omega) (fun y hyy => by
      have gy : gv y = true := gvs_mem (by simpa only [gv] using g) y hyy
      simp only [pcmpF, id]
      simp only [↓pev_comp, ↓pex_for, ↓pex_whl, pexs, pex, pev, pevs, ppks, pevi, pevo, ptst, pevp, plook, psrc_str, psrc_tup, psrc_lst, List.map, List.replicate, List.cons_append, List.nil_append, Nat.sub_self, List.append_nil, Nat.reduceSub, Nat.reduceAdd, List.getElem?_cons_zero, List.getElem?_cons_succ, pbd_rt, pbd_ok, pbd_none, pup_some, pup_none, Option.map_some, Option.map_none, Option.isNone_none, Option.isNone_some, psE_rt, psE_ok, psE_none, psQ_nx, psQ_rt, psQ_bk, psQ_ct, pnoex_rt, if_true, if_false, Bool.false_eq_true, Bool.true_and, Bool.and_true, Bool.false_and, Bool.and_false, Bool.true_or, Bool.false_or, ne_eq, reduceCtorEq, not_false_eq_true, List.set_cons_zero, List.set_cons_succ, pendOf_rt, pendOf_nx, ptru_bl, ptru_int, Bool.not_true, Bool.not_false, Bool.and_self, Bool.or_false, Bool.or_true, not_true_eq_false, ptg, pwipe, pmE_call, pmE_app, pmE_ext, pmE_ins, pmE_clr, frE_lst, frE_list, frE_dict, frE_comp, frE_dct, frE_itl, frE_slc, frE_add, frE_spl, frE_call, frE_ite, isLD, List.all_cons, List.all_nil, Nat.reduceBEq, Nat.reduceEqDiff, Int.reduceEq, Int.reduceLT, Int.reduceLE, Int.reduceNeg, Int.reduceAdd, Int.reduceSub, reduceIte, decide_true, decide_false, Option.some.injEq, isV_var, isV_int, isV_str, isV_bl, isV_non, isV_glb, isV_tup, isV_lst, isV_bin, isV_neg, isV_cmp, isV_chn, isV_and, isV_or, isV_not, isV_ite, isV_idx, isV_slc, isV_call, isV_blt, isV_isi, isV_mth, isV_exf, isV_comp, isV_dct, isV_itl, tupE_var, tupE_int, tupE_str, tupE_bl, tupE_non, tupE_glb, tupE_tup, tupE_lst, tupE_bin, tupE_neg, tupE_cmp, tupE_chn, tupE_and, tupE_or, tupE_not, tupE_ite, tupE_idx, tupE_slc, tupE_call, tupE_blt, tupE_isi, tupE_mth, tupE_exf, tupE_comp, tupE_dct, tupE_itl, pc_calm, pc_exn, pc_free, pc_wf, pl_calm, pl_exn, pl_free, pl_wf, pc_pu, pl_pu, pc0_own, pc0_mf, pc1_own, pc1_mf, pc2_own, pc2_mf, pc3_own, pc3_mf, pc4_own, pc4_mf, pc5_own, pc5_mf, pc6_own, pc6_mf, pc7_own, pc7_mf, pc8_own, pc8_mf, pc9_own, pc9_mf, pc10_own, pc10_mf, pc11_own, pc11_mf, pc12_own, pc12_mf, pc13_own, pc13_mf, pc14_own, pc14_mf, pc15_own, pc15_mf, pc16_own, pc16_mf, pc17_own, pc17_mf, pc18_own, pc18_mf, pl18_own, pl18_mf, pc_has0, pc_call0, pc_fr0, pc_has1, pc_call1, pc_fr1, pc_has2, pc_call2, pc_fr2, pc_has3, pc_call3, pc_fr3, pc_has4, pc_call4, pc_fr4, pc_has5, pc_call5, pc_fr5, pc_has6, pc_call6, pc_fr6, pc_has7, pc_call7, pc_fr7, pc_has8, pc_call8, pc_fr8, pc_has9, pc_call9, pc_fr9, pc_has10, pc_call10, pc_fr10, pc_has11, pc_call11, pc_fr11, pc_has12, pc_call12, pc_fr12, pc_has13, pc_call13, pc_fr13, pc_has14, pc_call14, pc_fr14, pc_has15, pc_call15, pc_fr15, pc_has16, pc_call16, pc_fr16, pc_has17, pc_call17, pc_fr17, pc_has18, pc_call18, pc_fr18, pc_glb20, pc_glb19, pc_glb21, pc_glb22, pc_cdt22, pl_has0, pl_call0, pl_fr0, pl_has1, pl_call1, pl_fr1, pl_has2, pl_call2, pl_fr2, pl_has3, pl_call3, pl_fr3, pl_has4, pl_call4, pl_fr4, pl_has5, pl_call5, pl_fr5, pl_has6, pl_call6, pl_fr6, pl_has7, pl_call7, pl_fr7, pl_has8, pl_call8, pl_fr8, pl_has9, pl_call9, pl_fr9, pl_has10, pl_call10, pl_fr10, pl_has11, pl_call11, pl_fr11, pl_has12, pl_call12, pl_fr12, pl_has13, pl_call13, pl_fr13, pl_has14, pl_call14, pl_fr14, pl_has15, pl_call15, pl_fr15, pl_has16, pl_call16, pl_fr16, pl_has17, pl_call17, pl_fr17, pl_has18, pl_call18, pl_fr18, pl_glb20, pl_glb19, pl_glb21, pl_glb22, pl_cdt22, pow31, e_whole2 (k + 1) y 0 (10 ^ 31) σ (hy y hyy), num_whole gy]
      cases numV y <;> rfl)
    rw [List.map_id, List.map_id] at this
    rw [this]
    have hs : (xs.filter fun y => !numV y).isEmpty = spotV (.tup xs) := by
      simp only [spotV]
      clear this rb hx s1 w1 w2 n1 n2 t1 t2 rp w g d hD hl hy hty b1 b2 b3
      induction xs with
      | nil => rfl
      | cons y xs ih => cases hn : numV y <;> simp [List.filter_cons, hn]; simpa using ih
    simp only [↓pev_comp, ↓pex_for, ↓pex_whl, pexs, pex, pev, pevs, ppks, pevi, pevo, ptst, pevp, plook, psrc_str, psrc_tup, psrc_lst, List.map, List.replicate, List.cons_append, List.nil_append, Nat.sub_self, List.append_nil, Nat.reduceSub, Nat.reduceAdd, List.getElem?_cons_zero, List.getElem?_cons_succ, pbd_rt, pbd_ok, pbd_none, pup_some, pup_none, Option.map_some, Option.map_none, Option.isNone_none, Option.isNone_some, psE_rt, psE_ok, psE_none, psQ_nx, psQ_rt, psQ_bk, psQ_ct, pnoex_rt, if_true, if_false, Bool.false_eq_true, Bool.true_and, Bool.and_true, Bool.false_and, Bool.and_false, Bool.true_or, Bool.false_or, ne_eq, reduceCtorEq, not_false_eq_true, List.set_cons_zero, List.set_cons_succ, pendOf_rt, pendOf_nx, ptru_bl, ptru_int, Bool.not_true, Bool.not_false, Bool.and_self, Bool.or_false, Bool.or_true, not_true_eq_false, ptg, pwipe, pmE_call, pmE_app, pmE_ext, pmE_ins, pmE_clr, frE_lst, frE_list, frE_dict, frE_comp, frE_dct, frE_itl, frE_slc, frE_add, frE_spl, frE_call, frE_ite, isLD, List.all_cons, List.all_nil, Nat.reduceBEq, Nat.reduceEqDiff, Int.reduceEq, Int.reduceLT, Int.reduceLE, Int.reduceNeg, Int.reduceAdd, Int.reduceSub, reduceIte, decide_true, decide_false, Option.some.injEq, isV_var, isV_int, isV_str, isV_bl, isV_non, isV_glb, isV_tup, isV_lst, isV_bin, isV_neg, isV_cmp, isV_chn, isV_and, isV_or, isV_not, isV_ite, isV_idx, isV_slc, isV_call, isV_blt, isV_isi, isV_mth, isV_exf, isV_comp, isV_dct, isV_itl, tupE_var, tupE_int, tupE_str, tupE_bl, tupE_non, tupE_glb, tupE_tup, tupE_lst, tupE_bin, tupE_neg, tupE_cmp, tupE_chn, tupE_and, tupE_or, tupE_not, tupE_ite, tupE_idx, tupE_slc, tupE_call, tupE_blt, tupE_isi, tupE_mth, tupE_exf, tupE_comp, tupE_dct, tupE_itl, pc_calm, pc_exn, pc_free, pc_wf, pl_calm, pl_exn, pl_free, pl_wf, pc_pu, pl_pu, pc0_own, pc0_mf, pc1_own, pc1_mf, pc2_own, pc2_mf, pc3_own, pc3_mf, pc4_own, pc4_mf, pc5_own, pc5_mf, pc6_own, pc6_mf, pc7_own, pc7_mf, pc8_own, pc8_mf, pc9_own, pc9_mf, pc10_own, pc10_mf, pc11_own, pc11_mf, pc12_own, pc12_mf, pc13_own, pc13_mf, pc14_own, pc14_mf, pc15_own, pc15_mf, pc16_own, pc16_mf, pc17_own, pc17_mf, pc18_own, pc18_mf, pl18_own, pl18_mf, pc_has0, pc_call0, pc_fr0, pc_has1, pc_call1, pc_fr1, pc_has2, pc_call2, pc_fr2, pc_has3, pc_call3, pc_fr3, pc_has4, pc_call4, pc_fr4, pc_has5, pc_call5, pc_fr5, pc_has6, pc_call6, pc_fr6, pc_has7, pc_call7, pc_fr7, pc_has8, pc_call8, pc_fr8, pc_has9, pc_call9, pc_fr9, pc_has10, pc_call10, pc_fr10, pc_has11, pc_call11, pc_fr11, pc_has12, pc_call12, pc_fr12, pc_has13, pc_call13, pc_fr13, pc_has14, pc_call14, pc_fr14, pc_has15, pc_call15, pc_fr15, pc_has16, pc_call16, pc_fr16, pc_has17, pc_call17, pc_fr17, pc_has18, pc_call18, pc_fr18, pc_glb20, pc_glb19, pc_glb21, pc_glb22, pc_cdt22, pl_has0, pl_call0, pl_fr0, pl_has1, pl_call1, pl_fr1, pl_has2, pl_call2, pl_fr2, pl_has3, pl_call3, pl_fr3, pl_has4, pl_call4, pl_fr4, pl_has5, pl_call5, pl_fr5, pl_has6, pl_call6, pl_fr6, pl_has7, pl_call7, pl_fr7, pl_has8, pl_call8, pl_fr8, pl_has9, pl_call9, pl_fr9, pl_has10, pl_call10, pl_fr10, pl_has11, pl_call11, pl_fr11, pl_has12, pl_call12, pl_fr12, pl_has13, pl_call13, pl_fr13, pl_has14, pl_call14, pl_fr14, pl_has15, pl_call15, pl_fr15, pl_has16, pl_call16, pl_fr16, pl_has17, pl_call17, pl_fr17, pl_has18, pl_call18, pl_fr18, pl_glb20, pl_glb19, pl_glb21, pl_glb22, pl_cdt22, q0, peq_lst0, hs, t2, n2, w2, q4, t1, n1, s1, w1, rb, pne_str, rp]
end K01
set_option linter.all false
set_option maxRecDepth 100000
set_option maxHeartbeats 8000000
namespace K01
open PySem PySem.Spec Mi
theorem keep_fl (ns : List Int) : pkeep (some (.fl (ns.map .int))) = some (.fl (ns.map .int)) := by
  have : noPrs (ns.map V.int) = true := by
    induction ns with
    | nil => rfl
    | cons n ns ih => simp only [List.map_cons, noPrs, ih]; rfl
  simp only [pkeep, this, if_true]
theorem keep_int (i : Int) : pkeep (some (.int i)) = some (.int i) := rfl
theorem outer_ok (k : Nat) (hk : 170 ≤ k) (ns : List Int) (i : Nat) (σ : PS) (r2 r3 r4 r5 r6 r7 r8 r9 r10 r11 r12 r13 : Option V) :
    ∃ s2 s3 s4 s5 s6 s7 s8 s9 s10 s11 s12 s13 σ', pbodyF (PL k) T.excs bodyO [some (.fl (ns.map .int)), some (.int i), r2, r3, r4, r5, r6, r7, r8, r9, r10, r11, r12, r13] σ = some (.nx [some (.fl (ns.map .int)), some (.int i), s2, s3, s4, s5, s6, s7, s8, s9, s10, s11, s12, s13] σ') := by
  obtain ⟨k, rfl⟩ : ∃ j, k = j + 2 := ⟨k - 2, by omega⟩
  obtain ⟨c, ec⟩ := e_cell (k + 1) ns i σ
  obtain ⟨n, m, n0, m0, m1, ep⟩ := e_purse (k + 1) c σ
  have P0 : PuOk 0 [n, m, 0] := ⟨n, m, 0, rfl, n0, m0, m1, by decide, by decide⟩
  obtain ⟨t, σ1, e1, a1, P1⟩ := e_any (k + 2) 4 1000 0 [n, m, 0] (by omega) (by decide) (by decide) P0 (by decide)
  have ht : Th 58 500000 t.v = true := by
    rw [th_iff]
    have := Tm.dep t a1.ok
    have := a1.dp
    have := Tm.wtV t a1.ok
    have := a1.wt
    exact ⟨Tm.gv t a1.ok, by omega, by omega⟩
  obtain ⟨s, σ2, e2, h2, P2⟩ := e_spoilt 58 (k + 2) 500000 _ t.v σ1 (by omega) ht (by decide) P1 (by decide)
  obtain ⟨lo, σ3, e3, l0, l1, P3⟩ := e_take (k + 1) _ 7 σ2 P2 (by decide) (by decide) (by decide)
  obtain ⟨hi, σ4, e4, i0, i1, P4⟩ := e_take (k + 1) _ 7 σ3 P3 (by decide) (by decide) (by decide)
  obtain ⟨l, σ5, e5, hl, hl2, P5⟩ := e_things k _ σ4 P4 (by decide)
  obtain ⟨s', σ6, e6, h6, P6⟩ := e_spoilt 60 (k + 2) 501000 _ s σ5 (by omega) h2 (by decide) P5 (by decide)
  obtain ⟨s'', σ7, e7, h7, P7⟩ := e_spoilt 58 (k + 2) 500000 _ t.v σ6 (by omega) ht (by decide) P6 (by decide)
  have q4 : ∀ a b c d : V, [a, b, c, d].length ≤ sizeLine := fun _ _ _ _ => by show 4 ≤ sizeLine; decide
  have z1 : l.length + [V.int (lo - 3), .int (hi - 1), .int (lo - 3 - 1), .int (hi - 1 + 1)].length ≤ sizeLine := by rw [hl2]; show 22 + 4 ≤ sizeLine; decide
  have z2 : [t.v, s, s', s''].length + (l ++ [V.int (lo - 3), .int (hi - 1), .int (lo - 3 - 1), .int (hi - 1 + 1)]).length ≤ sizeLine := by
    rw [List.length_append, hl2]; show 4 + (22 + 4) ≤ sizeLine; decide
  generalize hL : [t.v, s, s', s''] ++ (l ++ [V.int (lo - 3), .int (hi - 1), .int (lo - 3 - 1), .int (hi - 1 + 1)]) = L at *
  have hLT : ∀ x ∈ L, Th 70 1900000 x = true := by
    have sm : ∀ i : Int, -10 ≤ i → i ≤ 10 → Th 70 1900000 (.int i) = true := fun i h1 h2 => by
      rw [th_iff]
      refine ⟨?_, by simp [dep], by simp [wtV]⟩
      simp only [gv, okI, Bool.and_eq_true, decide_eq_true_eq]
      omega
    intro x hx
    rw [← hL] at hx
    simp only [List.mem_append, List.mem_cons, List.not_mem_nil, or_false] at hx
    rcases hx with (rfl | rfl | rfl | rfl) | hx | rfl | rfl | rfl | rfl
    · exact th_mono ht (by decide) (by decide)
    · exact th_mono h2 (by decide) (by decide)
    · exact th_mono h6 (by decide) (by decide)
    · exact th_mono h7 (by decide) (by decide)
    · exact th_mono (List.all_eq_true.mp hl x hx) (by decide) (by decide)
    · exact sm _ (by omega) (by omega)
    · exact sm _ (by omega) (by omega)
    · exact sm _ (by omega) (by omega)
    · exact sm _ (by omega) (by omega)
  have hno : noPrs L = true := by
    have : ∀ L : List V, (∀ x ∈ L, Th 70 1900000 x = true) → noPrs L = true := by
      intro L
      induction L with
      | nil => intro _; rfl
      | cons x L ih =>
        intro h
        simp only [noPrs, gv_noPr (th_iff.mp (h x List.mem_cons_self)).1, ih fun y hy => h y (List.mem_cons_of_mem _ hy), Bool.and_self]
    exact this L hLT
  have tt := e_term 58 (k + 2) (by omega) t.v σ7 (th_iff.mp ht).2.1 (th_iff.mp ht).1
  rw [Tm.isT t a1.ok] at tt
  have key : ∀ (L : List V) (r6 r9 r10 r11 r12 : Option V), (∀ x ∈ L, Th 70 1900000 x = true) → ∃ s6 s9 s10 s11 s12, pfor (ptg (PL (k + 2)) (.nm 6)) (pbodyF (PL (k + 2)) T.excs bodyI) L [some (.fl (ns.map .int)), some (.int i), some .prs, some t.v, some s, some (.lst (l ++ [V.int (lo - 3), .int (hi - 1), .int (lo - 3 - 1), .int (hi - 1 + 1)])), r6, some (.int (lo - 3)), some (.int (hi - 1)), r9, r10, r11, r12, pkeep r13] σ7 =
      some (.nx [some (.fl (ns.map .int)), some (.int i), some .prs, some t.v, some s, some (.lst (l ++ [V.int (lo - 3), .int (hi - 1), .int (lo - 3 - 1), .int (hi - 1 + 1)])), s6, some (.int (lo - 3)), some (.int (hi - 1)), s9, s10, s11, s12, pkeep r13] σ7) := by
    intro L
    induction L with
    | nil => intro r6 r9 r10 r11 r12 _; exact ⟨r6, r9, r10, r11, r12, rfl⟩
    | cons v L ih =>
      intro r6 r9 r10 r11 r12 h
      obtain ⟨s9, s10, s11, s12, eb⟩ := inner_ok (k + 2) (by omega) v (lo - 3) (hi - 1) σ7 (h v List.mem_cons_self) (some (.fl (ns.map .int))) (some (.int i)) (some .prs) (some t.v) (some s) (some (.lst (l ++ [V.int (lo - 3), .int (hi - 1), .int (lo - 3 - 1), .int (hi - 1 + 1)]))) r9 r10 r11 r12 (pkeep r13)
      obtain ⟨s6', s9', s10', s11', s12', e'⟩ := ih (some v) s9 s10 s11 s12 fun x hx => h x (List.mem_cons_of_mem _ hx)
      refine ⟨s6', s9', s10', s11', s12', ?_⟩
      have htg : ptg (PL (k + 2)) (.nm 6) v [some (.fl (ns.map .int)), some (.int i), some .prs, some t.v, some s, some (.lst (l ++ [V.int (lo - 3), .int (hi - 1), .int (lo - 3 - 1), .int (hi - 1 + 1)])), r6, some (.int (lo - 3)), some (.int (hi - 1)), r9, r10, r11, r12, pkeep r13] = some [some (.fl (ns.map .int)), some (.int i), some .prs, some t.v, some s, some (.lst (l ++ [V.int (lo - 3), .int (hi - 1), .int (lo - 3 - 1), .int (hi - 1 + 1)])), some v, some (.int (lo - 3)), some (.int (hi - 1)), r9, r10, r11, r12, pkeep r13] := by
        simp only [↓pev_comp, ↓pex_for, ↓pex_whl, pexs, pex, pev, pevs, ppks, pevi, pevo, ptst, pevp, plook, psrc_str, psrc_tup, psrc_lst, List.map, List.replicate, List.cons_append, List.nil_append, Nat.sub_self, List.append_nil, Nat.reduceSub, Nat.reduceAdd, List.getElem?_cons_zero, List.getElem?_cons_succ, pbd_rt, pbd_ok, pbd_none, pup_some, pup_none, Option.map_some, Option.map_none, Option.isNone_none, Option.isNone_some, psE_rt, psE_ok, psE_none, psQ_nx, psQ_rt, psQ_bk, psQ_ct, pnoex_rt, if_true, if_false, Bool.false_eq_true, Bool.true_and, Bool.and_true, Bool.false_and, Bool.and_false, Bool.true_or, Bool.false_or, ne_eq, reduceCtorEq, not_false_eq_true, List.set_cons_zero, List.set_cons_succ, pendOf_rt, pendOf_nx, ptru_bl, ptru_int, Bool.not_true, Bool.not_false, Bool.and_self, Bool.or_false, Bool.or_true, not_true_eq_false, ptg, pwipe, pmE_call, pmE_app, pmE_ext, pmE_ins, pmE_clr, frE_lst, frE_list, frE_dict, frE_comp, frE_dct, frE_itl, frE_slc, frE_add, frE_spl, frE_call, frE_ite, isLD, List.all_cons, List.all_nil, Nat.reduceBEq, Nat.reduceEqDiff, Int.reduceEq, Int.reduceLT, Int.reduceLE, Int.reduceNeg, Int.reduceAdd, Int.reduceSub, reduceIte, decide_true, decide_false, Option.some.injEq, isV_var, isV_int, isV_str, isV_bl, isV_non, isV_glb, isV_tup, isV_lst, isV_bin, isV_neg, isV_cmp, isV_chn, isV_and, isV_or, isV_not, isV_ite, isV_idx, isV_slc, isV_call, isV_blt, isV_isi, isV_mth, isV_exf, isV_comp, isV_dct, isV_itl, tupE_var, tupE_int, tupE_str, tupE_bl, tupE_non, tupE_glb, tupE_tup, tupE_lst, tupE_bin, tupE_neg, tupE_cmp, tupE_chn, tupE_and, tupE_or, tupE_not, tupE_ite, tupE_idx, tupE_slc, tupE_call, tupE_blt, tupE_isi, tupE_mth, tupE_exf, tupE_comp, tupE_dct, tupE_itl, pc_calm, pc_exn, pc_free, pc_wf, pl_calm, pl_exn, pl_free, pl_wf, pc_pu, pl_pu, pc0_own, pc0_mf, pc1_own, pc1_mf, pc2_own, pc2_mf, pc3_own, pc3_mf, pc4_own, pc4_mf, pc5_own, pc5_mf, pc6_own, pc6_mf, pc7_own, pc7_mf, pc8_own, pc8_mf, pc9_own, pc9_mf, pc10_own, pc10_mf, pc11_own, pc11_mf, pc12_own, pc12_mf, pc13_own, pc13_mf, pc14_own, pc14_mf, pc15_own, pc15_mf, pc16_own, pc16_mf, pc17_own, pc17_mf, pc18_own, pc18_mf, pl18_own, pl18_mf, pc_has0, pc_call0, pc_fr0, pc_has1, pc_call1, pc_fr1, pc_has2, pc_call2, pc_fr2, pc_has3, pc_call3, pc_fr3, pc_has4, pc_call4, pc_fr4, pc_has5, pc_call5, pc_fr5, pc_has6, pc_call6, pc_fr6, pc_has7, pc_call7, pc_fr7, pc_has8, pc_call8, pc_fr8, pc_has9, pc_call9, pc_fr9, pc_has10, pc_call10, pc_fr10, pc_has11, pc_call11, pc_fr11, pc_has12, pc_call12, pc_fr12, pc_has13, pc_call13, pc_fr13, pc_has14, pc_call14, pc_fr14, pc_has15, pc_call15, pc_fr15, pc_has16, pc_call16, pc_fr16, pc_has17, pc_call17, pc_fr17, pc_has18, pc_call18, pc_fr18, pc_glb20, pc_glb19, pc_glb21, pc_glb22, pc_cdt22, pl_has0, pl_call0, pl_fr0, pl_has1, pl_call1, pl_fr1, pl_has2, pl_call2, pl_fr2, pl_has3, pl_call3, pl_fr3, pl_has4, pl_call4, pl_fr4, pl_has5, pl_call5, pl_fr5, pl_has6, pl_call6, pl_fr6, pl_has7, pl_call7, pl_fr7, pl_has8, pl_call8, pl_fr8, pl_has9, pl_call9, pl_fr9, pl_has10, pl_call10, pl_fr10, pl_has11, pl_call11, pl_fr11, pl_has12, pl_call12, pl_fr12, pl_has13, pl_call13, pl_fr13, pl_has14, pl_call14, pl_fr14, pl_has15, pl_call15, pl_fr15, pl_has16, pl_call16, pl_fr16, pl_has17, pl_call17, pl_fr17, pl_has18, pl_call18, pl_fr18, pl_glb20, pl_glb19, pl_glb21, pl_glb22, pl_cdt22]
      rw [pfor]
      simp only [htg, eb]
      exact e'
  obtain ⟨s6, s9, s10, s11, s12, ek⟩ := key L (pkeep r6) (pkeep r9) (pkeep r10) (pkeep r11) (pkeep r12) hLT
  refine ⟨some .prs, some t.v, some s, some (.lst (l ++ [V.int (lo - 3), .int (hi - 1), .int (lo - 3 - 1), .int (hi - 1 + 1)])), s6, some (.int (lo - 3)), some (.int (hi - 1)), s9, s10, s11, s12, pkeep r13, σ7, ?_⟩
  have hpi : pints [V.int n, .int m, .int 0] = some [n, m, 0] := rfl
  have hfr : (PL (k + 2)).own 2 = false := rfl
  have his : pcmpW (PL (k + 2)) .isn (.bl true) (.bl true) = some false := rfl
  have e1 : Mi.pv T D (k + 2) 12 [.prs, .int 5, .int 1000] [n, m, 0] = prt t.v σ1 := e1
  simp only [bodyI, bodyO, nthS, forB, m_law] at ek
  simp only [pbodyF, bodyO, nthS, forB, m_law]
  simp only [↓pev_comp, ↓pex_for, ↓pex_whl, pexs, pex, pev, pevs, ppks, pevi, pevo, ptst, pevp, plook, psrc_str, psrc_tup, psrc_lst, List.map, List.replicate, List.cons_append, List.nil_append, Nat.sub_self, List.append_nil, Nat.reduceSub, Nat.reduceAdd, List.getElem?_cons_zero, List.getElem?_cons_succ, pbd_rt, pbd_ok, pbd_none, pup_some, pup_none, Option.map_some, Option.map_none, Option.isNone_none, Option.isNone_some, psE_rt, psE_ok, psE_none, psQ_nx, psQ_rt, psQ_bk, psQ_ct, pnoex_rt, if_true, if_false, Bool.false_eq_true, Bool.true_and, Bool.and_true, Bool.false_and, Bool.and_false, Bool.true_or, Bool.false_or, ne_eq, reduceCtorEq, not_false_eq_true, List.set_cons_zero, List.set_cons_succ, pendOf_rt, pendOf_nx, ptru_bl, ptru_int, Bool.not_true, Bool.not_false, Bool.and_self, Bool.or_false, Bool.or_true, not_true_eq_false, ptg, pwipe, pmE_call, pmE_app, pmE_ext, pmE_ins, pmE_clr, frE_lst, frE_list, frE_dict, frE_comp, frE_dct, frE_itl, frE_slc, frE_add, frE_spl, frE_call, frE_ite, isLD, List.all_cons, List.all_nil, Nat.reduceBEq, Nat.reduceEqDiff, Int.reduceEq, Int.reduceLT, Int.reduceLE, Int.reduceNeg, Int.reduceAdd, Int.reduceSub, reduceIte, decide_true, decide_false, Option.some.injEq, isV_var, isV_int, isV_str, isV_bl, isV_non, isV_glb, isV_tup, isV_lst, isV_bin, isV_neg, isV_cmp, isV_chn, isV_and, isV_or, isV_not, isV_ite, isV_idx, isV_slc, isV_call, isV_blt, isV_isi, isV_mth, isV_exf, isV_comp, isV_dct, isV_itl, tupE_var, tupE_int, tupE_str, tupE_bl, tupE_non, tupE_glb, tupE_tup, tupE_lst, tupE_bin, tupE_neg, tupE_cmp, tupE_chn, tupE_and, tupE_or, tupE_not, tupE_ite, tupE_idx, tupE_slc, tupE_call, tupE_blt, tupE_isi, tupE_mth, tupE_exf, tupE_comp, tupE_dct, tupE_itl, pc_calm, pc_exn, pc_free, pc_wf, pl_calm, pl_exn, pl_free, pl_wf, pc_pu, pl_pu, pc0_own, pc0_mf, pc1_own, pc1_mf, pc2_own, pc2_mf, pc3_own, pc3_mf, pc4_own, pc4_mf, pc5_own, pc5_mf, pc6_own, pc6_mf, pc7_own, pc7_mf, pc8_own, pc8_mf, pc9_own, pc9_mf, pc10_own, pc10_mf, pc11_own, pc11_mf, pc12_own, pc12_mf, pc13_own, pc13_mf, pc14_own, pc14_mf, pc15_own, pc15_mf, pc16_own, pc16_mf, pc17_own, pc17_mf, pc18_own, pc18_mf, pl18_own, pl18_mf, pc_has0, pc_call0, pc_fr0, pc_has1, pc_call1, pc_fr1, pc_has2, pc_call2, pc_fr2, pc_has3, pc_call3, pc_fr3, pc_has4, pc_call4, pc_fr4, pc_has5, pc_call5, pc_fr5, pc_has6, pc_call6, pc_fr6, pc_has7, pc_call7, pc_fr7, pc_has8, pc_call8, pc_fr8, pc_has9, pc_call9, pc_fr9, pc_has10, pc_call10, pc_fr10, pc_has11, pc_call11, pc_fr11, pc_has12, pc_call12, pc_fr12, pc_has13, pc_call13, pc_fr13, pc_has14, pc_call14, pc_fr14, pc_has15, pc_call15, pc_fr15, pc_has16, pc_call16, pc_fr16, pc_has17, pc_call17, pc_fr17, pc_has18, pc_call18, pc_fr18, pc_glb20, pc_glb19, pc_glb21, pc_glb22, pc_cdt22, pl_has0, pl_call0, pl_fr0, pl_has1, pl_call1, pl_fr1, pl_has2, pl_call2, pl_fr2, pl_has3, pl_call3, pl_fr3, pl_has4, pl_call4, pl_fr4, pl_has5, pl_call5, pl_fr5, pl_has6, pl_call6, pl_fr6, pl_has7, pl_call7, pl_fr7, pl_has8, pl_call8, pl_fr8, pl_has9, pl_call9, pl_fr9, pl_has10, pl_call10, pl_fr10, pl_has11, pl_call11, pl_fr11, pl_has12, pl_call12, pl_fr12, pl_has13, pl_call13, pl_fr13, pl_has14, pl_call14, pl_fr14, pl_has15, pl_call15, pl_fr15, pl_has16, pl_call16, pl_fr16, pl_has17, pl_call17, pl_fr17, pl_has18, pl_call18, pl_fr18, pl_glb20, pl_glb19, pl_glb21, pl_glb22, pl_cdt22, ec, ep, hpi, keep_fl, keep_int, e1, e2, e3, e4, psub_int, e5, padd_int, q4, padd_lst z1, e6, e7, padd_lst z2, hL, hno, ek, tt, his]
theorem e_law (k : Nat) (hk : 170 ≤ k) (ns : List Int) (hn : ns.length ≤ 63) : ∃ σ, pvL T D k 18 (some 2) [.fl (ns.map .int)] = some (.ok (.bl true) σ) := by
  have hdef : T.defs 18 = some m_law := rfl
  have hc : ([V.fl (ns.map .int)].length = m_law.np) ∧ ((D 18).own.all fun i => decide (m_law.np ≤ i)) = true := ⟨rfl, rfl⟩
  simp only [pvL, hdef, prun]
  rw [if_pos hc]
  obtain ⟨m, hm, hmx⟩ : ∃ m : Int, (m = if 2 < (if (ns.length : Int) < 10 then (ns.length : Int) else 10) then (if (ns.length : Int) < 10 then (ns.length : Int) else 10) else 2) ∧ 0 ≤ m ∧ m ≤ 63 := ⟨_, rfl, by split <;> (try split) <;> omega⟩
  have hmin : pblt (PL k) .min [.int 10, .int ns.length] = some (.int (if (ns.length : Int) < 10 then (ns.length : Int) else 10)) := rfl
  have hmax : pblt (PL k) .max [.int 2, .int (if (ns.length : Int) < 10 then (ns.length : Int) else 10)] = some (.int m) := by rw [hm]; rfl
  have hr : prng 0 m = some ((List.range (m - 0).toNat).map fun (i : Nat) => V.int (0 + i)) := by unfold prng; rw [if_pos (by omega)]
  have hno : noPrs ((List.range (m - 0).toNat).map fun (i : Nat) => V.int (0 + i)) = true := by
    generalize List.range (m - 0).toNat = l
    induction l with
    | nil => rfl
    | cons n ns ih => simp only [List.map_cons, noPrs, ih]; rfl
  have key := pfor_inv (t := ptg (PL k) (.nm 1)) (f := pbodyF (PL k) T.excs bodyO) ((List.range (m - 0).toNat).map fun (i : Nat) => V.int (0 + i))
    (fun _ ρ _ => ∃ r1 r2 r3 r4 r5 r6 r7 r8 r9 r10 r11 r12 r13, ρ = [some (.fl (ns.map .int)), r1, r2, r3, r4, r5, r6, r7, r8, r9, r10, r11, r12, r13]) (fun _ _ => False)
    (fun i w ρ σ hw hP => by
      obtain ⟨r1, r2, r3, r4, r5, r6, r7, r8, r9, r10, r11, r12, r13, rfl⟩ := hP
      rw [List.getElem?_map, Option.map_eq_some_iff] at hw
      obtain ⟨j, hj, rfl⟩ := hw
      have hw0 : (0 : Int) + (j : Int) = (j : Int) := by omega
      rw [hw0]
      refine ⟨[some (.fl (ns.map .int)), some (.int j), r2, r3, r4, r5, r6, r7, r8, r9, r10, r11, r12, r13], by simp only [↓pev_comp, ↓pex_for, ↓pex_whl, pexs, pex, pev, pevs, ppks, pevi, pevo, ptst, pevp, plook, psrc_str, psrc_tup, psrc_lst, List.map, List.replicate, List.cons_append, List.nil_append, Nat.sub_self, List.append_nil, Nat.reduceSub, Nat.reduceAdd, List.getElem?_cons_zero, List.getElem?_cons_succ, pbd_rt, pbd_ok, pbd_none, pup_some, pup_none, Option.map_some, Option.map_none, Option.isNone_none, Option.isNone_some, psE_rt, psE_ok, psE_none, psQ_nx, psQ_rt, psQ_bk, psQ_ct, pnoex_rt, if_true, if_false, Bool.false_eq_true, Bool.true_and, Bool.and_true, Bool.false_and, Bool.and_false, Bool.true_or, Bool.false_or, ne_eq, reduceCtorEq, not_false_eq_true, List.set_cons_zero, List.set_cons_succ, pendOf_rt, pendOf_nx, ptru_bl, ptru_int, Bool.not_true, Bool.not_false, Bool.and_self, Bool.or_false, Bool.or_true, not_true_eq_false, ptg, pwipe, pmE_call, pmE_app, pmE_ext, pmE_ins, pmE_clr, frE_lst, frE_list, frE_dict, frE_comp, frE_dct, frE_itl, frE_slc, frE_add, frE_spl, frE_call, frE_ite, isLD, List.all_cons, List.all_nil, Nat.reduceBEq, Nat.reduceEqDiff, Int.reduceEq, Int.reduceLT, Int.reduceLE, Int.reduceNeg, Int.reduceAdd, Int.reduceSub, reduceIte, decide_true, decide_false, Option.some.injEq, isV_var, isV_int, isV_str, isV_bl, isV_non, isV_glb, isV_tup, isV_lst, isV_bin, isV_neg, isV_cmp, isV_chn, isV_and, isV_or, isV_not, isV_ite, isV_idx, isV_slc, isV_call, isV_blt, isV_isi, isV_mth, isV_exf, isV_comp, isV_dct, isV_itl, tupE_var, tupE_int, tupE_str, tupE_bl, tupE_non, tupE_glb, tupE_tup, tupE_lst, tupE_bin, tupE_neg, tupE_cmp, tupE_chn, tupE_and, tupE_or, tupE_not, tupE_ite, tupE_idx, tupE_slc, tupE_call, tupE_blt, tupE_isi, tupE_mth, tupE_exf, tupE_comp, tupE_dct, tupE_itl, pc_calm, pc_exn, pc_free, pc_wf, pl_calm, pl_exn, pl_free, pl_wf, pc_pu, pl_pu, pc0_own, pc0_mf, pc1_own, pc1_mf, pc2_own, pc2_mf, pc3_own, pc3_mf, pc4_own, pc4_mf, pc5_own, pc5_mf, pc6_own, pc6_mf, pc7_own, pc7_mf, pc8_own, pc8_mf, pc9_own, pc9_mf, pc10_own, pc10_mf, pc11_own, pc11_mf, pc12_own, pc12_mf, pc13_own, pc13_mf, pc14_own, pc14_mf, pc15_own, pc15_mf, pc16_own, pc16_mf, pc17_own, pc17_mf, pc18_own, pc18_mf, pl18_own, pl18_mf, pc_has0, pc_call0, pc_fr0, pc_has1, pc_call1, pc_fr1, pc_has2, pc_call2, pc_fr2, pc_has3, pc_call3, pc_fr3, pc_has4, pc_call4, pc_fr4, pc_has5, pc_call5, pc_fr5, pc_has6, pc_call6, pc_fr6, pc_has7, pc_call7, pc_fr7, pc_has8, pc_call8, pc_fr8, pc_has9, pc_call9, pc_fr9, pc_has10, pc_call10, pc_fr10, pc_has11, pc_call11, pc_fr11, pc_has12, pc_call12, pc_fr12, pc_has13, pc_call13, pc_fr13, pc_has14, pc_call14, pc_fr14, pc_has15, pc_call15, pc_fr15, pc_has16, pc_call16, pc_fr16, pc_has17, pc_call17, pc_fr17, pc_has18, pc_call18, pc_fr18, pc_glb20, pc_glb19, pc_glb21, pc_glb22, pc_cdt22, pl_has0, pl_call0, pl_fr0, pl_has1, pl_call1, pl_fr1, pl_has2, pl_call2, pl_fr2, pl_has3, pl_call3, pl_fr3, pl_has4, pl_call4, pl_fr4, pl_has5, pl_call5, pl_fr5, pl_has6, pl_call6, pl_fr6, pl_has7, pl_call7, pl_fr7, pl_has8, pl_call8, pl_fr8, pl_has9, pl_call9, pl_fr9, pl_has10, pl_call10, pl_fr10, pl_has11, pl_call11, pl_fr11, pl_has12, pl_call12, pl_fr12, pl_has13, pl_call13, pl_fr13, pl_has14, pl_call14, pl_fr14, pl_has15, pl_call15, pl_fr15, pl_has16, pl_call16, pl_fr16, pl_has17, pl_call17, pl_fr17, pl_has18, pl_call18, pl_fr18, pl_glb20, pl_glb19, pl_glb21, pl_glb22, pl_cdt22], .inl ?_⟩
      obtain ⟨s2, s3, s4, s5, s6, s7, s8, s9, s10, s11, s12, s13, σ', e⟩ := outer_ok k hk ns j σ r2 r3 r4 r5 r6 r7 r8 r9 r10 r11 r12 r13
      exact ⟨_, σ', .inl e, _, _, _, _, _, _, _, _, _, _, _, _, _, rfl⟩)
    ((List.range (m - 0).toNat).map fun (i : Nat) => V.int (0 + i)) 0 [some (.fl (ns.map .int)), none, none, none, none, none, none, none, none, none, none, none, none, none] [] rfl (Nat.zero_le _) ⟨_, _, _, _, _, _, _, _, _, _, _, _, _, rfl⟩
  rcases key with ⟨ρ', σ', e5, _⟩ | ⟨_, _, _, h⟩
  · refine ⟨σ', ?_⟩
    simp only [bodyO, nthS, forB, m_law] at e5
    rw [show ppcfg T D (Mi.pv T D k) (D 18) (some 2) = PL k from rfl]
    simp only [m_law]
    simp only [↓pev_comp, ↓pex_for, ↓pex_whl, pexs, pex, pev, pevs, ppks, pevi, pevo, ptst, pevp, plook, psrc_str, psrc_tup, psrc_lst, List.map, List.replicate, List.cons_append, List.nil_append, Nat.sub_self, List.append_nil, Nat.reduceSub, Nat.reduceAdd, List.getElem?_cons_zero, List.getElem?_cons_succ, pbd_rt, pbd_ok, pbd_none, pup_some, pup_none, Option.map_some, Option.map_none, Option.isNone_none, Option.isNone_some, psE_rt, psE_ok, psE_none, psQ_nx, psQ_rt, psQ_bk, psQ_ct, pnoex_rt, if_true, if_false, Bool.false_eq_true, Bool.true_and, Bool.and_true, Bool.false_and, Bool.and_false, Bool.true_or, Bool.false_or, ne_eq, reduceCtorEq, not_false_eq_true, List.set_cons_zero, List.set_cons_succ, pendOf_rt, pendOf_nx, ptru_bl, ptru_int, Bool.not_true, Bool.not_false, Bool.and_self, Bool.or_false, Bool.or_true, not_true_eq_false, ptg, pwipe, pmE_call, pmE_app, pmE_ext, pmE_ins, pmE_clr, frE_lst, frE_list, frE_dict, frE_comp, frE_dct, frE_itl, frE_slc, frE_add, frE_spl, frE_call, frE_ite, isLD, List.all_cons, List.all_nil, Nat.reduceBEq, Nat.reduceEqDiff, Int.reduceEq, Int.reduceLT, Int.reduceLE, Int.reduceNeg, Int.reduceAdd, Int.reduceSub, reduceIte, decide_true, decide_false, Option.some.injEq, isV_var, isV_int, isV_str, isV_bl, isV_non, isV_glb, isV_tup, isV_lst, isV_bin, isV_neg, isV_cmp, isV_chn, isV_and, isV_or, isV_not, isV_ite, isV_idx, isV_slc, isV_call, isV_blt, isV_isi, isV_mth, isV_exf, isV_comp, isV_dct, isV_itl, tupE_var, tupE_int, tupE_str, tupE_bl, tupE_non, tupE_glb, tupE_tup, tupE_lst, tupE_bin, tupE_neg, tupE_cmp, tupE_chn, tupE_and, tupE_or, tupE_not, tupE_ite, tupE_idx, tupE_slc, tupE_call, tupE_blt, tupE_isi, tupE_mth, tupE_exf, tupE_comp, tupE_dct, tupE_itl, pc_calm, pc_exn, pc_free, pc_wf, pl_calm, pl_exn, pl_free, pl_wf, pc_pu, pl_pu, pc0_own, pc0_mf, pc1_own, pc1_mf, pc2_own, pc2_mf, pc3_own, pc3_mf, pc4_own, pc4_mf, pc5_own, pc5_mf, pc6_own, pc6_mf, pc7_own, pc7_mf, pc8_own, pc8_mf, pc9_own, pc9_mf, pc10_own, pc10_mf, pc11_own, pc11_mf, pc12_own, pc12_mf, pc13_own, pc13_mf, pc14_own, pc14_mf, pc15_own, pc15_mf, pc16_own, pc16_mf, pc17_own, pc17_mf, pc18_own, pc18_mf, pl18_own, pl18_mf, pc_has0, pc_call0, pc_fr0, pc_has1, pc_call1, pc_fr1, pc_has2, pc_call2, pc_fr2, pc_has3, pc_call3, pc_fr3, pc_has4, pc_call4, pc_fr4, pc_has5, pc_call5, pc_fr5, pc_has6, pc_call6, pc_fr6, pc_has7, pc_call7, pc_fr7, pc_has8, pc_call8, pc_fr8, pc_has9, pc_call9, pc_fr9, pc_has10, pc_call10, pc_fr10, pc_has11, pc_call11, pc_fr11, pc_has12, pc_call12, pc_fr12, pc_has13, pc_call13, pc_fr13, pc_has14, pc_call14, pc_fr14, pc_has15, pc_call15, pc_fr15, pc_has16, pc_call16, pc_fr16, pc_has17, pc_call17, pc_fr17, pc_has18, pc_call18, pc_fr18, pc_glb20, pc_glb19, pc_glb21, pc_glb22, pc_cdt22, pl_has0, pl_call0, pl_fr0, pl_has1, pl_call1, pl_fr1, pl_has2, pl_call2, pl_fr2, pl_has3, pl_call3, pl_fr3, pl_has4, pl_call4, pl_fr4, pl_has5, pl_call5, pl_fr5, pl_has6, pl_call6, pl_fr6, pl_has7, pl_call7, pl_fr7, pl_has8, pl_call8, pl_fr8, pl_has9, pl_call9, pl_fr9, pl_has10, pl_call10, pl_fr10, pl_has11, pl_call11, pl_fr11, pl_has12, pl_call12, pl_fr12, pl_has13, pl_call13, pl_fr13, pl_has14, pl_call14, pl_fr14, pl_has15, pl_call15, pl_fr15, pl_has16, pl_call16, pl_fr16, pl_has17, pl_call17, pl_fr17, pl_has18, pl_call18, pl_fr18, pl_glb20, pl_glb19, pl_glb21, pl_glb22, pl_cdt22, plen_fl, List.length_map, hmin, hmax, hr, hno, e5]
    rfl
  · exact h.elim
theorem run_law (ns : List Int) (hn : ns.length ≤ 63) : ∃ h', Mi.run dat.tab 200 18 [.ref 0] [.fl (ns.map .int)] = rt (.bl true) h' := by
  obtain ⟨σ, e⟩ := e_law 199 (by decide) ns hn
  refine law_ok (T := T) (D := D) (k := 199) (xs := ns.map .int) (ws := ns.map .int) ?_ e
  clear e hn
  induction ns with
  | nil => rfl
  | cons n ns ih => exact ⟨_, _, rfl, rfl, ih⟩
end K01
set_option Elab.async false
set_option linter.all false
set_option maxRecDepth 100000
set_option maxHeartbeats 0
open PySem PySem.W PyProof.Rows Mi
theorem PySem.Challenge.cw_kernelpapers_k01_terms_of_anything_holds : PySem.Challenge.rw_kernelpapers_k01_terms_of_anything.Holds := by
  w_on; o_law; o_head (hookM 4 K01.dat.fa K01.dat.fn K01.dat.ts K01.dat.exB)
  case hw => w_witness2
  case hc => exact walkG (n := 63) (k := 200) (fi := 18) (dd := K01.d18) (x := "_law_script") rfl (by decide) rfl roomG K01.dat_ok rfl rfl rfl K01.binds (fun _ _ _ p hp => by cases hp) K01.blaw K01.run_law
