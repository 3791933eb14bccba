import PyProof.Rows.All
import Wide.All
import OpenK.AllK
import Wide.FinOn
import PySem.Challenge.RW_grantlines_k02_whole_which_pots_may_pay
import PySem.Str
import PySem.PyData
import PySem.Syntax
import PyProof.P3Statements
import KE.SortData
import PyProof.StrBlockL
import HandS.List
import KE.KStateDown
import KE.KExcSuper
import HandS.Words
import HandS.ExcField
import HandS.IsInst
import HandS.Head0
import HandS.Head1
import HandS.Head2
import HandS.HeadHook1
import HandS.HeadHook2
import KE.KNestM
import HandS.Codes
import HandS.ForMost
import HandS.Nested
import HandS.Exc
import HandS.ExcInit
import HandS.TupAny
import HandS.Deep
import HandS.Steps
import HandS.CallSlots
import HandS.Property
import HandS.Defaults
import HandS.Small
import HandS.Style
import HandS.Iter
import HandS.Zip
import KE.GoesEnum
import KE.LtData
import HandS.DictComp
import HandS.TupLen
import HandS.WordsDict
import HandS.Conv
import HandS.More
import HandS.Strs
import HandS.Text
import HandS.ExcIs
import KE.KExcIs
import PyProof.FactsLen
import HandS.Comp
import HandS.MakeKwOnly
import HandS.ExcSuper
import HandS.ExcValue
import HandS.ExcOwn
import PyProof.InstNe
import HandS.OwnEq
import HandS.Lambda
import HandS.Ends
import HandS.HeadEnd
import HandS.EndTab
import KE.DataCmp
import KE.DataEq
set_option Elab.async false
set_option linter.all false
set_option autoImplicit false
set_option maxRecDepth 100000
namespace Mp
open PySem (Str PyData)
open L2 (ixN atI)
open HT (sIx)
inductive PV where
  | non | bl (b : Bool) | int (i : Int) | str (x : Str)
  | tup (xs : List PV) | lst (xs : List PV)
  | loc (n : Nat)
  | glo (x : Nat)
  | scr (ns : List Int)
  | clo (k : Nat) (caps : List PV)
  | exn (c f : Nat) (vs : List PV)
  deriving Inhabited
mutual
def PV.dec : (a b : PV) → Decidable (a = b)
  | .non, .non => isTrue rfl
  | .bl a, .bl b => if h : a = b then isTrue (by rw [h]) else isFalse (fun e => h (PV.bl.inj e))
  | .int a, .int b => if h : a = b then isTrue (by rw [h]) else isFalse (fun e => h (PV.int.inj e))
  | .str a, .str b => if h : a = b then isTrue (by rw [h]) else isFalse (fun e => h (PV.str.inj e))
  | .tup a, .tup b => match PV.decs a b with
    | isTrue h => isTrue (by rw [h])
    | isFalse h => isFalse (fun e => h (PV.tup.inj e))
  | .lst a, .lst b => match PV.decs a b with
    | isTrue h => isTrue (by rw [h])
    | isFalse h => isFalse (fun e => h (PV.lst.inj e))
  | .loc a, .loc b => if h : a = b then isTrue (by rw [h]) else isFalse (fun e => h (PV.loc.inj e))
  | .glo a, .glo b => if h : a = b then isTrue (by rw [h]) else isFalse (fun e => h (PV.glo.inj e))
  | .scr a, .scr b => if h : a = b then isTrue (by rw [h]) else isFalse (fun e => h (PV.scr.inj e))
  | .exn k i a, .exn j l b => if h : k = j ∧ i = l then (match PV.decs a b with
    | isTrue h2 => isTrue (by rw [h.1, h.2, h2])
    | isFalse h2 => isFalse (fun e => h2 (PV.exn.inj e).2.2)) else isFalse (fun e => h ⟨(PV.exn.inj e).1, (PV.exn.inj e).2.1⟩)
  | .clo k a, .clo j b => if h : k = j then (match PV.decs a b with
    | isTrue h2 => isTrue (by rw [h, h2])
    | isFalse h2 => isFalse (fun e => h2 (PV.clo.inj e).2)) else isFalse (fun e => h (PV.clo.inj e).1)
  | .non, .bl _ | .non, .int _ | .non, .str _ | .non, .tup _ | .non, .lst _ | .non, .loc _ | .non, .glo _ | .non, .scr _ | .non, .clo _ _ | .non, .exn _ _ _ => isFalse (fun e => nomatch e)
  | .bl _, .non | .bl _, .int _ | .bl _, .str _ | .bl _, .tup _ | .bl _, .lst _ | .bl _, .loc _ | .bl _, .glo _ | .bl _, .scr _ | .bl _, .clo _ _ | .bl _, .exn _ _ _ => isFalse (fun e => nomatch e)
  | .int _, .non | .int _, .bl _ | .int _, .str _ | .int _, .tup _ | .int _, .lst _ | .int _, .loc _ | .int _, .glo _ | .int _, .scr _ | .int _, .clo _ _ | .int _, .exn _ _ _ => isFalse (fun e => nomatch e)
  | .str _, .non | .str _, .bl _ | .str _, .int _ | .str _, .tup _ | .str _, .lst _ | .str _, .loc _ | .str _, .glo _ | .str _, .scr _ | .str _, .clo _ _ | .str _, .exn _ _ _ => isFalse (fun e => nomatch e)
  | .tup _, .non | .tup _, .bl _ | .tup _, .int _ | .tup _, .str _ | .tup _, .lst _ | .tup _, .loc _ | .tup _, .glo _ | .tup _, .scr _ | .tup _, .clo _ _ | .tup _, .exn _ _ _ => isFalse (fun e => nomatch e)
  | .lst _, .non | .lst _, .bl _ | .lst _, .int _ | .lst _, .str _ | .lst _, .tup _ | .lst _, .loc _ | .lst _, .glo _ | .lst _, .scr _ | .lst _, .clo _ _ | .lst _, .exn _ _ _ => isFalse (fun e => nomatch e)
  | .loc _, .non | .loc _, .bl _ | .loc _, .int _ | .loc _, .str _ | .loc _, .tup _ | .loc _, .lst _ | .loc _, .glo _ | .loc _, .scr _ | .loc _, .clo _ _ | .loc _, .exn _ _ _ => isFalse (fun e => nomatch e)
  | .glo _, .non | .glo _, .bl _ | .glo _, .int _ | .glo _, .str _ | .glo _, .tup _ | .glo _, .lst _ | .glo _, .loc _ | .glo _, .scr _ | .glo _, .clo _ _ | .glo _, .exn _ _ _ => isFalse (fun e => nomatch e)
  | .scr _, .non | .scr _, .bl _ | .scr _, .int _ | .scr _, .str _ | .scr _, .tup _ | .scr _, .lst _ | .scr _, .loc _ | .scr _, .glo _ | .scr _, .clo _ _ | .scr _, .exn _ _ _ => isFalse (fun e => nomatch e)
  | .clo _ _, .non | .clo _ _, .bl _ | .clo _ _, .int _ | .clo _ _, .str _ | .clo _ _, .tup _ | .clo _ _, .lst _ | .clo _ _, .loc _ | .clo _ _, .glo _ | .clo _ _, .scr _ | .clo _ _, .exn _ _ _ => isFalse (fun e => nomatch e)
  | .exn _ _ _, .non | .exn _ _ _, .bl _ | .exn _ _ _, .int _ | .exn _ _ _, .str _ | .exn _ _ _, .tup _ | .exn _ _ _, .lst _ | .exn _ _ _, .loc _ | .exn _ _ _, .glo _ | .exn _ _ _, .scr _ | .exn _ _ _, .clo _ _ => isFalse (fun e => nomatch e)
def PV.decs : (a b : List PV) → Decidable (a = b)
  | [], [] => isTrue rfl
  | [], _ :: _ => isFalse (fun e => nomatch e)
  | _ :: _, [] => isFalse (fun e => nomatch e)
  | x :: xs, y :: ys => match PV.dec x y with
    | isTrue h => (match PV.decs xs ys with
      | isTrue h2 => isTrue (by rw [h, h2])
      | isFalse h2 => isFalse (fun e => h2 (List.cons.inj e).2))
    | isFalse h => isFalse (fun e => h (List.cons.inj e).1)
end
instance : DecidableEq PV := PV.dec
inductive MO where
  | lst (xs : List PV)
  | dct (kvs : List (PV × PV))
  | ins (c : Nat) (fs : List (Nat × PV))
  deriving Inhabited, DecidableEq
abbrev Sto := List MO
abbrev Env := List (Option PV)
mutual
def PV.toD : PV → Option PyData
  | .non => some .none
  | .bl b => some (.bool b)
  | .int i => some (.int i)
  | .str x => some (.str x)
  | .tup xs => (PV.toDs xs).map .tuple
  | .lst xs => (PV.toDs xs).map .list
  | _ => none
def PV.toDs : List PV → Option (List PyData)
  | [] => some []
  | x :: xs => match PV.toD x, PV.toDs xs with
    | some d, some ds => some (d :: ds)
    | _, _ => none
end
inductive Bop | add | sub | mul | fdiv | mod | pow
  deriving DecidableEq
inductive Cop | eq | ne | lt | le | gt | ge | is | isnot | in_ | notin
  deriving DecidableEq
inductive Bf | len | abs | int | divmod | min2 | max2 | sum | all | any | minL | maxL | sorted | list | tuple | str
  deriving DecidableEq
inductive Ty | int | bool | str | tup | lst | dct | own (c : Nat) | xc (cs : List Nat)
  deriving DecidableEq
inductive Bm | append | pop | popAt | extend | split | get1 | get2 | setdefault | items | values
  deriving DecidableEq
mutual
inductive E where
  | var (i : Nat)
  | cst (c : PV)
  | glo (x : Nat)
  | bin (o : Bop) (m : Bool) (a b : E)
  | neg (a : E)
  | cmp (o : Cop) (a b : E)
  | chn (o o' : Cop) (a b c : E)
  | and (a b : E) | or (a b : E) | not (a : E)
  | ite (c : T) (a b : E)
  | tup (es : Es)
  | lst (m : Bool) (es : Es)
  | dct (ks vs : Es)
  | ix (a i : E)
  | dget (a i : E)
  | eqO (neg : Bool) (a b : E)
  | slc (m : Bool) (a : E) (lo hi : OE)
  | atr (a : E) (f : Nat)
  | call (k : Nat) (es : As) (dv : List PV)
  | callK (k : Nat) (es : Es) (kw : Es) (ord : List Nat)
  | mk (c : Nat) (es : Es)
  | mkK (c : Nat) (es : Es) (kw : Es) (ord : List Nat)
  | exm (c f : Nat) (es : Es)
  | bf (f : Bf) (m : Bool) (es : Es)
  | isi (a : E) (t : Ty)
  | callV (i : Nat) (es : Es)
  | meth (o : E) (f : Nat) (es : Es) (dv : List PV)
  | bm (f : Bm) (m : Bool) (o : E) (es : Es)
  | callI (k : Nat) (es : Es) (e : E)
  | lc (m : Bool) (own : List Nat) (g : Tg) (it : It) (c : OT) (e : E)
inductive Es where
  | nil
  | cons (a : E) (r : Es)
inductive As where
  | nil
  | cons (a : E) (r : As)
  | lam (k : Nat) (r : As)
  | fvar (i : Nat) (r : As)
inductive T where
  | of (a : E)
  | cmp (o : Cop) (a b : E)
  | chn (o o' : Cop) (a b c : E)
  | and (a b : T) | or (a b : T) | not (a : T)
inductive OT where
  | non
  | som (c : T)
inductive OE where
  | non
  | som (a : E)
inductive Tg where
  | name (i : Nat)
  | tup (gs : Tgs)
  | sub (o i : E)
  | fld (o : E) (f : Nat)
inductive Tgs where
  | nil
  | cons (g : Tg) (r : Tgs)
inductive It where
  | of (a : E)
  | rng (a : E)
  | rng2 (a b : E)
  | enu (a : E)
  | zip (a b : E)
  | items (a : E)
end
mutual
inductive S where
  | expr (e : E)
  | asg (g : Tg) (e : E)
  | ret (e : E)
  | retN
  | cond (c : T) (a b : Ss)
  | for_ (g : Tg) (it : It) (b : Ss)
  | whl (c : T) (b : Ss)
  | pass | brk | cont
  | raise (c : Nat) (es : Es)
  | never
inductive Ss where
  | nil
  | cons (a : S) (r : Ss)
end
structure Def where
  np : Nat
  nl : Nat
  body : Ss
structure Lam where
  np : Nat
  caps : List Nat
  nl : Nat
  body : E
structure Prog where
  defs : List (Nat × Def)
  lams : List (Nat × Lam)
  globs : List (Nat × PV)
  cts : List PV
  cls : List (Nat × Nat)
  flds : List (Nat × List Nat)
  mets : List ((Nat × Nat) × Nat)
  props : List ((Nat × Nat) × Nat)
  eqs : List (Nat × Nat)
inductive Out (α : Type) where
  | ok (a : α) (s : Sto)
  | exc (c : Nat) (v : List PV) (s : Sto)
  | bad
abbrev M (α : Type) := Sto → Out α
def M.ret {α : Type} (a : α) : M α := fun s => .ok a s
def M.bad {α : Type} : M α := fun _ => .bad
def M.bnd {α β : Type} (m : M α) (f : α → M β) : M β := fun s => match m s with
  | .ok a s' => f a s'
  | .exc c v s' => .exc c v s'
  | .bad => .bad
def M.opt {α : Type} (o : Option α) : M α := match o with
  | some a => M.ret a
  | none => M.bad
def M.grd {α : Type} (b : Bool) (m : M α) : M α := if b then m else M.bad
def M.nox {α : Type} (m : M α) : M α := fun s => match m s with
  | .exc _ _ _ => .bad
  | o => o
abbrev SZ : Nat := 16777216
def newL (m : Bool) (xs : List PV) : M PV := fun s => if xs.length ≤ SZ then (if m then .ok (.loc s.length) (s ++ [.lst xs]) else .ok (.lst xs) s) else .bad
def newT (xs : List PV) : M PV := M.grd (decide (xs.length ≤ SZ)) (M.ret (.tup xs))
def asL (x : PV) : M (List PV) := fun s => match x with
  | .lst xs => .ok xs s
  | .loc n => (match s[n]? with
    | some (.lst xs) => .ok xs s
    | _ => .bad)
  | _ => .bad
def asS (x : PV) : M (List PV) := fun s => match x with
  | .tup xs => .ok xs s
  | .scr ns => .ok (ns.map .int) s
  | .lst xs => .ok xs s
  | .loc n => (match s[n]? with
    | some (.lst xs) => .ok xs s
    | _ => .bad)
  | _ => .bad
def asL2 (x : PV) : M (List PV) := match x with
  | .scr ns => M.ret (ns.map .int)
  | x => asL x
def asD (x : PV) : M PyData := fun s => match x with
  | .loc n => (match s[n]? with
    | some (.lst xs) => (match PV.toDs xs with
      | some ds => .ok (.list ds) s
      | none => .bad)
    | _ => .bad)
  | _ => (match x.toD with
    | some d => .ok d s
    | none => .bad)
def truth (x : PV) : M Bool := fun s => match x with
  | .non => .ok false s
  | .bl b => .ok b s
  | .int i => .ok (i != 0) s
  | .str z => .ok ((z.length : Int) != 0) s
  | .tup xs => .ok (!xs.isEmpty) s
  | .lst xs => .ok (!xs.isEmpty) s
  | .loc n => (match s[n]? with
    | some (.lst xs) => .ok (!xs.isEmpty) s
    | _ => .bad)
  | _ => .bad
def in64 (i : Int) : Bool := decide (-(2 ^ 64) < i) && decide (i < 2 ^ 64)
def in63 (i : Int) : Bool := decide (-(2 ^ 63) ≤ i) && decide (i < 2 ^ 63)
def binV (o : Bop) (m : Bool) (x y : PV) : M PV := match o, x, y with
  | .add, .int i, .int j => M.ret (.int (i + j))
  | .sub, .int i, .int j => M.ret (.int (i - j))
  | .mul, .int i, .int j => M.grd (in64 i || in64 j) (M.ret (.int (i * j)))
  | .fdiv, .int i, .int j => M.grd (decide (j ≠ 0) && decide (j.natAbs < 1073741824)) (M.ret (.int (i.fdiv j)))
  | .mod, .int i, .int j => M.grd (decide (j ≠ 0)) (M.ret (.int (i.fmod j)))
  | .pow, .int i, .int j => M.grd (decide (0 ≤ j) && decide (j ≤ 1000000) && in64 i) (M.ret (.int (i ^ j.toNat)))
  | .add, .str a, .str b => M.grd (decide (a.length + b.length ≤ SZ)) (M.ret (.str (a ++ b)))
  | .add, .tup xs, .tup ys => newT (xs ++ ys)
  | .add, a, b => M.bnd (asL a) fun xs => M.bnd (asL b) fun ys => newL m (xs ++ ys)
  | .mul, a, .int k => M.bnd (asL a) fun xs => M.grd (in63 k && decide (xs.length * k.toNat ≤ SZ)) (newL m (List.replicate k.toNat xs).flatten)
  | _, _, _ => M.bad
def lt2 (d e : PyData) : Option Bool := if PySem.W.alike d e && decide (min d.depth e.depth ≤ 60) then (match d with
  | .none => none
  | _ => some (PySem.W.dataLt d e)) else none
def isK : PV → Bool
  | .int _ => true
  | .str _ => true
  | _ => false
def isKT : PV → Bool
  | .tup xs => xs.all isK
  | _ => false
def kOk (cts : List PV) (kvs : List (PV × PV)) (k : PV) : Bool := (isK k && kvs.all fun p => isK p.1) || (isKT k && !cts.contains k && kvs.all fun p => isKT p.1)
def kfind (kvs : List (PV × PV)) (k : PV) : Option PV := (kvs.find? fun p => decide (p.1 = k)).map (·.2)
def kput (kvs : List (PV × PV)) (k v : PV) : List (PV × PV) := if kvs.any (fun p => decide (p.1 = k)) then kvs.map (fun p => if p.1 = k then (p.1, v) else p) else kvs ++ [(k, v)]
def asDct (x : PV) : M (List (PV × PV)) := fun s => match x with
  | .loc n => (match s[n]? with
    | some (.dct kvs) => .ok kvs s
    | _ => .bad)
  | _ => .bad
def chars (z : Str) : List PV := z.cps.toList.map fun c => .str ⟨#[c]⟩
def inD (x y : PV) : M Bool := M.bnd (asD y) fun c => M.bnd (asD x) fun d => M.grd (decide (d.depth ≤ 60)) (match c with
  | .list es => M.ret (es.any fun e => PyData.eqv e d)
  | .tuple es => M.ret (es.any fun e => PyData.eqv e d)
  | _ => M.bad)
def inT (z : Str) : PV → M Bool
  | .str ⟨⟨[c]⟩⟩ => M.ret (decide (c ∈ z.cps.toList))
  | _ => M.bad
def inV (cts : List PV) (x y : PV) : M Bool := match y with
  | .str z => inT z x
  | .loc n => fun s => (match s[n]? with
    | some (.dct kvs) => M.grd (kOk cts kvs x) (M.ret (kfind kvs x).isSome) s
    | _ => inD x (.loc n) s)
  | y => inD x y
def cmpI (o : Cop) (i j : Int) : Option Bool := match o with
  | .lt => some (decide (i < j))
  | .le => some (decide (i ≤ j))
  | .gt => some (decide (j < i))
  | .ge => some (decide (j ≤ i))
  | _ => none
def isNon : PV → Bool
  | .non => true
  | _ => false
def eqV (x y : PV) : M Bool := M.bnd (asD x) fun d => M.bnd (asD y) fun e => M.grd (decide (min d.depth e.depth ≤ 60)) (M.ret (PyData.eqv d e))
def isD0 (s : Sto) : PV → Bool
  | .loc n => (match s[n]? with
    | some (.dct []) => true
    | _ => false)
  | _ => false
def cmpV (cts : List PV) (o : Cop) (x y : PV) : M Bool := match o with
  | .eq => fun s => if isD0 s x && isD0 s y then .ok true s else eqV x y s
  | .ne => M.bnd (asD x) fun d => M.bnd (asD y) fun e => M.grd (decide (min d.depth e.depth ≤ 60)) (M.ret (!PyData.eqv d e))
  | .is => (match y with
    | .non => M.ret (isNon x)
    | _ => M.bad)
  | .isnot => (match y with
    | .non => M.ret (!isNon x)
    | _ => M.bad)
  | .in_ => inV cts x y
  | .notin => M.bnd (inV cts x y) fun b => M.ret (!b)
  | o => (match x, y with
    | .int i, .int j => M.opt (cmpI o i j)
    | _, _ => (match o with
      | .lt => M.bnd (asD x) fun d => M.bnd (asD y) fun e => M.opt (lt2 d e)
      | _ => M.bad))
def ownAns (t : Ty) (c : Nat) : Bool := match t with
  | .own d => decide (c = d)
  | _ => false
def isB (cl : List (Nat × Nat)) (x : PV) (t : Ty) : M Bool := fun s => match x with
  | .non => .ok false s
  | .bl _ => .ok (match t with
    | .bool => true
    | .int => true
    | _ => false) s
  | .int _ => .ok (match t with
    | .int => true
    | _ => false) s
  | .str _ => .ok (match t with
    | .str => true
    | _ => false) s
  | .tup _ => .ok (match t with
    | .tup => true
    | _ => false) s
  | .lst _ => .ok (match t with
    | .lst => true
    | _ => false) s
  | .loc n => (match s[n]? with
    | some (.lst _) => .ok (match t with
      | .lst => true
      | _ => false) s
    | some (.dct _) => .ok (match t with
      | .dct => true
      | _ => false) s
    | some (.ins c _) => M.grd (cl.lookup c).isSome (M.ret (ownAns t c)) s
    | none => .bad)
  | .exn c _ _ => (match t with
    | .xc cs => .ok (decide (c ∈ cs)) s
    | _ => .bad)
  | _ => .bad
def ixV (x i : PV) : M PV := match i with
  | .int k => fun s => (match x with
    | .str z => M.opt ((atI z.cps.toList k).map fun c => PV.str ⟨#[c]⟩) s
    | _ => M.bnd (asS x) (fun xs => M.opt (atI xs k)) s)
  | _ => M.bad
def dgetV (cts : List PV) (x i : PV) : M PV := M.bnd (asDct x) fun kvs => M.grd (kOk cts kvs i) (M.opt (kfind kvs i))
def cut {α : Type} (xs : List α) (lo hi : Option Int) : List α := (xs.drop (sIx xs.length 0 lo)).take (sIx xs.length xs.length hi - sIx xs.length 0 lo)
def slcV (m : Bool) (x : PV) (lo hi : Option Int) : M PV := match x with
  | .str z => M.ret (.str ⟨(cut z.cps.toList lo hi).toArray⟩)
  | .tup xs => M.ret (.tup (cut xs lo hi))
  | x => M.bnd (asL2 x) fun xs => newL m (cut xs lo hi)
def asInts : List PV → Option (List Int)
  | [] => some []
  | .int i :: r => (asInts r).map (i :: ·)
  | _ :: _ => none
def asBls : List PV → Option (List Bool)
  | [] => some []
  | .bl i :: r => (asBls r).map (i :: ·)
  | _ :: _ => none
def minI : List Int → Option Int
  | [] => none
  | i :: r => some (r.foldl (fun a b => if b < a then b else a) i)
def maxI : List Int → Option Int
  | [] => none
  | i :: r => some (r.foldl (fun a b => if b > a then b else a) i)
def sortable (ds : List PyData) : Bool := (ds.all fun d => ds.all fun e => PySem.W.alike d e) && (ds.all fun d => decide (d.depth ≤ 60)) &&
  ((ds.all fun d => match d with
    | .tuple (_ :: _) => true
    | _ => false) || (ds.all fun d => match d with
    | .none => false
    | .tuple _ => false
    | _ => true))
def sortPD (l : List (PV × PyData)) : List (PV × PyData) := l.mergeSort (PySem.W.dataLe false (·.2))
def divmodV (i j : Int) : M PV := M.grd (decide (0 < j) && decide (j < 2 ^ 30)) (M.ret (.tup [.int (i.fdiv j), .int (i.fmod j)]))
def lenV (x : PV) : M PV := match x with
  | .str z => M.ret (.int z.length)
  | .loc n => fun s => (match s[n]? with
    | some (.dct kvs) => .ok (.int kvs.length) s
    | _ => M.bnd (asS (.loc n)) (fun ys => M.ret (.int ys.length)) s)
  | x => M.bnd (asS x) (fun ys => M.ret (.int ys.length))
def listV (m : Bool) (x : PV) : M PV := match x with
  | .loc n => fun s => (match s[n]? with
    | some (.dct kvs) => newL m (kvs.map (·.1)) s
    | _ => M.bnd (asS (.loc n)) (newL m) s)
  | x => M.bnd (asS x) (newL m)
def sortedV (m : Bool) (x : PV) : M PV := M.bnd (asL x) fun ys => M.bnd (M.opt (PV.toDs ys)) fun ds => M.grd (sortable ds) (newL m ((sortPD (ys.zip ds)).map (·.1)))
def intV : PV → M PV
  | .int i => M.ret (.int i)
  | .bl b => M.ret (.int (if b then 1 else 0))
  | _ => M.bad
def absV : PV → M PV
  | .int i => M.ret (.int (if i < 0 then -i else i))
  | _ => M.bad
def two (f : Int → Int → M PV) : PV → PV → M PV
  | .int i, .int j => f i j
  | _, _ => M.bad
def bfV (f : Bf) (m : Bool) (xs : List PV) : M PV := match f, xs with
  | .len, [x] => lenV x
  | .abs, [x] => absV x
  | .int, [x] => intV x
  | .divmod, [x, y] => two divmodV x y
  | .min2, [x, y] => two (fun i j => M.ret (.int (if j < i then j else i))) x y
  | .max2, [x, y] => two (fun i j => M.ret (.int (if j > i then j else i))) x y
  | .sum, [x] => M.bnd (asL2 x) fun ys => M.bnd (M.opt (asInts ys)) fun ns => M.ret (.int ns.sum)
  | .all, [x] => M.bnd (asL2 x) fun ys => M.bnd (M.opt (asBls ys)) fun bs => M.ret (.bl (bs.all id))
  | .any, [x] => M.bnd (asL2 x) fun ys => M.bnd (M.opt (asBls ys)) fun bs => M.ret (.bl (bs.any id))
  | .minL, [x] => M.bnd (asL2 x) fun ys => M.bnd (M.opt ((asInts ys).bind minI)) fun i => M.ret (.int i)
  | .maxL, [x] => M.bnd (asL2 x) fun ys => M.bnd (M.opt ((asInts ys).bind maxI)) fun i => M.ret (.int i)
  | .sorted, [x] => sortedV m x
  | .list, [x] => listV m x
  | .tuple, [x] => M.bnd (asS x) fun ys => M.ret (.tup ys)
  | _, _ => M.bad
def okS (x : Str) : Bool := decide (x.length ≤ SZ) && x.cps.all (· < 0x110000)
def idxS (z : Str) : List PV → Option Nat
  | [] => none
  | .str y :: r => if y = z then some 0 else (idxS z r).map (· + 1)
  | _ :: _ => none
def allS : List PV → Bool
  | [] => true
  | .str _ :: r => allS r
  | _ :: _ => false
def idxV (o x : PV) : M PV := match o, x with
  | .tup ys, .str z => M.grd (allS ys) (M.bnd (M.opt (idxS z ys)) fun k => M.ret (.int k))
  | _, _ => M.bad
def bmT (f : Bm) (x : PV) : M Unit := fun s => match f, x with
  | .split, .str _ => .ok () s
  | .append, .loc n => (match s[n]? with
    | some (.lst _) => .ok () s
    | _ => .bad)
  | .extend, .loc n => (match s[n]? with
    | some (.lst _) => .ok () s
    | _ => .bad)
  | .pop, .loc n => (match s[n]? with
    | some (.lst _) => .ok () s
    | _ => .bad)
  | .popAt, .loc n => (match s[n]? with
    | some (.lst _) => .ok () s
    | _ => .bad)
  | .get1, .loc n => (match s[n]? with
    | some (.dct _) => .ok () s
    | _ => .bad)
  | .get2, .loc n => (match s[n]? with
    | some (.dct _) => .ok () s
    | _ => .bad)
  | .setdefault, .loc n => (match s[n]? with
    | some (.dct _) => .ok () s
    | _ => .bad)
  | _, _ => .bad
def lstAt (n : Nat) (f : List PV → M PV) : M PV := fun s => match s[n]? with
  | some (.lst ys) => f ys s
  | _ => .bad
def wrL (n : Nat) (ys : List PV) (r : PV) : M PV := fun s => .ok r (s.set n (.lst ys))
def bmV (cts : List PV) (f : Bm) (m : Bool) (o : PV) (xs : List PV) : M PV := match f, o, xs with
  | .append, .loc n, [y] => lstAt n fun ys => M.grd (decide (ys.length < SZ)) (wrL n (ys ++ [y]) .non)
  | .extend, .loc n, [y] => lstAt n fun ys => M.bnd (asL y) fun zs => M.grd (decide (ys.length + zs.length ≤ SZ)) (wrL n (ys ++ zs) .non)
  | .pop, .loc n, [] => lstAt n fun ys => M.bnd (M.opt ys[ys.length - 1]?) fun y => wrL n ys.dropLast y
  | .popAt, .loc n, [.int i] => lstAt n fun ys => M.bnd (M.opt (ixN ys.length i)) fun k => M.bnd (M.opt ys[k]?) fun y => wrL n (ys.eraseIdx k) y
  | .split, .str z, [.str y] => M.grd (decide (y.length ≠ 0) && decide (z.length + 2 ≤ SZ) && (PySem.Txt.split z y).all okS) (newL m ((PySem.Txt.split z y).map .str))
  | .get1, o, [k] => M.bnd (asDct o) fun kvs => M.grd (kOk cts kvs k) (M.ret ((kfind kvs k).getD .non))
  | .get2, o, [k, v] => M.bnd (asDct o) fun kvs => M.grd (kOk cts kvs k) (M.ret ((kfind kvs k).getD v))
  | .setdefault, .loc n, [k, v] => M.bnd (asDct (.loc n)) fun kvs => M.grd (kOk cts kvs k) fun s => (match kfind kvs k with
    | some u => .ok u s
    | none => if kvs.length < SZ then .ok v (s.set n (.dct (kvs ++ [(k, v)]))) else .bad)
  | _, _, _ => M.bad
def setV (cts : List PV) (o i v : PV) : M Unit := match o with
  | .loc n => fun s => (match s[n]? with
    | some (.lst xs) => (match i with
      | .int k => (match ixN xs.length k with
        | some j => .ok () (s.set n (.lst (xs.set j v)))
        | none => .bad)
      | _ => .bad)
    | some (.dct kvs) => if kOk cts kvs i && decide (kvs.length < SZ) then .ok () (s.set n (.dct (kput kvs i v))) else .bad
    | _ => .bad)
  | _ => M.bad
def fput (f : Nat) (v : PV) : List (Nat × PV) → List (Nat × PV)
  | [] => [(f, v)]
  | (g, u) :: r => if g = f then (g, v) :: r else (g, u) :: fput f v r
def isFld (fl : List (Nat × List Nat)) (c f : Nat) : Bool := match fl.lookup c with
  | some gs => gs.contains f
  | none => false
def fldV (fl : List (Nat × List Nat)) (o : PV) (f : Nat) : M PV := fun s => match o with
  | .loc n => (match s[n]? with
    | some (.ins c fs) => M.grd (isFld fl c f) (M.opt (fs.lookup f)) s
    | _ => .bad)
  | _ => .bad
def setF (fl : List (Nat × List Nat)) (o : PV) (f : Nat) (v : PV) : M Unit := fun s => match o with
  | .loc n => (match s[n]? with
    | some (.ins c fs) => if isFld fl c f && decide (fs.length < 900) then .ok () (s.set n (.ins c (fput f v fs))) else .bad
    | _ => .bad)
  | _ => .bad
def newD (ks vs : List PV) : M PV := match ks, vs with
  | [], [] => fun s => .ok (.loc s.length) (s ++ [.dct []])
  | [k], [v] => M.grd (isK k) fun s => .ok (.loc s.length) (s ++ [.dct [(k, v)]])
  | _, _ => M.bad
structure Call where
  def_ : Nat → List PV → M PV
  make : Nat → List PV → M PV
  low : Nat → List PV → M PV
  clo : Nat → List PV → List PV → M PV
def isClo : PV → Bool
  | .clo _ _ => true
  | _ => false
def getX (ρ : Env) (i : Nat) : M PV := match ρ[i]? with
  | some (some d) => M.ret d
  | _ => M.bad
def getVar (ρ : Env) (i : Nat) : M PV := M.bnd (getX ρ i) fun d => M.grd (!isClo d) (M.ret d)
def caps (ρ : Env) : List Nat → M (List PV)
  | [] => M.ret []
  | i :: r => M.bnd (getX ρ i) fun x => M.bnd (caps ρ r) fun xs => M.ret (x :: xs)
def noClo (ρ : Env) : Env := ρ.map fun o => match o with
  | some (.clo _ _) => none
  | o => o
def wipe (own : List Nat) (ρ : Env) : Env := own.foldr (fun i ρ => ρ.set i none) (noClo ρ)
def itemsOf (x : PV) : M (List PV) := fun s => match x with
  | .str z => .ok (chars z) s
  | x => asS x s
def isTupB : PV → Bool
  | .tup _ => true
  | _ => false
def rngL (i j : Int) : List PV := (List.range (j - i).toNat).map fun (k : Nat) => PV.int (i + (k : Int))
def in62 (i : Int) : Bool := decide (-(2 ^ 62) ≤ i) && decide (i < 2 ^ 62)
abbrev Wat := List (Nat × MO)
def watch (ws : Wat) : M Unit := fun s => if ws.all (fun w => decide (s[w.1]? = some w.2)) then .ok () s else .bad
def watOf (x : PV) : M Wat := fun s => match x with
  | .loc n => (match s[n]? with
    | some o => .ok [(n, o)] s
    | none => .bad)
  | _ => .ok [] s
def addO (acc : List PV) : Option PV → List PV
  | some y => acc ++ [y]
  | none => acc
def mapM (ws : Wat) (f : PV → M (Option PV)) : List PV → List PV → M (List PV)
  | [], acc => M.bnd (watch ws) fun _ => M.ret acc
  | x :: r, acc => M.bnd (watch ws) fun _ => M.bnd (f x) fun o => mapM ws f r (addO acc o)
def argsBy {α : Type} (xs : List α) : List Nat → Option (List α)
  | [] => some []
  | i :: r => match xs[i]?, argsBy xs r with
    | some x, some ys => some (x :: ys)
    | _, _ => none
def nilG : List PV → Env → M Env
  | [], ρ => M.ret ρ
  | _ :: _, _ => M.bad
def consG (mg : PV → Env → M Env) (ms : List PV → Env → M Env) : List PV → Env → M Env
  | [], _ => M.bad
  | x :: xs, ρ => M.bnd (mg x ρ) fun ρ => ms xs ρ
def tupG (n : Nat) (ms : List PV → Env → M Env) : PV → Env → M Env
  | .tup xs, ρ => M.grd (decide (xs.length = n)) (ms xs ρ)
  | _, _ => M.bad
def gsLen : Tgs → Nat
  | .nil => 0
  | .cons _ r => gsLen r + 1
def clsOf (x : PV) : M Nat := fun s => match x with
  | .loc n => (match s[n]? with
    | some (.ins c _) => .ok c s
    | _ => .bad)
  | _ => .bad
def eqArg (c : Nat) (y : PV) : M Unit := fun s => match y with
  | .tup _ => .ok () s
  | .loc n => (match s[n]? with
    | some (.ins c' _) => if c' = c then .ok () s else .bad
    | _ => .bad)
  | _ => .bad
section
variable (P : Prog) (C : Call)
def atrV (x : PV) (f : Nat) : M PV := match x with
  | .exn _ g vs => M.grd (decide (g = f)) (M.opt vs[0]?)
  | x => M.bnd (clsOf x) fun c => match P.props.lookup (c, f) with
  | some k => M.nox (C.low k [x])
  | none => fldV P.flds x f
mutual
def ev (ρ : Env) : E → M PV
  | .var i => getVar ρ i
  | .cst c => M.ret c
  | .glo x => M.opt (P.globs.lookup x)
  | .bin o m a b => M.bnd (ev ρ a) fun x => M.bnd (ev ρ b) fun y => binV o m x y
  | .neg a => M.bnd (ev ρ a) fun x => (match x with
    | .int i => M.ret (.int (-i))
    | _ => M.bad)
  | .cmp o a b => M.bnd (ev ρ a) fun x => M.bnd (ev ρ b) fun y => M.bnd (cmpV P.cts o x y) fun k => M.ret (.bl k)
  | .chn o o' a b c => M.bnd (ev ρ a) fun x => M.bnd (ev ρ b) fun y => M.bnd (cmpV P.cts o x y) fun k => if k then M.bnd (ev ρ c) fun z => M.bnd (cmpV P.cts o' y z) fun k => M.ret (.bl k) else M.ret (.bl false)
  | .and a b => M.bnd (ev ρ a) fun x => (match x with
    | .bl true => ev ρ b
    | .bl false => M.ret (.bl false)
    | _ => M.bad)
  | .or a b => M.bnd (ev ρ a) fun x => (match x with
    | .bl false => ev ρ b
    | .bl true => M.ret (.bl true)
    | _ => M.bad)
  | .not a => M.bnd (ev ρ a) fun x => (match x with
    | .bl k => M.ret (.bl (!k))
    | _ => M.bad)
  | .ite c a b => M.bnd (evT ρ c) fun k => if k then ev ρ a else ev ρ b
  | .tup es => M.bnd (evs ρ es) newT
  | .lst m es => M.bnd (evs ρ es) (newL m)
  | .dct ks vs => M.bnd (evs ρ ks) fun ks => M.bnd (evs ρ vs) fun vs => newD ks vs
  | .ix a i => M.bnd (ev ρ a) fun x => M.bnd (ev ρ i) fun y => ixV x y
  | .dget a i => M.bnd (ev ρ a) fun x => M.bnd (ev ρ i) fun y => dgetV P.cts x y
  | .eqO neg a b => M.bnd (ev ρ a) fun x => M.bnd (ev ρ b) fun y => M.bnd (clsOf x) fun c => M.bnd (eqArg c y) fun _ => (match P.eqs.lookup c with
    | some k => M.bnd (C.low k [x, y]) fun z => (match z with
      | .bl q => M.ret (.bl (if neg then !q else q))
      | _ => M.bad)
    | none => M.bad)
  | .slc m a lo hi => M.bnd (ev ρ a) fun x => M.bnd (evo ρ lo) fun l => M.bnd (evo ρ hi) fun h => slcV m x l h
  | .atr a f => M.bnd (ev ρ a) fun x => atrV P C x f
  | .call k es dv => M.bnd (eva ρ es) fun xs => C.def_ k (xs ++ dv)
  | .callK k es kw ord => M.bnd (evs ρ es) fun xs => M.bnd (evs ρ kw) fun ys => M.bnd (M.opt (argsBy (xs ++ ys) ord)) (C.def_ k)
  | .mk c es => M.bnd (evs ρ es) (C.make c)
  | .mkK c es kw ord => M.bnd (evs ρ es) fun xs => M.bnd (evs ρ kw) fun ys => M.bnd (M.opt (argsBy (xs ++ ys) ord)) (C.make c)
  | .exm c f es => M.bnd (evs ρ es) fun vs => M.ret (.exn c f vs)
  | .bf f m es => M.bnd (evs ρ es) (bfV f m)
  | .isi a t => M.bnd (ev ρ a) fun x => M.bnd (isB P.cls x t) fun k => M.ret (.bl k)
  | .callV i es => M.bnd (getX ρ i) fun f => (match f with
    | .clo k cs => M.bnd (evs ρ es) (C.clo k cs)
    | _ => M.bad)
  | .meth o f es dv => M.bnd (ev ρ o) fun x => M.bnd (clsOf x) fun c => M.bnd (M.opt (P.mets.lookup (c, f))) fun k => M.bnd (evs ρ es) fun xs => C.def_ k (x :: (xs ++ dv))
  | .bm f m o es => M.bnd (ev ρ o) fun x => M.bnd (bmT f x) fun _ => M.bnd (evs ρ es) (bmV P.cts f m x)
  | .callI k es e => M.bnd (evs ρ es) fun xs => M.bnd (C.def_ k xs) fun o => M.bnd (ev ρ e) fun x => idxV o x
  | .lc m own g it c e => M.bnd (evi ρ it) fun xs => M.bnd (mapM xs.2 (fun x => M.nox (M.bnd (evg g x (wipe own ρ)) fun ρ' => M.bnd (evC ρ' c) fun k => if k then M.bnd (ev ρ' e) fun y => M.ret (some y) else M.ret none)) xs.1 []) (newL m)
def eva (ρ : Env) : As → M (List PV)
  | .nil => M.ret []
  | .cons a r => M.bnd (ev ρ a) fun x => M.bnd (eva ρ r) fun xs => M.ret (x :: xs)
  | .lam k r => (match P.lams.lookup k with
    | some l => M.bnd (caps ρ l.caps) fun cs => M.bnd (eva ρ r) fun xs => M.ret (.clo k cs :: xs)
    | none => M.bad)
  | .fvar i r => M.bnd (getX ρ i) fun x => M.bnd (eva ρ r) fun xs => M.ret (x :: xs)
def evT (ρ : Env) : T → M Bool
  | .of e => M.bnd (ev ρ e) truth
  | .cmp o a b => M.bnd (ev ρ a) fun x => M.bnd (ev ρ b) fun y => cmpV P.cts o x y
  | .chn o o' a b c => M.bnd (ev ρ a) fun x => M.bnd (ev ρ b) fun y => M.bnd (cmpV P.cts o x y) fun k => if k then M.bnd (ev ρ c) fun z => cmpV P.cts o' y z else M.ret false
  | .and a b => M.bnd (evT ρ a) fun k => if k then evT ρ b else M.ret false
  | .or a b => M.bnd (evT ρ a) fun k => if k then M.ret true else evT ρ b
  | .not a => M.bnd (evT ρ a) fun k => M.ret (!k)
def evC (ρ : Env) : OT → M Bool
  | .non => M.ret true
  | .som c => evT ρ c
def evs (ρ : Env) : Es → M (List PV)
  | .nil => M.ret []
  | .cons a r => M.bnd (ev ρ a) fun x => M.bnd (evs ρ r) fun xs => M.ret (x :: xs)
def evo (ρ : Env) : OE → M (Option Int)
  | .non => M.ret none
  | .som a => M.bnd (ev ρ a) fun x => (match x with
    | .int i => M.ret (some i)
    | _ => M.bad)
def evg : Tg → PV → Env → M Env
  | .name i => fun v ρ => M.ret (ρ.set i (some v))
  | .tup gs => fun v ρ => tupG (gsLen gs) (evgs gs) v ρ
  | .sub o i => fun v ρ => M.bnd (ev ρ o) fun x => M.bnd (ev ρ i) fun y => M.bnd (setV P.cts x y v) fun _ => M.ret ρ
  | .fld o f => fun v ρ => M.bnd (ev ρ o) fun x => M.bnd (setF P.flds x f v) fun _ => M.ret ρ
def evgs : Tgs → List PV → Env → M Env
  | .nil => fun vs ρ => nilG vs ρ
  | .cons g r => fun vs ρ => consG (evg g) (evgs r) vs ρ
def evi (ρ : Env) : It → M (List PV × Wat)
  | .of a => M.bnd (ev ρ a) fun x => M.bnd (itemsOf x) fun xs => M.bnd (watOf x) fun w => M.ret (xs, w)
  | .rng a => M.bnd (ev ρ a) fun x => (match x with
    | .int j => M.grd (in62 j) (M.ret (rngL 0 j, []))
    | _ => M.bad)
  | .rng2 a b => M.bnd (ev ρ a) fun x => M.bnd (ev ρ b) fun y => (match x, y with
    | .int i, .int j => M.grd (in62 i && in62 j) (M.ret (rngL i j, []))
    | _, _ => M.bad)
  | .enu a => M.bnd (ev ρ a) fun x => M.bnd (asS x) fun xs => M.bnd (watOf x) fun w => M.ret (xs.zipIdx.map fun p => .tup [.int p.2, p.1], w)
  | .zip a b => M.bnd (ev ρ a) fun x => M.bnd (ev ρ b) fun y => M.grd (isTupB x == isTupB y) <| M.bnd (asS x) fun xs => M.bnd (asS y) fun ys => M.bnd (watOf x) fun w => M.bnd (watOf y) fun w' => M.ret ((xs.zip ys).map fun p => .tup [p.1, p.2], w ++ w')
  | .items a => M.bnd (ev ρ a) fun x => M.bnd (asDct x) fun kvs => M.bnd (watOf x) fun w => M.ret (kvs.map fun p => .tup [p.1, p.2], w)
end
end
inductive Fl where
  | nx
  | ret (v : PV)
  | brk
  | cnt
  deriving Inhabited
def loopM (ws : Wat) (f : PV → Env → M (Fl × Env)) : List PV → Env → M (Fl × Env)
  | [], ρ => M.bnd (watch ws) fun _ => M.ret (.nx, ρ)
  | x :: r, ρ => M.bnd (watch ws) fun _ => M.bnd (f x ρ) fun q => (match q.1 with
    | .nx => loopM ws f r q.2
    | .cnt => loopM ws f r q.2
    | .brk => M.ret (.nx, q.2)
    | .ret v => M.ret (.ret v, q.2))
def whileM (c : Env → M Bool) (b : Env → M (Fl × Env)) : Nat → Env → M (Fl × Env)
  | 0, _ => M.bad
  | n + 1, ρ => M.bnd (c ρ) fun k => if k then M.bnd (b ρ) fun q => (match q.1 with
    | .nx => whileM c b n q.2
    | .cnt => whileM c b n q.2
    | .brk => M.ret (.nx, q.2)
    | .ret v => M.ret (.ret v, q.2)) else M.ret (.nx, ρ)
def FUEL : Nat := 1000000000000
section
variable (P : Prog) (C : Call)
mutual
def ex : S → Env → M (Fl × Env)
  | .expr e, ρ => M.bnd (ev P C ρ e) fun _ => M.ret (.nx, ρ)
  | .asg g e, ρ => M.bnd (ev P C ρ e) fun v => M.bnd (evg P C g v ρ) fun ρ' => M.ret (.nx, ρ')
  | .ret e, ρ => M.bnd (ev P C ρ e) fun v => M.ret (.ret v, ρ)
  | .retN, ρ => M.ret (.ret .non, ρ)
  | .cond c a b, ρ => M.bnd (evT P C ρ c) fun k => if k then exs a ρ else exs b ρ
  | .for_ g it b, ρ => M.bnd (evi P C ρ it) fun xs => loopM xs.2 (fun x ρ => M.bnd (evg P C g x ρ) (exs b)) xs.1 ρ
  | .whl c b, ρ => whileM (fun ρ => evT P C ρ c) (fun ρ => exs b ρ) FUEL ρ
  | .pass, ρ => M.ret (.nx, ρ)
  | .brk, ρ => M.ret (.brk, ρ)
  | .cont, ρ => M.ret (.cnt, ρ)
  | .raise c es, ρ => M.bnd (evs P C ρ es) fun vs s => .exc c vs s
  | .never, _ => M.bad
def exs : Ss → Env → M (Fl × Env)
  | .nil, ρ => M.ret (.nx, ρ)
  | .cons a r, ρ => M.bnd (ex a ρ) fun q => (match q.1 with
    | .nx => exs r q.2
    | f => M.ret (f, q.2))
end
def body (d : Def) (args : List PV) : M PV := if args.length = d.np then M.bnd (exs P C d.body (args.map some ++ List.replicate (d.nl - d.np) none)) fun q => (match q.1 with
  | .nx => M.ret .non
  | .ret v => M.ret v
  | _ => M.bad) else M.bad
def lamBody (l : Lam) (cs args : List PV) : M PV := if args.length = l.np ∧ cs.length = l.caps.length then ev P C ((args ++ cs).map some ++ List.replicate (l.nl - l.np - l.caps.length) none) l.body else M.bad
end
def nonM (n : Nat) (v : PV) : M PV := match v with
  | .non => M.ret (.loc n)
  | _ => M.bad
def mkM (m : List PV → M PV) (c : Nat) (args : List PV) : M PV := fun s => M.bnd (m (.loc s.length :: args)) (nonM s.length) (s ++ [.ins c []])
def runs (P : Prog) : Nat → Call
  | 0 => ⟨fun _ _ => M.bad, fun _ _ => M.bad, fun _ _ => M.bad, fun _ _ _ => M.bad⟩
  | n + 1 => ⟨fun k args => (match P.defs.lookup k with
      | some d => body P (runs P n) d args
      | none => M.bad),
    fun c args => (match P.cls.lookup c with
      | some k => mkM ((runs P n).def_ k) c args
      | none => M.bad),
    (runs P n).def_,
    fun k cs args => (match P.lams.lookup k with
      | some l => lamBody P (runs P n) l cs args
      | none => M.bad)⟩
end Mp
namespace Mp
open PySem PySem.Spec PyProof.Rows L2 He
abbrev XiW : Type := Option (Str × Str × Arguments × FuncBody × Scope × Addr × List Str × Addr)
def xiW (K : PySem.W.Frag) (x : Str) : XiW := match K.lookup (He.ma K (He.ga K x) "__init__") with
  | some ⟨_, _, .func fd, _⟩ => some (fd.name, fd.qualname, fd.params, fd.body, fd.scope, fd.globals, fd.closure.map (·.1), fd.builtins)
  | _ => none
abbrev AlM : Type := Bool × List FnW × List XiW
def obsM (chk : PySem.W.Frag → Bool) (fn : List (Str × Option Str)) (xs : List Str) (K : PySem.W.Frag) : AlM := (chk K, fn.map (fnW K), xs.map (xiW K))
def fnAs (g : Addr → Option Obj) (f : Addr) : List Addr := match g f with
  | some ⟨_, _, .func fd, _⟩ => f :: (He.refV fd.code ++ (He.refV fd.defaults ++ fd.closure.map (·.2)))
  | _ => [f]
def clAs (g : Addr → Option Obj) (C ns : Addr) : List Addr := C :: ns :: (match g ns with
  | some ⟨_, _, .dict es _, _⟩ => es.toList.flatMap fun e => (match e.val with
    | .ref a => fnAs g a
    | _ => [])
  | _ => [])
def asM (g : Addr → Option Obj) : List Addr := mainGlobals :: cStatics :: (match g mainGlobals with
  | some ⟨_, _, .dict es _, _⟩ => es.toList.flatMap fun e => (match e.val with
    | .ref a => (match g a with
      | some ⟨_, _, .cls cd, _⟩ => clAs g a cd.ns
      | some ⟨_, _, .func _, _⟩ => fnAs g a
      | some ⟨.type "tuple", _, _, _⟩ => [a]
      | _ => [])
    | _ => [])
  | _ => [])
def hookM (chk : PySem.W.Frag → Bool) (fn : List (Str × Option Str)) (xs : List Str) (vf : List FnW) (vx : List XiW) : PySem.W.Hook where
  α := AlM
  obs := fun s => obsM chk fn xs (frG s.heap.get? (asM s.heap.get?))
  val := fun _ => (true, vf, vx)
  says := fun _ h => ∃ K : PySem.W.Frag, K.In h ∧ obsM chk fn xs K = (true, vf, vx)
  of := fun _ _ e => ⟨_, frG_in, e⟩
  keeps := fun _ _ _ ⟨K, hK, c⟩ k => ⟨K, hK.keeps k, c⟩
theorem obsM_eq {chk : PySem.W.Frag → Bool} {fn : List (Str × Option Str)} {xs : List Str} {vf : List FnW} {vx : List XiW} {g : Addr → Option Obj} {s : Shared} (h : ∀ a, g a = s.heap.get? a) : obsM chk fn xs (frG g (asM g)) = (hookM chk fn xs vf vx).obs s := by
  rw [show g = s.heap.get? from funext h] <;> rfl
def frK {α : Type} : PySem.W.Frag → (PySem.W.Frag → α) → α
  | [], k => k []
  | (a, o) :: r, k => HandSHeadRun.frNat a fun a => frK r fun r => k ((a, o) :: r)
theorem frK_eq {α : Type} : ∀ (l : PySem.W.Frag) (k : PySem.W.Frag → α), frK l k = k l
  | [], k => rfl
  | (a, o) :: r, k => by
    show HandSHeadRun.frNat a (fun a => frK r fun r => k ((a, o) :: r)) = _
    rw [HandSHeadRun.frNat_eq, frK_eq r]
def frL {α : Type} : List Addr → (List Addr → α) → α
  | [], k => k []
  | a :: r, k => HandSHeadRun.frNat a fun a => frL r fun r => k (a :: r)
theorem frL_eq {α : Type} : ∀ (l : List Addr) (k : List Addr → α), frL l k = k l
  | [], k => rfl
  | a :: r, k => by
    show HandSHeadRun.frNat a (fun a => frL r fun r => k (a :: r)) = _
    rw [HandSHeadRun.frNat_eq, frL_eq r]
def oxB (K : PySem.W.Frag) (C : Addr) : Bool := match K.lookup C with
  | some ⟨.type "type", _, .cls cd, sl⟩ => (match cd.mro, sl.toList with
    | .ref C' :: bm, [_, _, _, _, some (.builtin n), _] => C' == C && n == "ValueError.__new__" && !cd.hasDel && cd.hasDict && PySem.HandSPX.refsVE bm && decide (PySem.W.alongIn K "__init__" bm = some (some (.builtin "ValueError.__init__")))
    | _, _ => false)
  | _ => false
def xclB (K : PySem.W.Frag) (C : Addr) : Bool := oxB K C && (decide (PySem.W.findIn K (.ref C) "__setattr__" = some (some (.builtin "object.__setattr__"))) && (decide (PySem.W.typeIn K (.ref C) = some (.type "type")) && (PySem.W.keepIn K (.ref C) && (xfB K C &&
  (decide (PySem.W.findIn K (.ref C) "__class__" = some (some (.builtin "object.__class__"))) && (decide (PySem.W.specialIn K (.builtin "object.__class__") "__get__" = some (some (.builtin "getset_descriptor.__get__"))) && (decide (PySem.W.takesIn K (.builtin "object.__class__") = some true) && decide (PySem.W.mroIn K C (.type "object") = some true))))))))
def noneV : Value → Bool
  | .none => true
  | _ => false
def xiB (K : PySem.W.Frag) (file : Str) (C fI : Addr) : Bool := match K.lookup fI with
  | some ⟨_, _, .func fd, _⟩ => (match fd.closure, fd.code with
    | [(_, cc)], .ref cda => PySem.W.codeIn K (.ref cda) fd.qualname && (match K.lookup cda with
      | some ⟨_, _, .fields vs, _⟩ => (match (vs[2]? : Option Value) with
        | some (Value.str fl _) => file == fl
        | _ => false)
      | _ => false) && (match K.lookup cc with
      | some ⟨_, _, .cell (some (.ref C')), _⟩ => C' == C
      | _ => false) && noneV fd.defaults
    | _, _ => false)
  | _ => false
def xi2B (K : PySem.W.Frag) (C fI : Addr) (f : Str) : Bool := decide (PySem.W.subIn K (.ref C) (.type "ValueError") = some true) && (decide (PySem.W.mroIn K C (.ref C) = some true) && (decide (PySem.W.findIn K (.ref C) f = some none) && (decide (PySem.W.nsIn K cStatics "thirdparty.any" = some none) &&
  (decide (PySem.W.findIn K (.ref C) "__init__" = some (some (.ref fI))) && decide (PySem.W.typeIn K (.ref fI) = some (.type "function"))))))
def shA (f : Str) : Arguments → Bool
  | ⟨[], [⟨a, _, _⟩, ⟨b, _, _⟩], none, [], [], none, []⟩ => a == "self" && b == f
  | _ => false
def shB (f : Str) : List Stmt → Bool
  | [.Expr (.Call (.Attribute (.Call (.Name n1 _) [] [] _) n2 p2) [] [] p3) _, .Assign [.Attribute (.Name n3 _) n4 _] (.Name n5 _) _] => n1 == "super" && n2 == "__init__" && n3 == "self" && n4 == f && n5 == f && (p2.endLine == p3.line)
  | _ => false
def shS (f : Str) (sc : Scope) : Bool := decide (sc.names.lookup ("super" : Str) = some .globalImplicit) && decide (sc.names.lookup ("__class__" : Str) = some .free) && decide (sc.names.lookup ("self" : Str) = some .local) && decide (sc.names.lookup f = some .local) &&
  decide (sc.kind = .function) && !sc.isCoroutine && !sc.isGenerator && sc.names.all (fun y => !decide (y.2 = .cell))
def topS (p : Program) (i : Nat) : Stmt := p.main.body.getD i (.Pass ⟨0, 0, 0, 0⟩)
def defAt (p : Program) (x : Str) (i : Nat) : DefD := ⟨(x, none), x, x, defArgs (topS p i), defBody (topS p i), defScope (topS p i), [], []⟩
def iniOf : Stmt → Stmt
  | .ClassDef _ _ _ (s :: _) _ _ _ _ _ _ _ => s
  | s => s
def xiVal (p : Program) (x : Str) (i : Nat) : XiW := some ("__init__", x ++ ".__init__", defArgs (iniOf (topS p i)), .stmts (defBody (iniOf (topS p i))), defScope (iniOf (topS p i)), mainGlobals, ["__class__"], builtinsNs)
def seven : List String := ["NoneType", "bool", "int", "str", "tuple", "list", "dict"]
def kitBs (K : PySem.W.Frag) (as : List Addr) (u : Value) (cs : List Nat) : Bool := (as.zipIdx.all fun p => decide (PySem.W.kitOne K (.ref p.1) u = some (decide (p.2 ∈ cs)))) && seven.all fun n => decide (PySem.W.kitOne K (.type n) u = some false)
def gix (f : Str) : Bool := f == "given" || f == "index"
end Mp
namespace Mp
open PySem PySem.Spec PyProof.Rows L2 He
def tabF (K : PySem.W.Frag) (f : Addr) : Addr × Addr := match K.lookup f with
  | some ⟨_, _, .func fd, _⟩ => (match fd.code with
    | .ref c => (match K.lookup c with
      | some ⟨_, _, .fields vs, _⟩ => (match (vs[11]? : Option Value) with
        | some (.ref P) => (c, P)
        | _ => (0, 0))
      | _ => (0, 0))
    | _ => (0, 0))
  | _ => (0, 0)
def emptyT (K : PySem.W.Frag) (P : Addr) : Bool := match K.lookup P with
  | some ⟨.none, none, .fields ⟨[]⟩, ⟨[]⟩⟩ => true
  | _ => false
def codeB (K : PySem.W.Frag) (f c : Addr) : Bool := match K.lookup f with
  | some ⟨_, _, .func fd, _⟩ => (match fd.code with
    | .ref c' => c' == c
    | _ => false)
  | _ => false
def tabB (K : PySem.W.Frag) (f : Addr) (p : Addr × Addr) : Bool := codeB K f p.1 && (PySem.W.codeHdIn K p.1 p.2 && emptyT K p.2)
def cutK (K : PySem.W.Frag) (ps : List Addr) : PySem.W.Frag := K.filter fun q => !ps.contains q.1
def fnAsT (g : Addr → Option Obj) (f : Addr) : List Addr := match g f with
  | some ⟨_, _, .func fd, _⟩ => f :: ((match fd.code with
    | .ref c => c :: (match g c with
      | some ⟨_, _, .fields vs, _⟩ => (match (vs[11]? : Option Value) with
        | some v => He.refV v
        | none => [])
      | _ => [])
    | _ => []) ++ (He.refV fd.defaults ++ fd.closure.map (·.2)))
  | some ⟨_, _, .fields vs, _⟩ => f :: (vs.toList.flatMap He.refV).flatMap (fnAs g)
  | _ => [f]
def clAsT (g : Addr → Option Obj) (C ns : Addr) : List Addr := C :: ns :: (match g ns with
  | some ⟨_, _, .dict es _, _⟩ => es.toList.flatMap fun e => (match e.val with
    | .ref a => fnAsT g a
    | _ => [])
  | _ => [])
def asT (g : Addr → Option Obj) : List Addr := mainGlobals :: cStatics :: (match g mainGlobals with
  | some ⟨_, _, .dict es _, _⟩ => es.toList.flatMap fun e => (match e.val with
    | .ref a => (match g a with
      | some ⟨_, _, .cls cd, _⟩ => clAsT g a cd.ns
      | some ⟨_, _, .func _, _⟩ => fnAsT g a
      | some ⟨.type _, _, .seq _ _, _⟩ => [a]
      | _ => [])
    | _ => [])
  | _ => [])
abbrev LmD : Type := List ((Str × Option Str) × Str)
def tabs (K : PySem.W.Frag) (ls : LmD) : List (Addr × Addr) := ls.map fun l => tabF K (fAd K l.1)
def lamTabs (K : PySem.W.Frag) (ls : LmD) : List (Addr × Str) := ls.map fun l => ((tabF K (fAd K l.1)).2, (l.2 ++ ".<locals>.") ++ "<lambda>")
def obsT (ls : LmD) (chk : PySem.W.Frag → Bool) (fn : List (Str × Option Str)) (xs : List Str) (K : PySem.W.Frag) : AlM := frL ((tabs K ls).map (·.2)) fun ps => frK (cutK K ps) fun K1 => ((ls.all fun l => tabB K (fAd K l.1) (tabF K (fAd K l.1))) && (decide ps.Nodup && chk K1), fn.map (fnW K1), xs.map (xiW K1))
def hookT (ls : LmD) (chk : PySem.W.Frag → Bool) (fn : List (Str × Option Str)) (xs : List Str) (vf : List FnW) (vx : List XiW) : PySem.W.Hook where
  α := AlM
  obs := fun s => obsT ls chk fn xs (frG s.heap.get? (asT s.heap.get?))
  val := fun _ => (true, vf, vx)
  says := fun _ h => ∃ K : PySem.W.Frag, K.In h ∧ obsT ls chk fn xs K = (true, vf, vx)
  of := fun _ _ e => ⟨_, frG_in, e⟩
  keeps := fun _ _ _ ⟨K, hK, c⟩ k => ⟨K, hK.keeps k, c⟩
theorem obsT_eq {ls : LmD} {chk : PySem.W.Frag → Bool} {fn : List (Str × Option Str)} {xs : List Str} {vf : List FnW} {vx : List XiW} {g : Addr → Option Obj} {s : Shared} (h : ∀ a, g a = s.heap.get? a) : obsT ls chk fn xs (frG g (asT g)) = (hookT ls chk fn xs vf vx).obs s := by
  rw [show g = s.heap.get? from funext h] <;> rfl
end Mp
namespace Mp
open PySem PySem.Spec PyProof.Rows L2 He
structure FnE where
  id : Nat
  at_ : Str × Option Str
  prop : Bool
  qual : Str
  N : List Str
  ps : List Str
  top : Nat
  mem : Option Nat
  lamb : Bool
  deriving DecidableEq
structure ClE where
  x : Str
  c : Nat
  ini : Nat
  flds : List (Nat × Str)
  props : List (Nat × Str × Nat)
  eq : Option Nat
structure HkD where
  pr : Program
  fns : List FnE
  cls : List ClE
  ls : LmD
  glos : List Str
  blt : List Str
  globs : List (Str × PV)
  cts : List PV
def FnE.name (e : FnE) : Str := match e.at_.2 with
  | some m => m
  | none => e.at_.1
def FnE.stm (p : Program) (e : FnE) : Stmt := match e.mem with
  | none => topS p e.top
  | some j => (C8.clsBody (topS p e.top)).getD j (.Pass ⟨0, 0, 0, 0⟩)
def getterOf (K : PySem.W.Frag) (p : Addr) : Addr := match PySem.W.recIn K p "property" with
  | some (.ref g :: _) => g
  | _ => 0
def FnE.ad (K : PySem.W.Frag) (e : FnE) : Addr := match e.prop with
  | true => getterOf K (fAd K e.at_)
  | false => fAd K e.at_
def fnP (K : PySem.W.Frag) (e : FnE) : FnW := match K.lookup (e.ad K) with
  | some ⟨_, _, .func fd, _⟩ => some (fd.name, fd.qualname, fd.params, fd.body, fd.scope, fd.globals, fd.closure, fd.builtins)
  | _ => none
def FnE.val (p : Program) (e : FnE) : FnW := some (e.name, e.qual, defArgs (e.stm p), .stmts (defBody (e.stm p)), defScope (e.stm p), mainGlobals, [], builtinsNs)
def FnE.ok (K : PySem.W.Frag) (e : FnE) : Bool := HandSHeadRun.frNat (e.ad K) fun f => PySem.W.keepIn K (.ref f) && (match K.lookup f with
  | some ⟨_, _, .func fd, _⟩ => PySem.W.codeIn K fd.code e.qual && noneV fd.defaults
  | _ => false)
mutual
def relG (K : PySem.W.Frag) (cts : List PV) : PV → Value → Bool
  | .non, u => (match u with
    | .none => true
    | _ => false)
  | .bl b, u => (match u with
    | .bool c => b == c
    | _ => false)
  | .int i, u => (match u with
    | .int j _ => decide (i = j)
    | _ => false)
  | .str x, u => (match u with
    | .str y _ => decide (x = y) && okS x
    | _ => false)
  | .tup ds, u => (match u with
    | .ref a => (match K.lookup a with
      | some ⟨.type c, _, .seq its _, _⟩ => decide (c = "tuple") && (decide (its.size ≤ sizeLine) && ((!ds.all isK || cts.contains (.tup ds)) && relGs K cts ds its.toList))
      | _ => false)
    | _ => false)
  | _, _ => false
def relGs (K : PySem.W.Frag) (cts : List PV) : List PV → List Value → Bool
  | [], us => (match us with
    | [] => true
    | _ => false)
  | d :: ds, us => (match us with
    | u :: us => relG K cts d u && relGs K cts ds us
    | [] => false)
end
def gloV (K : PySem.W.Frag) (cts : List PV) (p : Str × PV) : Bool := match PySem.W.nsIn K mainGlobals p.1 with
  | some (some u) => relG K cts p.2 u
  | _ => false
def propB (K : PySem.W.Frag) (C : Addr) (f : Str) : Bool := HandSHeadRun.frNat (ma K C f) fun p => decide (PySem.W.findIn K (.ref C) f = some (some (.ref p))) && (decide (PySem.W.specialIn K (.ref p) "__get__" = some (some (.builtin "property.__get__"))) && (decide (PySem.W.takesIn K (.ref p) = some true) && (match PySem.W.recIn K p "property" with
  | some (.ref g :: _) => true
  | _ => false)))
def eqB (K : PySem.W.Frag) (C : Addr) : Bool := HandSHeadRun.frNat (ma K C "__eq__") fun f => decide (PySem.W.findIn K (.ref C) "__eq__" = some (some (.ref f))) && (PySem.W.isFn K (.ref f) && (decide (PySem.W.findIn K (.ref C) "__ne__" = some (some (.builtin "object.__ne__"))) && (decide (PySem.W.mroIn K C (.type "object") = some true) && PySem.W.notFirst K C (.type "tuple"))))
def clsiB (K : PySem.W.Frag) (C : Addr) : Bool := decide (PySem.W.findIn K (.ref C) "__class__" = some (some (.builtin "object.__class__"))) && (decide (PySem.W.specialIn K (.builtin "object.__class__") "__get__" = some (some (.builtin "getset_descriptor.__get__"))) && (decide (PySem.W.takesIn K (.builtin "object.__class__") = some true) && decide (PySem.W.mroIn K C (.type "object") = some true)))
def ClE.ok (K : PySem.W.Frag) (e : ClE) : Bool := (Fa.cls e.x).ok K && ((Fa.mkr e.x).ok K && HandSHeadRun.frNat (ga K e.x) fun C => clsiB K C && (e.flds.all (fun f => decide (PySem.W.findIn K (.ref C) f.2 = some none)) && (e.props.all (fun f => propB K C f.2.1) && (match e.eq with
  | some _ => eqB K C
  | none => true))))
def isaA (K : PySem.W.Frag) (cs : List (Nat × Addr)) : Bool := cs.all fun p => ["int", "bool", "str", "tuple", "list", "dict"].all (fun n => decide (PySem.W.kitOne K (.ref p.2) (.type n) = some false)) && (seven.all (fun n => decide (PySem.W.kitOne K (.type n) (.ref p.2) = some false)) && cs.all fun q => decide (PySem.W.kitOne K (.ref q.2) (.ref p.2) = some (decide (p.1 = q.1))))
def frC {α : Type} : List (Nat × Addr) → (List (Nat × Addr) → α) → α
  | [], k => k []
  | (c, a) :: r, k => HandSHeadRun.frNat a fun a => frC r fun r => k ((c, a) :: r)
theorem frC_eq {α : Type} : ∀ (l : List (Nat × Addr)) (k : List (Nat × Addr) → α), frC l k = k l
  | [], k => rfl
  | (a, o) :: r, k => by
    show HandSHeadRun.frNat o (fun o => frC r fun r => k ((a, o) :: r)) = _
    rw [HandSHeadRun.frNat_eq, frC_eq r]
def chkW (L : HkD) (K : PySem.W.Frag) : Bool := L.glos.all (fun x => (Fa.glo x).ok K) && (L.blt.all (fun x => (Fa.free x).ok K) && (L.fns.all (·.ok K) && (L.globs.all (gloV K L.cts) && (L.cls.all (·.ok K) && frC (L.cls.map fun e => (e.c, ga K e.x)) fun cs => isaA K cs))))
abbrev AlW : Type := Bool × List FnW
def obsW (L : HkD) (K : PySem.W.Frag) : AlW := frL ((tabs K L.ls).map (·.2)) fun ps => frK (cutK K ps) fun K1 => ((L.ls.all fun l => tabB K (fAd K l.1) (tabF K (fAd K l.1))) && (decide ps.Nodup && chkW L K1), L.fns.map (fnP K1))
def valW (L : HkD) : AlW := (true, L.fns.map (·.val L.pr))
def hookW (L : HkD) : PySem.W.Hook where
  α := AlW
  obs := fun s => obsW L (frG s.heap.get? (asT s.heap.get?))
  val := fun _ => valW L
  says := fun _ h => ∃ K : PySem.W.Frag, K.In h ∧ obsW L K = valW L
  of := fun _ _ e => ⟨_, frG_in, e⟩
  keeps := fun _ _ _ ⟨K, hK, c⟩ k => ⟨K, hK.keeps k, c⟩
def obW (L : HkD) (s : PySem.W.SharedT) : AlW := frK (frG (HandSHeadRun.getT s) (asT (HandSHeadRun.getT s))) fun K => obsW L K
theorem obW_eq (L : HkD) (s : PySem.W.SharedT) : obW L s = (hookW L).obs s.abs := by
  unfold obW
  rw [frK_eq]
  rw [show HandSHeadRun.getT s = s.abs.heap.get? from funext (HandSHeadRun.getT_eq s)]
  rfl
end Mp
set_option maxHeartbeats 0
namespace Mp.K02
open PySem PySem.Spec PyProof.Rows L2 He Mp
abbrev pr : Program := PySem.Challenge.pw_grantlines_k02_whole_which_pots_may_pay
abbrev N_law : List Str := ["script", "lap"]
def e_law : FnE := ⟨0, ("law", none), false, "law", N_law, ["script"], 55, none, false⟩
abbrev N__law_right : List Str := ["bowl", "lap", "book", "kinds", "pot", "made", "free", "each", "kind", "day", "due", "other", "is_like"]
def e__law_right : FnE := ⟨1, ("_law_right", none), false, "_law_right", N__law_right, ["bowl"], 54, none, false⟩
abbrev N__law_bowl : List Str := ["script", "lap", "stir", "cell", "own"]
def e__law_bowl : FnE := ⟨2, ("_law_bowl", none), false, "_law_bowl", N__law_bowl, ["script", "lap"], 47, none, false⟩
abbrev N__law_book : List Str := ["bowl", "many", "moves", "wide", "names", "kinds", "pots", "found", "name", "some", "kind", "first", "last", "turn", "one", "pair"]
def e__law_book : FnE := ⟨3, ("_law_book", none), false, "_law_book", N__law_book, ["bowl", "many", "moves", "wide"], 52, none, false⟩
abbrev N__law_of : List Str := ["bowl", "some"]
def e__law_of : FnE := ⟨4, ("_law_of", none), false, "_law_of", N__law_of, ["bowl", "some"], 49, none, false⟩
abbrev N__law_draw : List Str := ["bowl", "many", "figure", "turn"]
def e__law_draw : FnE := ⟨5, ("_law_draw", none), false, "_law_draw", N__law_draw, ["bowl", "many"], 48, none, false⟩
abbrev N__law_made : List Str := ["book"]
def e__law_made : FnE := ⟨6, ("_law_made", none), false, "_law_made", N__law_made, ["book"], 53, none, false⟩
abbrev N__law_same : List Str := ["told", "due", "k"]
def e__law_same : FnE := ⟨7, ("_law_same", none), false, "_law_same", N__law_same, ["told", "due"], 50, none, false⟩
abbrev N_may_pay : List Str := ["book", "pot", "kind", "day"]
def e_may_pay : FnE := ⟨8, ("may_pay", none), false, "may_pay", N_may_pay, ["book", "pot", "kind", "day"], 44, none, false⟩
abbrev N_is_plain : List Str := ["book", "pot"]
def e_is_plain : FnE := ⟨9, ("is_plain", none), false, "is_plain", N_is_plain, ["book"], 45, none, false⟩
abbrev N_Book_parts : List Str := ["self"]
def e_Book_parts : FnE := ⟨10, ("Book", some "parts"), true, "Book.parts", N_Book_parts, ["self"], 36, (some 3), false⟩
abbrev N_Book_pots : List Str := ["self"]
def e_Book_pots : FnE := ⟨11, ("Book", some "pots"), true, "Book.pots", N_Book_pots, ["self"], 36, (some 1), false⟩
abbrev N_Book_moves : List Str := ["self"]
def e_Book_moves : FnE := ⟨12, ("Book", some "moves"), true, "Book.moves", N_Book_moves, ["self"], 36, (some 2), false⟩
abbrev N_Book__init_ : List Str := ["self", "pots", "moves", "index"]
def e_Book__init_ : FnE := ⟨13, ("Book", some "__init__"), false, "Book.__init__", N_Book__init_, ["self", "pots", "moves"], 36, (some 0), false⟩
abbrev N_Book__eq_ : List Str := ["self", "other"]
def e_Book__eq_ : FnE := ⟨14, ("Book", some "__eq__"), false, "Book.__eq__", N_Book__eq_, ["self", "other"], 36, (some 4), false⟩
abbrev N__law_names : List Str := ["bowl", "many", "words", "barred", "found", "turn", "name", "k", "some", "each", "more"]
def e__law_names : FnE := ⟨15, ("_law_names", none), false, "_law_names", N__law_names, ["bowl", "many"], 51, none, false⟩
abbrev N_check_book : List Str := ["book"]
def e_check_book : FnE := ⟨16, ("check_book", none), false, "check_book", N_check_book, ["book"], 37, none, false⟩
abbrev N_check_pot : List Str := ["book", "pot"]
def e_check_pot : FnE := ⟨17, ("check_pot", none), false, "check_pot", N_check_pot, ["book", "pot"], 42, none, false⟩
abbrev N_check_kind : List Str := ["kind"]
def e_check_kind : FnE := ⟨18, ("check_kind", none), false, "check_kind", N_check_kind, ["kind"], 39, none, false⟩
abbrev N_check_day : List Str := ["day"]
def e_check_day : FnE := ⟨19, ("check_day", none), false, "check_day", N_check_day, ["day"], 40, none, false⟩
abbrev N_may : List Str := ["pot", "kind", "day"]
def e_may : FnE := ⟨20, ("may", none), false, "may", N_may, ["pot", "kind", "day"], 34, none, false⟩
abbrev N_pot_spot : List Str := ["book", "pot"]
def e_pot_spot : FnE := ⟨21, ("pot_spot", none), false, "pot_spot", N_pot_spot, ["book", "pot"], 43, none, false⟩
abbrev N_wrong_in_pots : List Str := ["value"]
def e_wrong_in_pots : FnE := ⟨22, ("wrong_in_pots", none), false, "wrong_in_pots", N_wrong_in_pots, ["value"], 22, none, true⟩
abbrev N_wrong_in_moves : List Str := ["pots", "value", "names", "pot"]
def e_wrong_in_moves : FnE := ⟨23, ("wrong_in_moves", none), false, "wrong_in_moves", N_wrong_in_moves, ["pots", "value"], 24, none, true⟩
abbrev N_is_one_of : List Str := ["value", "words"]
def e_is_one_of : FnE := ⟨24, ("is_one_of", none), false, "is_one_of", N_is_one_of, ["value", "words"], 7, none, false⟩
abbrev N_names_of : List Str := ["book", "pot"]
def e_names_of : FnE := ⟨25, ("names_of", none), false, "names_of", N_names_of, ["book"], 41, none, false⟩
abbrev N_is_name : List Str := ["value"]
def e_is_name : FnE := ⟨26, ("is_name", none), false, "is_name", N_is_name, ["value"], 9, none, false⟩
abbrev N_check_number : List Str := ["number", "least", "most"]
def e_check_number : FnE := ⟨27, ("check_number", none), false, "check_number", N_check_number, ["number", "least", "most"], 38, none, false⟩
abbrev N_wrong_in : List Str := ["value", "least", "most", "is_right", "index", "each"]
def e_wrong_in : FnE := ⟨28, ("wrong_in", none), false, "wrong_in", N_wrong_in, ["value", "least", "most", "is_right"], 11, none, false⟩
abbrev N_is_pot : List Str := ["value"]
def e_is_pot : FnE := ⟨29, ("is_pot", none), false, "is_pot", N_is_pot, ["value"], 21, none, false⟩
abbrev N_is_move : List Str := ["names", "value"]
def e_is_move : FnE := ⟨30, ("is_move", none), false, "is_move", N_is_move, ["names", "value"], 23, none, false⟩
abbrev N_is_word : List Str := ["value", "sign"]
def e_is_word : FnE := ⟨31, ("is_word", none), false, "is_word", N_is_word, ["value"], 8, none, false⟩
abbrev N_is_between : List Str := ["value", "least", "most"]
def e_is_between : FnE := ⟨32, ("is_between", none), false, "is_between", N_is_between, ["value", "least", "most"], 5, none, false⟩
abbrev N_is_up_to : List Str := ["value", "most"]
def e_is_up_to : FnE := ⟨33, ("is_up_to", none), false, "is_up_to", N_is_up_to, ["value", "most"], 6, none, false⟩
abbrev N_is_tuple_of : List Str := ["value", "many"]
def e_is_tuple_of : FnE := ⟨34, ("is_tuple_of", none), false, "is_tuple_of", N_is_tuple_of, ["value", "many"], 10, none, false⟩
abbrev N_are_kinds : List Str := ["value"]
def e_are_kinds : FnE := ⟨35, ("are_kinds", none), false, "are_kinds", N_are_kinds, ["value"], 19, none, true⟩
abbrev N_is_whole : List Str := ["value"]
def e_is_whole : FnE := ⟨36, ("is_whole", none), false, "is_whole", N_is_whole, ["value"], 4, none, false⟩
abbrev N_is_above : List Str := ["ahead", "name"]
def e_is_above : FnE := ⟨37, ("is_above", none), false, "is_above", N_is_above, ["ahead", "name"], 20, none, false⟩
def fns : List FnE := ([e_law, e__law_right, e__law_bowl, e__law_book, e__law_of, e__law_draw, e__law_made, e__law_same, e_may_pay, e_is_plain, e_Book_parts, e_Book_pots, e_Book_moves, e_Book__init_, e_Book__eq_, e__law_names, e_check_book, e_check_pot, e_check_kind, e_check_day, e_may, e_pot_spot, e_wrong_in_pots, e_wrong_in_moves, e_is_one_of, e_names_of, e_is_name, e_check_number, e_wrong_in, e_is_pot] : List FnE) ++ ([e_is_move, e_is_word, e_is_between, e_is_up_to, e_is_tuple_of, e_are_kinds, e_is_whole, e_is_above] : List FnE)
def clsE : List ClE := [⟨"Book", 0, 13, [(5, "whole")], [(2, "parts", 10), (3, "pots", 11), (4, "moves", 12)], some 14⟩]
def ls : LmD := [(("wrong_in_pots", none), "wrong_in_pots"), (("wrong_in_moves", none), "wrong_in_moves"), (("are_kinds", none), "are_kinds")]
abbrev glos : List Str := (["law", "_law_right", "_law_bowl", "_law_book", "_law_of", "_law_draw", "_law_made", "_law_same", "may_pay", "is_plain", "_law_names", "check_book", "check_pot", "check_kind", "check_day", "may", "pot_spot", "wrong_in_pots", "wrong_in_moves", "is_one_of", "names_of", "is_name", "check_number", "wrong_in", "is_pot", "is_move", "is_word", "is_between", "is_up_to", "is_tuple_of"] : List Str) ++ (["are_kinds", "is_whole", "is_above", "Book"] : List Str)
abbrev blt : List Str := (["abs", "all", "bool", "divmod", "enumerate", "int", "isinstance", "len", "list", "max", "min", "range", "sorted", "str", "tuple"] : List Str)
abbrev g_LETTERS : PV := (.str "abcdefghijklmnopqrstuvwxyz")
abbrev g_MOST_LETTERS : PV := (.int 8)
abbrev g_WORDS : PV := (.tup [(.str "all"), (.str "bill"), (.str "book"), (.str "cost"), (.str "day"), (.str "end"), (.str "first"), (.str "from"), (.str "give"), (.str "kind"), (.str "last"), (.str "least"), (.str "left"), (.str "line"), (.str "lost"), (.str "move"), (.str "must"), (.str "no"), (.str "none"), (.str "pay"), (.str "pot"), (.str "program"), (.str "quit"), (.str "room"), (.str "row"), (.str "share"), (.str "strike"), (.str "sum"), (.str "take"), (.str "till"), (.str "to"), (.str "undo"), (.str "use"), (.str "whole"), (.str "yes")])
abbrev g_MOST_POTS : PV := (.int 8)
abbrev g_MOST_MOVES : PV := (.int 8)
abbrev g_MOST_MONEY : PV := (.int 9999)
abbrev g_MOST_KINDS : PV := (.int 6)
abbrev g_MOST_DAY : PV := (.int 999)
abbrev g_TWELVE : PV := (.int 12)
abbrev globs : List (Str × PV) := [("LETTERS", g_LETTERS), ("MOST_LETTERS", g_MOST_LETTERS), ("WORDS", g_WORDS), ("MOST_POTS", g_MOST_POTS), ("MOST_MOVES", g_MOST_MOVES), ("MOST_MONEY", g_MOST_MONEY), ("MOST_KINDS", g_MOST_KINDS), ("MOST_DAY", g_MOST_DAY), ("TWELVE", g_TWELVE)]
abbrev cts : List PV := [g_WORDS]
abbrev L : HkD := ⟨pr, fns, clsE, ls, glos, blt, globs, cts⟩
abbrev topN : List Str := (["LETTERS", "MOST_LETTERS", "WORDS", "is_whole", "is_between", "is_up_to", "is_one_of", "is_word", "is_name", "is_tuple_of", "wrong_in", "MOST_POTS", "MOST_MOVES", "MOST_MONEY", "MOST_KINDS", "MOST_DAY", "TWELVE", "are_kinds", "is_above", "is_pot", "wrong_in_pots", "is_move", "wrong_in_moves", "GrantError", "InvalidNumber", "InvalidKind", "NotABook", "UnknownPot", "InvalidPots", "InvalidMoves"] : List Str) ++ (["may", "Book", "check_book", "check_number", "check_kind", "check_day", "names_of", "check_pot", "pot_spot", "may_pay", "is_plain", "_law_bowl", "_law_draw", "_law_of", "_law_same", "_law_names", "_law_book", "_law_made", "_law_right"] : List Str)
abbrev lawTop : Nat := 55
end Mp.K02
set_option maxHeartbeats 0
namespace Mp.K02
open PySem PySem.Spec PyProof.Rows L2 He Mp
abbrev R0 : PySem.W.OpenRow := PySem.W.OpenLaw.row PySem.Challenge.rw_grantlines_k02_whole_which_pots_may_pay
theorem run (w : World) : HandSHeadRun.RunEq R0 (PySem.W.view R0.prog [lawTop]) (hookW L) (obW L) 20000 topN w := by
  intro os
  kernel_rfl
end Mp.K02
namespace Mp
open PySem PySem.Spec PyProof.Rows L2
structure LamD where
  qual : Str
  params : Arguments
  body : Expr
  scope : Scope
  fr : List Str
structure Rc where
  K : PySem.W.Frag
  lam : Nat → LamD → Prop
  cad : Nat → Addr
  fld : List (Nat × Str)
  tabs : List (Addr × Str)
  xfld : Nat → Str
  cts : List PV
  mnm : Nat → Str
  xcl : List Nat
  hid : List Addr
structure Gm where
  h : Heap
  hp : Hp
  fs : List Addr
def Rc.fnm (R : Rc) (f : Nat) : Str := (R.fld.lookup f).getD Str.empty
def Off (R : Rc) (φ : List Addr) (a : Addr) : Prop := a ∉ φ ∧ a ∉ R.hid
def Own (R : Rc) (φ : List Addr) (H : Hp) (a : Addr) (u : HO) : Prop := H a = some u ∧ Off R φ a ∧ ∀ ps, u ≠ .tbl ps
abbrev Rc.h (R : Rc) (l : List Addr) : Rc := { R with hid := l }
def TupAt (R : Rc) (φ : List Addr) (H : Hp) (a : Addr) (ds : List PV) (vs : List V) : Prop :=
  Own R φ H a (.tup vs) ∨ (isKT (.tup ds) = true → PV.tup ds ∈ R.cts) ∧
    ∃ (o : Obj) (its : Array Value) (n : Nat), R.K.lookup a = some o ∧ o.cls = .type "tuple" ∧ o.data = .seq its n ∧ its.size ≤ sizeLine ∧ Vals vs its.toList
def ExnAt (R : Rc) (φ : List Addr) (H : Hp) (a : Addr) (c f : Nat) (ws : List V) : Prop :=
  c ∈ R.xcl ∧ ((ws = [] ∧ Own R φ H a (exo a (R.cad c) none)) ∨ ∃ w d x, ws = [w] ∧ R.fld.lookup f = some x ∧ PySem.W.findIn R.K (.ref (R.cad c)) x = some none ∧ Own R φ H a (exo a (R.cad c) (some d)) ∧ Own R φ H d (exd d [(x, w)]))
def ScrAt (R : Rc) (φ : List Addr) (H : Hp) (a : Addr) (ns : List Int) : Prop :=
  (∃ u, Own R φ H a u ∧ (u = .lst (ns.map V.int) ∨ ∃ o, u = .frz o (.lst (ns.map V.int)))) ∨ ∃ (o : Obj) (its : Array Value) (n : Nat), R.K.lookup a = some o ∧ o.cls = .type "list" ∧ o.dict = none ∧ o.data = .seq its n ∧ its.size ≤ sizeLine ∧ Vals (ns.map V.int) its.toList
theorem ScrAt.sq {R : Rc} {φ : List Addr} {H : Hp} {a : Addr} {ns : List Int} (h : ScrAt R φ H a ns) : SqL R.K H a (ns.map V.int) := by
  rcases h with ⟨u, h, rfl | ⟨o, rfl⟩⟩ | h
  · exact .inl (.inl h.1)
  · exact .inl (.inr ⟨o, h.1⟩)
  · exact .inr h
theorem okS_len {x : Str} (h : okS x = true) : x.length ≤ SZ := by
  unfold okS at h
  rw [Bool.and_eq_true] at h
  exact of_decide_eq_true h.1
theorem okS_cps {x : Str} (h : okS x = true) : x.cps.all (· < 0x110000) = true := by
  unfold okS at h
  rw [Bool.and_eq_true] at h
  exact h.2
mutual
def RepV (R : Rc) (φ : List Addr) (H : Hp) : PV → V → Prop
  | .non, v => v = .non
  | .bl b, v => v = .bl b
  | .int i, v => v = .int i
  | .str x, v => v = .str x ∧ okS x = true
  | .tup ds, v => ∃ a vs, v = .ref a ∧ TupAt R φ H a ds vs ∧ vs.length ≤ SZ ∧ RepL R φ H ds vs
  | .lst ds, v => ∃ a vs, v = .ref a ∧ Own R φ H a (.lst vs) ∧ vs.length ≤ SZ ∧ RepL R φ H ds vs
  | .loc n, v => ∃ a, φ[n]? = some a ∧ v = .ref a
  | .glo _, _ => False
  | .scr ns, v => ∃ (a : Addr) (_ : Unit), v = .ref a ∧ ScrAt R φ H a ns ∧ ns.length ≤ SZ
  | .clo _ _, _ => False
  | .exn c f ds, v => ∃ a ws, v = .ref a ∧ ExnAt R φ H a c f ws ∧ RepL R φ H ds ws
def RepL (R : Rc) (φ : List Addr) (H : Hp) : List PV → List V → Prop
  | [], vs => vs = []
  | d :: ds, vs => ∃ v r, vs = v :: r ∧ RepV R φ H d v ∧ RepL R φ H ds r
end
structure Step (φ : List Addr) (H : Hp) (φ' : List Addr) (H' : Hp) : Prop where
  pre : φ <+: φ'
  keep : ∀ b o, H b = some o → b ∉ φ → (∀ ps, o ≠ .tbl ps) → H' b = some o
  tbl : ∀ b ps, H b = some (.tbl ps) → b ∉ φ → ∃ more, H' b = some (.tbl (ps ++ more))
  new : ∀ a ∈ φ', a ∈ φ ∨ H a = none
theorem Step.refl (φ : List Addr) (H : Hp) : Step φ H φ H := ⟨List.prefix_refl φ, fun _ _ h _ _ => h, fun b ps h _ => ⟨#[], by rw [h]; simp⟩, fun _ h => .inl h⟩
theorem Step.out {φ φ' : List Addr} {H H' : Hp} (s : Step φ H φ' H') {b : Addr} {o : HO} (h : H b = some o) (n : b ∉ φ) : b ∉ φ' := fun m => by
  rcases s.new b m with z | z
  · exact n z
  · rw [h] at z; cases z
theorem Step.trans {φ φ1 φ2 : List Addr} {H H1 H2 : Hp} (a : Step φ H φ1 H1) (b : Step φ1 H1 φ2 H2) : Step φ H φ2 H2 where
  pre := a.pre.trans b.pre
  keep := fun c o h n t => b.keep c o (a.keep c o h n t) (a.out h n) t
  tbl := fun c ps h n => by
    obtain ⟨m1, e1⟩ := a.tbl c ps h n
    obtain ⟨m2, e2⟩ := b.tbl c _ e1 (a.out h n)
    exact ⟨m1 ++ m2, by rw [e2, Array.append_assoc]⟩
  new := fun c m => by
    rcases b.new c m with z | z
    · exact a.new c z
    · by_cases hc : c ∈ φ
      · exact .inl hc
      · cases q : H c with
        | none => exact .inr rfl
        | some o =>
          by_cases t : ∃ ps, o = .tbl ps
          · obtain ⟨ps, rfl⟩ := t
            obtain ⟨m, e⟩ := a.tbl c ps q hc
            rw [z] at e; cases e
          · have := a.keep c o q hc fun ps e => t ⟨ps, e⟩
            rw [z] at this; cases this
theorem Own.step {R : Rc} {φ φ' : List Addr} {H H' : Hp} (s : Step φ H φ' H') {a : Addr} {u : HO} (h : Own R φ H a u) : Own R φ' H' a u :=
  ⟨s.keep a u h.1 h.2.1.1 h.2.2, ⟨s.out h.1 h.2.1.1, h.2.1.2⟩, h.2.2⟩
theorem TupAt.step {R : Rc} {φ φ' : List Addr} {H H' : Hp} (s : Step φ H φ' H') {a : Addr} {ds : List PV} {vs : List V} (h : TupAt R φ H a ds vs) : TupAt R φ' H' a ds vs := h.elim (fun h => .inl (h.step s)) .inr
theorem ScrAt.step {R : Rc} {φ φ' : List Addr} {H H' : Hp} (s : Step φ H φ' H') {a : Addr} {ns : List Int} (h : ScrAt R φ H a ns) : ScrAt R φ' H' a ns := h.elim (fun ⟨o, h, e⟩ => .inl ⟨o, h.step s, e⟩) .inr
theorem ExnAt.step {R : Rc} {φ φ' : List Addr} {H H' : Hp} (s : Step φ H φ' H') {a : Addr} {c f : Nat} {ws : List V} (h : ExnAt R φ H a c f ws) : ExnAt R φ' H' a c f ws := by
  rcases h with ⟨hc, ⟨e, h⟩ | ⟨w, d, x, e, hx, hf, h1, h2⟩⟩
  · exact ⟨hc, .inl ⟨e, h.step s⟩⟩
  · exact ⟨hc, .inr ⟨w, d, x, e, hx, hf, h1.step s, h2.step s⟩⟩
theorem TupAt.sq {R : Rc} {φ : List Addr} {H : Hp} {a : Addr} {ds : List PV} {vs : List V} (h : TupAt R φ H a ds vs) : SqT R.K H a vs := h.elim (fun h => .inl (.inl h.1)) fun h => .inr h.2
theorem get_pre {φ φ' : List Addr} (p : φ <+: φ') {n : Nat} {a : Addr} (h : φ[n]? = some a) : φ'[n]? = some a := by
  obtain ⟨t, rfl⟩ := p
  obtain ⟨hn, _⟩ := List.getElem?_eq_some_iff.mp h
  rw [List.getElem?_append_left hn]
  exact h
mutual
theorem RepV.step {R : Rc} {φ φ' : List Addr} {H H' : Hp} (s : Step φ H φ' H') : ∀ (d : PV) (v : V), RepV R φ H d v → RepV R φ' H' d v
  | .non, _, h => h
  | .bl _, _, h => h
  | .int _, _, h => h
  | .str _, _, h => h
  | .tup ds, v, h => by
    obtain ⟨a, vs, e, t, z, r⟩ := h
    exact ⟨a, vs, e, t.step s, z, RepL.step s ds vs r⟩
  | .lst ds, v, h => by
    obtain ⟨a, vs, e, t, z, r⟩ := h
    exact ⟨a, vs, e, t.step s, z, RepL.step s ds vs r⟩
  | .loc n, v, h => by
    obtain ⟨a, e, q⟩ := h
    exact ⟨a, get_pre s.pre e, q⟩
  | .glo _, _, h => h
  | .scr ns, v, h => by
    obtain ⟨a, o, e, t, z⟩ := h
    exact ⟨a, o, e, t.step s, z⟩
  | .clo _ _, _, h => h
  | .exn c f ds, v, h => by
    obtain ⟨a, ws, e, t, r⟩ := h
    exact ⟨a, ws, e, t.step s, RepL.step s ds ws r⟩
theorem RepL.step {R : Rc} {φ φ' : List Addr} {H H' : Hp} (s : Step φ H φ' H') : ∀ (ds : List PV) (vs : List V), RepL R φ H ds vs → RepL R φ' H' ds vs
  | [], _, h => h
  | d :: ds, vs, h => by
    obtain ⟨v, r, e, h1, h2⟩ := h
    exact ⟨v, r, e, RepV.step s d v h1, RepL.step s ds r h2⟩
end
def Hd (R : Rc) (H0 : Hp) (hid : List Addr) : Prop := ∀ D ∈ hid, D ∈ R.hid ∨ H0 D = none
theorem Hd.refl {R : Rc} {H : Hp} : Hd R H R.hid := fun _ h => .inl h
theorem Own.hide {R : Rc} {φ φ' : List Addr} {H H' : Hp} {hid : List Addr} (s : Step φ H φ' H') (hd : Hd R H hid) {a : Addr} {u : HO} (h : Own R φ H a u) : Own (R.h hid) φ' H' a u :=
  ⟨s.keep a u h.1 h.2.1.1 h.2.2, ⟨s.out h.1 h.2.1.1, fun m => by
    rcases hd a m with z | z
    · exact h.2.1.2 z
    · rw [h.1] at z; cases z⟩, h.2.2⟩
theorem ScrAt.hide {R : Rc} {φ φ' : List Addr} {H H' : Hp} {hid : List Addr} (s : Step φ H φ' H') (hd : Hd R H hid) {a : Addr} {ns : List Int} (h : ScrAt R φ H a ns) : ScrAt (R.h hid) φ' H' a ns := h.elim (fun ⟨o, h, e⟩ => .inl ⟨o, h.hide s hd, e⟩) .inr
theorem ExnAt.hide {R : Rc} {φ φ' : List Addr} {H H' : Hp} {hid : List Addr} (s : Step φ H φ' H') (hd : Hd R H hid) {a : Addr} {c f : Nat} {ws : List V} (h : ExnAt R φ H a c f ws) : ExnAt (R.h hid) φ' H' a c f ws := by
  rcases h with ⟨hc, ⟨e, h⟩ | ⟨w, d, x, e, hx, hf, h1, h2⟩⟩
  · exact ⟨hc, .inl ⟨e, h.hide s hd⟩⟩
  · exact ⟨hc, .inr ⟨w, d, x, e, hx, hf, h1.hide s hd, h2.hide s hd⟩⟩
theorem TupAt.hide {R : Rc} {φ φ' : List Addr} {H H' : Hp} {hid : List Addr} (s : Step φ H φ' H') (hd : Hd R H hid) {a : Addr} {ds : List PV} {vs : List V} (h : TupAt R φ H a ds vs) : TupAt (R.h hid) φ' H' a ds vs := h.elim (fun h => .inl (h.hide s hd)) .inr
mutual
theorem RepV.hide {R : Rc} {φ φ' : List Addr} {H H' : Hp} {hid : List Addr} (s : Step φ H φ' H') (hd : Hd R H hid) : ∀ (d : PV) (v : V), RepV R φ H d v → RepV (R.h hid) φ' H' d v
  | .non, _, h => h
  | .bl _, _, h => h
  | .int _, _, h => h
  | .str _, _, h => h
  | .tup ds, v, h => by
    obtain ⟨a, vs, e, t, z, r⟩ := h
    exact ⟨a, vs, e, t.hide s hd, z, RepL.hide s hd ds vs r⟩
  | .lst ds, v, h => by
    obtain ⟨a, vs, e, t, z, r⟩ := h
    exact ⟨a, vs, e, t.hide s hd, z, RepL.hide s hd ds vs r⟩
  | .loc n, v, h => by
    obtain ⟨a, e, q⟩ := h
    exact ⟨a, get_pre s.pre e, q⟩
  | .glo _, _, h => h
  | .scr ns, v, h => by
    obtain ⟨a, o, e, t, z⟩ := h
    exact ⟨a, o, e, t.hide s hd, z⟩
  | .clo _ _, _, h => h
  | .exn c f ds, v, h => by
    obtain ⟨a, ws, e, t, r⟩ := h
    exact ⟨a, ws, e, t.hide s hd, RepL.hide s hd ds ws r⟩
theorem RepL.hide {R : Rc} {φ φ' : List Addr} {H H' : Hp} {hid : List Addr} (s : Step φ H φ' H') (hd : Hd R H hid) : ∀ (ds : List PV) (vs : List V), RepL R φ H ds vs → RepL (R.h hid) φ' H' ds vs
  | [], _, h => h
  | d :: ds, vs, h => by
    obtain ⟨v, r, e, h1, h2⟩ := h
    exact ⟨v, r, e, RepV.hide s hd d v h1, RepL.hide s hd ds r h2⟩
end
theorem RepL.length {R : Rc} {φ : List Addr} {H : Hp} : ∀ {ds : List PV} {vs : List V}, RepL R φ H ds vs → ds.length = vs.length
  | [], _, h => by cases h; rfl
  | _ :: _, _, h => by
    obtain ⟨v, r, rfl, _, h2⟩ := h
    simp [RepL.length h2]
theorem RepL.get {R : Rc} {φ : List Addr} {H : Hp} : ∀ {ds : List PV} {vs : List V} {i : Nat} {d : PV}, RepL R φ H ds vs → ds[i]? = some d → ∃ v, vs[i]? = some v ∧ RepV R φ H d v
  | [], _, _, _, _, e => by simp at e
  | d :: ds, _, i, x, h, e => by
    obtain ⟨v, r, rfl, h1, h2⟩ := h
    cases i with
    | zero => simp at e; subst e; exact ⟨v, rfl, h1⟩
    | succ i =>
      obtain ⟨w, a, b⟩ := RepL.get (i := i) h2 (by simpa using e)
      exact ⟨w, by simpa using a, b⟩
theorem RepL.at {R : Rc} {φ : List Addr} {H : Hp} : ∀ {ds : List PV} {vs : List V} {i : Nat} {v : V}, RepL R φ H ds vs → vs[i]? = some v → ∃ d, ds[i]? = some d ∧ RepV R φ H d v := fun {ds vs i v} h e => by
  obtain ⟨hi, _⟩ := List.getElem?_eq_some_iff.mp e
  have hl := h.length
  obtain ⟨w, a, b⟩ := RepL.get (i := i) (d := ds[i]) h (List.getElem?_eq_getElem (by omega))
  rw [e] at a; cases a
  exact ⟨_, List.getElem?_eq_getElem (by omega), b⟩
theorem RepL.append {R : Rc} {φ : List Addr} {H : Hp} : ∀ {ds es : List PV} {vs ws : List V}, RepL R φ H ds vs → RepL R φ H es ws → RepL R φ H (ds ++ es) (vs ++ ws)
  | [], _, _, _, h, h' => by cases h; exact h'
  | d :: ds, _, _, _, h, h' => by
    obtain ⟨v, r, rfl, h1, h2⟩ := h
    exact ⟨v, _, rfl, h1, h2.append h'⟩
theorem RepL.take {R : Rc} {φ : List Addr} {H : Hp} : ∀ {ds : List PV} {vs : List V} (n : Nat), RepL R φ H ds vs → RepL R φ H (ds.take n) (vs.take n)
  | [], _, n, h => by cases h; simp [RepL]
  | _ :: _, _, 0, _ => by simp [RepL]
  | d :: ds, _, n + 1, h => by
    obtain ⟨v, r, rfl, h1, h2⟩ := h
    exact ⟨v, _, rfl, h1, h2.take n⟩
theorem RepL.drop {R : Rc} {φ : List Addr} {H : Hp} : ∀ {ds : List PV} {vs : List V} (n : Nat), RepL R φ H ds vs → RepL R φ H (ds.drop n) (vs.drop n)
  | _, _, 0, h => h
  | [], _, n + 1, h => by cases h; simp [RepL]
  | d :: ds, _, n + 1, h => by
    obtain ⟨v, r, rfl, h1, h2⟩ := h
    exact h2.drop n
theorem RepL.set {R : Rc} {φ : List Addr} {H : Hp} {d : PV} {v : V} (hv : RepV R φ H d v) : ∀ {ds : List PV} {vs : List V} (i : Nat), RepL R φ H ds vs → RepL R φ H (ds.set i d) (vs.set i v)
  | [], _, _, h => by cases h; simp [RepL]
  | _ :: _, _, 0, h => by
    obtain ⟨w, r, rfl, _, h2⟩ := h
    exact ⟨v, r, rfl, hv, h2⟩
  | _ :: _, _, i + 1, h => by
    obtain ⟨w, r, rfl, h1, h2⟩ := h
    exact ⟨w, _, rfl, h1, h2.set hv i⟩
theorem RepL.one {R : Rc} {φ : List Addr} {H : Hp} {d : PV} {v : V} (h : RepV R φ H d v) : RepL R φ H [d] [v] := ⟨v, [], rfl, h, rfl⟩
theorem RepL.ints {R : Rc} {φ : List Addr} {H : Hp} : ∀ {ns : List Int}, RepL R φ H (ns.map .int) (ns.map V.int)
  | [] => rfl
  | n :: ns => ⟨_, _, rfl, rfl, RepL.ints⟩
def CloAt (R : Rc) (G : Gm) (φ : List Addr) (H : Hp) (f : Addr) (k : Nat) (vs : List V) : Prop :=
  ∃ (L : LamD) (cl : List (Str × Addr)) (c : Addr) (pm ctv : Value), R.lam k L ∧ G.h.get? f = some (PySem.W.kla_obj "<lambda>" L.qual L.params L.body L.scope cl pm c ctv) ∧ G.hp f = none ∧ f ∉ G.fs ∧
    Own R φ H c (LamX.CodeO c L.qual) ∧ NdefX.CellsAt cl L.fr (vs.map some) G.h G.hp ∧ (∀ y a, cl.lookup y = some a → a ∉ G.fs) ∧ vs.length = L.fr.length
theorem CloAt.step {R : Rc} {G : Gm} {φ φ' : List Addr} {H H' : Hp} (s : Step φ H φ' H') {f : Addr} {k : Nat} {vs : List V} (h : CloAt R G φ H f k vs) : CloAt R G φ' H' f k vs := by
  obtain ⟨L, cl, c, pm, ctv, h1, h2, h3, h4, h5, h6⟩ := h
  exact ⟨L, cl, c, pm, ctv, h1, h2, h3, h4, h5.step s, h6⟩
mutual
def RepX (R : Rc) (G : Gm) (φ : List Addr) (H : Hp) : PV → V → Prop
  | .clo k cs, v => ∃ f vs, v = .ref f ∧ CloAt R G φ H f k vs ∧ RepXL R G φ H cs vs
  | .non, v => RepV R φ H .non v
  | .bl b, v => RepV R φ H (.bl b) v
  | .int i, v => RepV R φ H (.int i) v
  | .str x, v => RepV R φ H (.str x) v
  | .tup ds, v => RepV R φ H (.tup ds) v
  | .lst ds, v => RepV R φ H (.lst ds) v
  | .loc n, v => RepV R φ H (.loc n) v
  | .glo x, v => RepV R φ H (.glo x) v
  | .scr ns, v => RepV R φ H (.scr ns) v
  | .exn c f ds, v => RepV R φ H (.exn c f ds) v
def RepXL (R : Rc) (G : Gm) (φ : List Addr) (H : Hp) : List PV → List V → Prop
  | [], vs => vs = []
  | d :: ds, vs => ∃ v r, vs = v :: r ∧ RepX R G φ H d v ∧ RepXL R G φ H ds r
end
theorem RepV.x {R : Rc} {G : Gm} {φ : List Addr} {H : Hp} {d : PV} {v : V} (h : RepV R φ H d v) : RepX R G φ H d v := by
  cases d <;> first | exact h | exact h.elim
theorem RepX.v {R : Rc} {G : Gm} {φ : List Addr} {H : Hp} {d : PV} {v : V} (h : RepX R G φ H d v) (n : isClo d = false) : RepV R φ H d v := by
  cases d <;> first | exact h | cases n
theorem RepXL.length {R : Rc} {G : Gm} {φ : List Addr} {H : Hp} : ∀ {ds : List PV} {vs : List V}, RepXL R G φ H ds vs → ds.length = vs.length
  | [], _, h => by cases h; rfl
  | _ :: _, _, h => by
    obtain ⟨v, r, rfl, _, h2⟩ := h
    simp [RepXL.length h2]
theorem RepXL.get {R : Rc} {G : Gm} {φ : List Addr} {H : Hp} : ∀ {ds : List PV} {vs : List V} {i : Nat} {d : PV}, RepXL R G φ H ds vs → ds[i]? = some d → ∃ v, vs[i]? = some v ∧ RepX R G φ H d v
  | [], _, _, _, _, e => by simp at e
  | d :: ds, _, i, x, h, e => by
    obtain ⟨v, r, rfl, h1, h2⟩ := h
    cases i with
    | zero => simp at e; subst e; exact ⟨v, rfl, h1⟩
    | succ i =>
      obtain ⟨w, a, b⟩ := RepXL.get (i := i) h2 (by simpa using e)
      exact ⟨w, by simpa using a, b⟩
theorem RepXL.append {R : Rc} {G : Gm} {φ : List Addr} {H : Hp} : ∀ {ds es : List PV} {vs ws : List V}, RepXL R G φ H ds vs → RepXL R G φ H es ws → RepXL R G φ H (ds ++ es) (vs ++ ws)
  | [], _, _, _, h, h' => by cases h; exact h'
  | d :: ds, _, _, _, h, h' => by
    obtain ⟨v, r, rfl, h1, h2⟩ := h
    exact ⟨v, _, rfl, h1, h2.append h'⟩
theorem RepL.x {R : Rc} {G : Gm} {φ : List Addr} {H : Hp} : ∀ {ds : List PV} {vs : List V}, RepL R φ H ds vs → RepXL R G φ H ds vs
  | [], _, h => h
  | d :: ds, _, h => by
    obtain ⟨v, r, rfl, h1, h2⟩ := h
    exact ⟨v, r, rfl, h1.x, h2.x⟩
mutual
theorem RepX.step {R : Rc} {G : Gm} {φ φ' : List Addr} {H H' : Hp} (s : Step φ H φ' H') : ∀ (d : PV) (v : V), RepX R G φ H d v → RepX R G φ' H' d v
  | .clo k cs, v, h => by
    obtain ⟨f, vs, e, t, r⟩ := h
    exact ⟨f, vs, e, t.step s, RepXL.step s cs vs r⟩
  | .non, v, h => RepV.step (R := R) s .non v h
  | .bl b, v, h => RepV.step (R := R) s (.bl b) v h
  | .int i, v, h => RepV.step (R := R) s (.int i) v h
  | .str x, v, h => RepV.step (R := R) s (.str x) v h
  | .tup ds, v, h => RepV.step (R := R) s (.tup ds) v h
  | .lst ds, v, h => RepV.step (R := R) s (.lst ds) v h
  | .loc n, v, h => RepV.step (R := R) s (.loc n) v h
  | .glo x, v, h => RepV.step (R := R) s (.glo x) v h
  | .scr ns, v, h => RepV.step (R := R) s (.scr ns) v h
  | .exn c f ds, v, h => RepV.step (R := R) s (.exn c f ds) v h
theorem RepXL.step {R : Rc} {G : Gm} {φ φ' : List Addr} {H H' : Hp} (s : Step φ H φ' H') : ∀ (ds : List PV) (vs : List V), RepXL R G φ H ds vs → RepXL R G φ' H' ds vs
  | [], _, h => h
  | d :: ds, vs, h => by
    obtain ⟨v, r, e, h1, h2⟩ := h
    exact ⟨v, r, e, RepX.step s d v h1, RepXL.step s ds r h2⟩
end
def FldL (R : Rc) (φ : List Addr) (H : Hp) : List (Nat × PV) → List (Str × V) → Prop
  | [], gs => gs = []
  | (f, d) :: fs, gs => ∃ x v r, gs = (x, v) :: r ∧ R.fld.lookup f = some x ∧ RepV R φ H d v ∧ FldL R φ H fs r
def pK : Key → PV
  | .inl i => .int i
  | .inr x => .str x
def pT (ks : List Key) : PV := .tup (ks.map pK)
def KR : Key → Prop
  | .inl _ => True
  | .inr x => okS x = true
def KRs (ks : List Key) : Prop := ks.length ≤ SZ ∧ ∀ k ∈ ks, KR k
def DctG (R : Rc) (φ : List Addr) (H : Hp) {κ : Type} (kp : κ → PV) (kr : κ → Prop) : List (PV × PV) → List (κ × V) → Prop
  | [], gs => gs = []
  | (k, d) :: fs, gs => ∃ x v r, gs = (x, v) :: r ∧ k = kp x ∧ kr x ∧ RepV R φ H d v ∧ DctG R φ H kp kr fs r
def RepO (R : Rc) (φ : List Addr) (H : Hp) (a : Addr) : MO → Prop
  | .lst ds => ∃ vs, H a = some (.lst vs) ∧ vs.length ≤ SZ ∧ RepL R φ H ds vs
  | .dct kvs => (∃ gs, H a = some (.dK gs) ∧ gs.length ≤ SZ ∧ DctG R φ H pK KR kvs gs) ∨ ∃ gs, H a = some (.dT gs) ∧ gs.length ≤ SZ ∧ DctG R φ H pT KRs kvs gs
  | .ins c fs => ∃ dx gs, H a = some (.ins (R.cad c) dx gs) ∧ FldL R φ H fs gs
structure RepS (R : Rc) (φ : List Addr) (st : Sto) (H : Hp) : Prop where
  len : φ.length = st.length
  nd : φ.Nodup
  at_ : ∀ (n : Nat) (o : MO) (a : Addr), st[n]? = some o → φ[n]? = some a → RepO R φ H a o
  hd : ∀ D ∈ R.hid, D ∉ φ ∧ ∃ vs, H D = some (.lst vs)
structure RepE (R : Rc) (G : Gm) (φ : List Addr) (H : Hp) (ρ : Env) (σ : L2.St) : Prop where
  len : ρ.length = σ.length
  at_ : ∀ (i : Nat) (d : PV), ρ[i]? = some (some d) → ∃ v, σ[i]? = some (some v) ∧ RepX R G φ H d v
theorem RepE.step {R : Rc} {G : Gm} {φ φ' : List Addr} {H H' : Hp} (s : Step φ H φ' H') {ρ : Env} {σ : L2.St} (h : RepE R G φ H ρ σ) : RepE R G φ' H' ρ σ :=
  ⟨h.len, fun i d e => let ⟨v, a, b⟩ := h.at_ i d e; ⟨v, a, b.step s⟩⟩
theorem RepE.set {R : Rc} {G : Gm} {φ : List Addr} {H : Hp} {ρ : Env} {σ : L2.St} (h : RepE R G φ H ρ σ) (i : Nat) {d : PV} {v : V} (hv : RepX R G φ H d v) : RepE R G φ H (ρ.set i (some d)) (σ.set i (some v)) := by
  refine ⟨by simp [h.len], fun j e he => ?_⟩
  by_cases hj : i = j
  · subst hj
    have hi : i < ρ.length := by
      by_cases q : i < ρ.length
      · exact q
      · rw [List.getElem?_eq_none (by simpa using q)] at he; cases he
    rw [List.getElem?_set_self hi] at he
    cases he
    exact ⟨v, List.getElem?_set_self (by rw [← h.len]; exact hi), hv⟩
  · rw [List.getElem?_set_ne hj] at he ⊢
    exact h.at_ j e he
theorem RepS.lt {R : Rc} {φ : List Addr} {st : Sto} {H : Hp} (h : RepS R φ st H) {n : Nat} {o : MO} (e : st[n]? = some o) : ∃ a, φ[n]? = some a ∧ RepO R φ H a o := by
  obtain ⟨hn, _⟩ := List.getElem?_eq_some_iff.mp e
  have hl := h.len
  exact ⟨φ[n], List.getElem?_eq_getElem (by omega), h.at_ n o _ e (List.getElem?_eq_getElem (by omega))⟩
theorem FldL.step {R : Rc} {φ φ' : List Addr} {H H' : Hp} (s : Step φ H φ' H') : ∀ {fs : List (Nat × PV)} {gs : List (Str × V)}, FldL R φ H fs gs → FldL R φ' H' fs gs
  | [], _, h => h
  | (f, d) :: fs, _, h => by
    obtain ⟨x, v, r, e, h1, h2, h3⟩ := h
    exact ⟨x, v, r, e, h1, h2.step s, h3.step s⟩
theorem DctG.step {R : Rc} {φ φ' : List Addr} {H H' : Hp} {κ : Type} {kp : κ → PV} {kr : κ → Prop} (s : Step φ H φ' H') : ∀ {fs : List (PV × PV)} {gs : List (κ × V)}, DctG R φ H kp kr fs gs → DctG R φ' H' kp kr fs gs
  | [], _, h => h
  | (f, d) :: fs, _, h => by
    obtain ⟨x, v, r, e, h1, h2, h3, h4⟩ := h
    exact ⟨x, v, r, e, h1, h2, h3.step s, h4.step s⟩
theorem RepO.tracked {R : Rc} {φ : List Addr} {H : Hp} {a : Addr} {o : MO} (h : RepO R φ H a o) : ∃ u, H a = some u := by
  cases o with
  | lst ds => obtain ⟨vs, e, _⟩ := h; exact ⟨_, e⟩
  | dct _ =>
    rcases h with ⟨gs, e, _⟩ | ⟨gs, e, _⟩
    · exact ⟨_, e⟩
    · exact ⟨_, e⟩
  | ins c fs => obtain ⟨dx, gs, e, _⟩ := h; exact ⟨_, e⟩
theorem RepO.step {R : Rc} {φ φ' : List Addr} {H H' : Hp} (s : Step φ H φ' H') {a : Addr} {o : MO} (h : RepO R φ H a o) (e : H' a = H a) : RepO R φ' H' a o := by
  cases o with
  | lst ds =>
    obtain ⟨vs, h1, h2, h3⟩ := h
    exact ⟨vs, e.trans h1, h2, RepL.step s _ _ h3⟩
  | dct _ =>
    rcases h with ⟨gs, h1, h2, h3⟩ | ⟨gs, h1, h2, h3⟩
    · exact .inl ⟨gs, e.trans h1, h2, h3.step s⟩
    · exact .inr ⟨gs, e.trans h1, h2, h3.step s⟩
  | ins c fs =>
    obtain ⟨dx, gs, h1, h2⟩ := h
    exact ⟨dx, gs, e.trans h1, h2.step s⟩
theorem step_new {φ : List Addr} {H : Hp} {p : Addr} {o : HO} (hp : H p = none) : Step φ H φ (upd H p o) :=
  ⟨List.prefix_refl φ, fun b u h _ _ => by rw [upd_ne (ne_of_none h hp)]; exact h, fun b ps h _ => ⟨#[], by rw [upd_ne (ne_of_none h hp), h]; simp⟩, fun _ h => .inl h⟩
theorem RepS.mem {R : Rc} {φ : List Addr} {st : Sto} {H : Hp} (h : RepS R φ st H) {a : Addr} (m : a ∈ φ) : ∃ u, H a = some u := by
  obtain ⟨n, e⟩ := List.mem_iff_getElem?.mp m
  obtain ⟨hn, _⟩ := List.getElem?_eq_some_iff.mp e
  have hl := h.len
  exact (h.at_ n st[n] a (List.getElem?_eq_getElem (by omega)) e).tracked
theorem RepS.fresh {R : Rc} {φ : List Addr} {st : Sto} {H : Hp} (h : RepS R φ st H) {p : Addr} (hp : H p = none) : Off R φ p := by
  refine ⟨fun m => ?_, fun m => ?_⟩
  · obtain ⟨u, e⟩ := h.mem m
    rw [hp] at e
    cases e
  · obtain ⟨_, vs, e⟩ := h.hd p m
    rw [hp] at e
    cases e
theorem RepS.new {R : Rc} {φ : List Addr} {st : Sto} {H : Hp} (h : RepS R φ st H) {p : Addr} {o : HO} (hp : H p = none) : RepS R φ st (upd H p o) :=
  ⟨h.len, h.nd, fun n m a e1 e2 => (h.at_ n m a e1 e2).step (step_new hp) (upd_ne (fun z => (h.fresh hp).1 (z ▸ List.mem_of_getElem? e2))), fun D hD => by
    obtain ⟨h1, vs, h2⟩ := h.hd D hD
    exact ⟨h1, vs, by rw [upd_ne (ne_of_none h2 hp)]; exact h2⟩⟩
theorem step_sto {φ : List Addr} {H : Hp} {p : Addr} {o : HO} (hp : H p = none) : Step φ H (φ ++ [p]) (upd H p o) :=
  ⟨List.prefix_append φ [p], (step_new hp).keep, (step_new hp).tbl, fun a m => by
    rcases List.mem_append.mp m with z | z
    · exact .inl z
    · simp at z; subst z; exact .inr hp⟩
theorem RepS.snoc {R : Rc} {φ : List Addr} {st : Sto} {H : Hp} (h : RepS R φ st H) {p : Addr} {o : HO} {m : MO} (hp : H p = none) (hm : RepO R (φ ++ [p]) (upd H p o) p m) : RepS R (φ ++ [p]) (st ++ [m]) (upd H p o) := by
  have hl := h.len
  refine ⟨by simp [hl], ?_, fun n x a e1 e2 => ?_, fun D hD => by
    obtain ⟨h1, vs, h2⟩ := h.hd D hD
    refine ⟨fun z => ?_, vs, by rw [upd_ne (ne_of_none h2 hp)]; exact h2⟩
    rcases List.mem_append.mp z with z | z
    · exact h1 z
    · rw [List.mem_singleton.mp z, hp] at h2; cases h2⟩
  · rw [List.nodup_append]
    refine ⟨h.nd, by simp, fun a ha b hb z => ?_⟩
    simp at hb
    subst hb
    exact (h.fresh hp).1 (z ▸ ha)
  · by_cases hn : n < st.length
    · rw [List.getElem?_append_left hn] at e1
      rw [List.getElem?_append_left (by omega)] at e2
      exact (h.at_ n x a e1 e2).step (step_sto hp) (upd_ne (fun z => (h.fresh hp).1 (z ▸ List.mem_of_getElem? e2)))
    · rw [List.getElem?_append_right (by omega)] at e1
      rw [List.getElem?_append_right (by omega)] at e2
      have h0 : n - st.length = 0 := by
        by_cases q : n - st.length = 0
        · exact q
        · rw [List.getElem?_eq_none (by simp; omega)] at e1; cases e1
      rw [h0] at e1
      rw [show n - φ.length = 0 by omega] at e2
      simp at e1 e2
      subst e1; subst e2
      exact hm
theorem step_wr {φ : List Addr} {H : Hp} {a : Addr} {o : HO} (ha : a ∈ φ) : Step φ H φ (upd H a o) :=
  ⟨List.prefix_refl φ, fun b u h n _ => by rw [upd_ne (fun z : b = a => n (by rw [z]; exact ha))]; exact h, fun b ps h n => ⟨#[], by rw [upd_ne (fun z : b = a => n (by rw [z]; exact ha)), h]; simp⟩, fun _ h => .inl h⟩
theorem RepS.write {R : Rc} {φ : List Addr} {st : Sto} {H : Hp} (h : RepS R φ st H) {n : Nat} {a : Addr} {o : HO} {m : MO} (ha : φ[n]? = some a) (hm : RepO R φ (upd H a o) a m) : RepS R φ (st.set n m) (upd H a o) := by
  have hl := h.len
  obtain ⟨hn, _⟩ := List.getElem?_eq_some_iff.mp ha
  refine ⟨by simp [hl], h.nd, fun j x b e1 e2 => ?_, fun D hD => by
    obtain ⟨h1, vs, h2⟩ := h.hd D hD
    exact ⟨h1, vs, by rw [upd_ne (fun z : D = a => h1 (by rw [z]; exact List.mem_of_getElem? ha))]; exact h2⟩⟩
  by_cases hj : n = j
  · subst hj
    rw [List.getElem?_set_self (by omega)] at e1
    cases e1
    rw [ha] at e2; cases e2
    exact hm
  · rw [List.getElem?_set_ne hj] at e1
    refine (h.at_ j x b e1 e2).step (step_wr (List.mem_of_getElem? ha)) (upd_ne fun z => ?_)
    subst z
    exact hj ((List.getElem?_inj hn h.nd).mp (ha.trans e2.symm))
def XRep (R : Rc) (φ : List Addr) (H : Hp) (c : Nat) (vs : List PV) (dx : Option Addr) : Prop := match vs with
  | [] => dx = none
  | [x] => ∃ d v, dx = some d ∧ Own R φ H d (.xd [(R.xfld c, v)]) ∧ RepV R φ H x v
  | _ => False
abbrev Tbs (R : Rc) (H : Hp) : Prop := LamX.Tabs R.tabs H
def Post (R : Rc) (W : WX) (σ : L2.St) (φ : List Addr) (H : Hp) {α β : Type} (A : List Addr → Hp → α → β → Prop) (o : Out α) (Q : β → Hp → Prop) : Prop := match o with
  | .ok d st => ∀ φ' H' v, Step φ H φ' H' → RepS R φ' st H' → Tbs R H' → A φ' H' d v → Q v H'
  | .exc c vs st => ∀ φ' H' dx, Step φ H φ' H' → RepS R φ' st H' → Tbs R H' → XRep R φ' H' c vs dx → W (.ref (R.cad c)) dx σ H'
  | .bad => False
section
variable {R : Rc} {W : WX} {σ : L2.St} {φ : List Addr} {H : Hp} {α β γ δ : Type} {A : List Addr → Hp → α → β → Prop} {B : List Addr → Hp → γ → δ → Prop}
theorem Post.mono {o : Out α} {Q Q' : β → Hp → Prop} (h : Post R W σ φ H A o Q) (k : ∀ v H', Q v H' → Q' v H') : Post R W σ φ H A o Q' := by
  cases o with
  | ok d st => exact fun φ' H' v a b c e => k _ _ (h φ' H' v a b c e)
  | exc c vs st => exact h
  | bad => exact h
theorem Post.step {o : Out α} {Q : β → Hp → Prop} {φ1 : List Addr} {H1 : Hp} (s : Step φ H φ1 H1) (h : Post R W σ φ H A o Q) : Post R W σ φ1 H1 A o Q := by
  cases o with
  | ok d st => exact fun φ' H' v a b c e => h φ' H' v (s.trans a) b c e
  | exc c vs st => exact fun φ' H' v a b c e => h φ' H' v (s.trans a) b c e
  | bad => exact h
theorem Post.bnd {m : M α} {f : α → M γ} {st : Sto} {Q : δ → Hp → Prop} (h : Post R W σ φ H B (M.bnd m f st) Q) :
    Post R W σ φ H A (m st) fun v H1 => ∃ φ1 st1 d, Step φ H φ1 H1 ∧ RepS R φ1 st1 H1 ∧ Tbs R H1 ∧ A φ1 H1 d v ∧ Post R W σ φ1 H1 B (f d st1) Q := by
  unfold M.bnd at h
  cases e : m st with
  | ok d st1 =>
    rw [e] at h
    exact fun φ1 H1 v a b c r => ⟨φ1, st1, d, a, b, c, r, h.step a⟩
  | exc c vs st1 =>
    rw [e] at h
    exact h
  | bad =>
    rw [e] at h
    exact h
end
def tM (R : Rc) (G : Gm) (W : WX) (m : Env → M PV) : TE := fun σ H Q => ∃ φ st ρ, RepS R φ st H ∧ RepE R G φ H ρ σ ∧ Tbs R H ∧ Post R W σ φ H (RepV R) (m ρ st) Q
def tMA' (R : Rc) (G : Gm) (W : WX) (m : Env → M (List PV)) : TA := fun σ H Q => ∃ φ st ρ, RepS R φ st H ∧ RepE R G φ H ρ σ ∧ Tbs R H ∧ Post R W σ φ H (RepL R) (m ρ st) Q
def AB (φ : List Addr) (H : Hp) (a b : Bool) : Prop := a = b
def tMT (R : Rc) (G : Gm) (W : WX) (m : Env → M Bool) : TT := fun σ H Q => ∃ φ st ρ, RepS R φ st H ∧ RepE R G φ H ρ σ ∧ Tbs R H ∧ Post R W σ φ H AB (m ρ st) Q
def tMA (R : Rc) (G : Gm) (W : WX) (m : Env → M (List PV)) : TA := fun σ H Q => ∃ φ st ρ, RepS R φ st H ∧ RepE R G φ H ρ σ ∧ Tbs R H ∧ Post R W σ φ H (RepXL R G) (m ρ st) Q
end Mp
namespace Mp
open PySem PySem.Spec PyProof.Rows L2
def PostN (R : Rc) (φ : List Addr) (H : Hp) {α β : Type} (A : List Addr → Hp → α → β → Prop) (o : Out α) (Q : β → Hp → Prop) : Prop := match o with
  | .ok d st => ∀ φ' H' v, Step φ H φ' H' → RepS R φ' st H' → Tbs R H' → A φ' H' d v → Q v H'
  | .exc _ _ _ => False
  | .bad => False
theorem Tbs.new {R : Rc} {H : Hp} {p : Addr} {o : HO} (h : Tbs R H) (hp : H p = none) : Tbs R (upd H p o) := LamX.Tabs.ext h fun b u e => by rw [upd_ne (ne_of_none e hp)]; exact e
theorem sz_eq : sizeLine = SZ := sizeLine_eq
theorem okS_append {a b : Str} (ha : okS a = true) (hb : okS b = true) (h : a.length + b.length ≤ SZ) : okS (a ++ b) = true := by
  unfold okS
  rw [Bool.and_eq_true]
  have e : (a ++ b).cps = a.cps ++ b.cps := rfl
  refine ⟨decide_eq_true ?_, ?_⟩
  · show (a.cps ++ b.cps).size ≤ SZ
    rw [Array.size_append]
    exact h
  · rw [e, Array.all_append, okS_cps ha, okS_cps hb]
    rfl
theorem RepL.rep {R : Rc} {φ : List Addr} {H : Hp} {ds : List PV} {vs : List V} (h : RepL R φ H ds vs) : ∀ n, RepL R φ H (List.replicate n ds).flatten (List.replicate n vs).flatten
  | 0 => rfl
  | n + 1 => by
    rw [List.replicate_succ, List.replicate_succ, List.flatten_cons, List.flatten_cons]
    exact h.append (h.rep n)
section
variable {R : Rc} {φ : List Addr} {H : Hp} {st : Sto}
theorem PostN.here {α β : Type} {A : List Addr → Hp → α → β → Prop} {d : α} {v : β} {Q : β → Hp → Prop} (S : RepS R φ st H) (T : Tbs R H) (p : PostN R φ H A (M.ret d st) Q) (r : A φ H d v) : Q v H := p φ H v (Step.refl φ H) S T r
theorem newL_ok {m : Bool} {ds : List PV} {vs : List V} {Q : VK} (S : RepS R φ st H) (T : Tbs R H) (r : RepL R φ H ds vs) (p : PostN R φ H (RepV R) (newL m ds st) Q) :
    vs.length ≤ SZ ∧ ∀ a, H a = none → Q (.ref a) (upd H a (.lst vs)) := by
  have hl := r.length
  unfold newL at p
  by_cases h : ds.length ≤ SZ
  · rw [if_pos h] at p
    refine ⟨by omega, fun a ha => ?_⟩
    cases m with
    | true =>
      simp only [if_true] at p
      refine p (φ ++ [a]) _ _ (step_sto ha) (S.snoc ha ⟨vs, upd_same, by omega, r.step (step_sto ha)⟩) (T.new ha) ⟨a, ?_, rfl⟩
      rw [List.getElem?_append_right (by rw [S.len]; exact Nat.le_refl _), S.len]
      simp
    | false =>
      simp only [Bool.false_eq_true, if_false] at p
      exact p φ _ _ (step_new ha) (S.new ha) (T.new ha) ⟨a, vs, rfl, ⟨upd_same, S.fresh ha, fun ps z => by cases z⟩, by omega, r.step (step_new ha)⟩
  · rw [if_neg h] at p
    exact p.elim
theorem grd_ok {b : Bool} {m : M PV} {Q : VK} (p : PostN R φ H (RepV R) (M.grd b m st) Q) : b = true ∧ PostN R φ H (RepV R) (m st) Q := by
  unfold M.grd at p
  cases b with
  | true => exact ⟨rfl, p⟩
  | false => exact p.elim
theorem newT_ok {ds : List PV} {vs : List V} {Q : VK} (S : RepS R φ st H) (T : Tbs R H) (r : RepL R φ H ds vs) (p : PostN R φ H (RepV R) (newT ds st) Q) :
    vs.length ≤ SZ ∧ ∀ a, H a = none → Q (.ref a) (upd H a (.tup vs)) := by
  have hl := r.length
  obtain ⟨h, p⟩ := grd_ok p
  have h := of_decide_eq_true h
  refine ⟨by omega, fun a ha => ?_⟩
  exact p φ _ _ (step_new ha) (S.new ha) (T.new ha) ⟨a, vs, rfl, .inl ⟨upd_same, S.fresh ha, fun ps z => by cases z⟩, by omega, r.step (step_new ha)⟩
theorem asL_ok {d : PV} {x : V} (S : RepS R φ st H) (r : RepV R φ H d x) {ds : List PV} {st' : Sto} (e : asL d st = .ok ds st') : st' = st ∧ ∃ a vs, x = .ref a ∧ H a = some (.lst vs) ∧ vs.length ≤ SZ ∧ RepL R φ H ds vs := by
  unfold asL at e
  cases d with
  | lst xs =>
    cases e
    obtain ⟨a, vs, e, t, z, q⟩ := r
    exact ⟨rfl, a, vs, e, t.1, z, q⟩
  | loc n =>
    simp only at e
    obtain ⟨a, ha, rfl⟩ := r
    cases q : st[n]? with
    | none => rw [q] at e; cases e
    | some o =>
      rw [q] at e
      cases o with
      | lst xs =>
        cases e
        obtain ⟨vs, h1, h2, h3⟩ := S.at_ n _ a q ha
        exact ⟨rfl, a, vs, rfl, h1, h2, h3⟩
      | _ => cases e
  | _ => cases e
theorem asS_ok {d : PV} {x : V} (S : RepS R φ st H) (r : RepV R φ H d x) {ds : List PV} {st' : Sto} (e : asS d st = .ok ds st') : st' = st ∧ ∃ a vs, x = .ref a ∧ (SqL R.K H a vs ∨ SqT R.K H a vs) ∧ vs.length ≤ SZ ∧ RepL R φ H ds vs := by
  unfold asS at e
  cases d with
  | tup xs =>
    cases e
    obtain ⟨a, vs, e, t, z, q⟩ := r
    exact ⟨rfl, a, vs, e, .inr t.sq, z, q⟩
  | scr ns =>
    cases e
    obtain ⟨a, o, e, t, z⟩ := r
    exact ⟨rfl, a, _, e, .inl (t.sq), by rw [List.length_map]; exact z, RepL.ints⟩
  | lst xs =>
    cases e
    obtain ⟨a, vs, e, t, z, q⟩ := r
    exact ⟨rfl, a, vs, e, .inl (.inl (.inl t.1)), z, q⟩
  | loc n =>
    simp only at e
    obtain ⟨a, ha, rfl⟩ := r
    cases q : st[n]? with
    | none => rw [q] at e; cases e
    | some o =>
      rw [q] at e
      cases o with
      | lst xs =>
        cases e
        obtain ⟨vs, h1, h2, h3⟩ := S.at_ n _ a q ha
        exact ⟨rfl, a, vs, rfl, .inl (.inl (.inl h1)), h2, h3⟩
      | _ => cases e
  | _ => cases e
theorem bndL_ok {d : PV} {x : V} {f : List PV → M PV} {Q : VK} (S : RepS R φ st H) (r : RepV R φ H d x) (p : PostN R φ H (RepV R) (M.bnd (asL d) f st) Q) :
    ∃ a ds vs, x = .ref a ∧ H a = some (.lst vs) ∧ vs.length ≤ SZ ∧ RepL R φ H ds vs ∧ PostN R φ H (RepV R) (f ds st) Q := by
  unfold M.bnd at p
  cases e : asL d st with
  | ok ds st' =>
    rw [e] at p
    obtain ⟨rfl, a, vs, h1, h2, h3, h4⟩ := asL_ok S r e
    exact ⟨a, ds, vs, h1, h2, h3, h4, p⟩
  | exc c vs s => rw [e] at p; exact p.elim
  | bad => rw [e] at p; exact p.elim
theorem bndS_ok {d : PV} {x : V} {f : List PV → M PV} {Q : VK} (S : RepS R φ st H) (r : RepV R φ H d x) (p : PostN R φ H (RepV R) (M.bnd (asS d) f st) Q) :
    ∃ a ds vs, x = .ref a ∧ (SqL R.K H a vs ∨ SqT R.K H a vs) ∧ vs.length ≤ SZ ∧ RepL R φ H ds vs ∧ PostN R φ H (RepV R) (f ds st) Q := by
  unfold M.bnd at p
  cases e : asS d st with
  | ok ds st' =>
    rw [e] at p
    obtain ⟨rfl, a, vs, h1, h2, h3, h4⟩ := asS_ok S r e
    exact ⟨a, ds, vs, h1, h2, h3, h4, p⟩
  | exc c vs s => rw [e] at p; exact p.elim
  | bad => rw [e] at p; exact p.elim
end
def rM (R : Rc) (m : PV → PV → M PV) : R2 := fun x y H Q => ∃ φ st d e, RepS R φ st H ∧ Tbs R H ∧ RepV R φ H d x ∧ RepV R φ H e y ∧ PostN R φ H (RepV R) (m d e st) Q
section
variable {X : Cx} {R : Rc}
theorem in64_ok {i : Int} (h : in64 i = true) : -(2 ^ 64) < i ∧ i < 2 ^ 64 := by
  unfold in64 at h
  simp only [Bool.and_eq_true, decide_eq_true_eq] at h
  exact h
theorem add_ok (hK : R.K = X.K) (m : Bool) : OpR X (binaryOp .Add) (rM R (binV .add m)) := by
  intro pins s σ H x y v u Q I rx ry ⟨φ, st, d, e, S, T, rd, re, p⟩
  have lists : PostN R φ H (RepV R) (M.bnd (asL d) (fun xs => M.bnd (asL e) fun ys => newL m (xs ++ ys)) st) Q → wpAny (model X.prog X.w) X.A (binaryOp .Add v u) (EP X pins σ Q) X.xe s := fun p => by
    obtain ⟨a, ds, vs, rfl, ha, hz, rl, p⟩ := bndL_ok S rd p
    obtain ⟨b, es, ws, rfl, hb, hz2, rl2, p⟩ := bndL_ok S re p
    obtain ⟨h1, h2⟩ := newL_ok S T (rl.append rl2) p
    exact op_cat pins s σ H _ _ v u Q I rx ry ⟨a, b, vs, ws, rfl, rfl, ha, hb, by rw [List.length_append] at h1; rw [sz_eq]; exact h1, h2⟩
  cases d with
  | int i =>
    cases e with
    | int j => exact op_add pins s σ H x y v u Q I rx ry ⟨i, j, rd, re, p.here S T rfl⟩
    | _ => exact lists p
  | str a =>
    cases e with
    | str b =>
      obtain ⟨h, p⟩ := grd_ok p
      have h := of_decide_eq_true h
      refine op_add_str pins s σ H x y v u Q I rx ry ⟨a, b, rd.1, re.1, by rw [sz_eq]; exact h, p.here S T ⟨rfl, ?_⟩⟩
      exact okS_append rd.2 re.2 h
    | _ => exact lists p
  | tup xs =>
    cases e with
    | tup ys =>
      have rd0 := rd
      have re0 := re
      obtain ⟨a, vs, rfl, ta, za, la⟩ := rd
      obtain ⟨b, ws, rfl, tb, zb, lb⟩ := re
      have p0 : PostN R φ H (RepV R) (newT (xs ++ ys) st) Q := p
      obtain ⟨h1, h2⟩ := newT_ok S T (la.append lb) p0
      have h3 := la.length
      have h4 := lb.length
      rw [List.length_append] at h1
      obtain ⟨_, p1⟩ := grd_ok p0
      refine op_catA pins s σ H _ _ v u Q I rx ry ⟨a, b, vs, ws, rfl, rfl, by rw [← hK]; exact ta.sq, by rw [← hK]; exact tb.sq, by rw [sz_eq]; exact h1, fun e => ?_, fun e1 e2 => ?_, fun _ _ => h2⟩
      · subst e
        have ex : xs = [] := List.length_eq_zero_iff.mp (by rw [h3]; rfl)
        subst ex
        exact p1.here S T re0
      · subst e2
        have ey : ys = [] := List.length_eq_zero_iff.mp (by rw [h4]; rfl)
        subst ey
        rw [List.append_nil] at p1
        exact p1.here S T rd0
    | _ => exact lists p
  | _ => exact lists p
theorem sub_ok (m : Bool) : OpR X (binaryOp .Sub) (rM R (binV .sub m)) := by
  intro pins s σ H x y v u Q I rx ry ⟨φ, st, d, e, S, T, rd, re, p⟩
  cases d <;> cases e <;> first
    | exact op_sub pins s σ H x y v u Q I rx ry ⟨_, _, rd, re, PostN.here S T p rfl⟩
    | exact False.elim p
theorem fdiv_ok (m : Bool) : OpR X (binaryOp .FloorDiv) (rM R (binV .fdiv m)) := by
  intro pins s σ H x y v u Q I rx ry ⟨φ, st, d, e, S, T, rd, re, p⟩
  cases d with
  | int i =>
    cases e with
    | int j =>
      obtain ⟨h, p⟩ := grd_ok p
      simp only [Bool.and_eq_true, decide_eq_true_eq] at h
      exact op_fdivN pins s σ H x y v u Q I rx ry ⟨i, j, rd, re, h, p.here S T rfl⟩
    | _ => exact False.elim p
  | _ => exact False.elim p
theorem mod_ok (m : Bool) : OpR X (binaryOp .Mod) (rM R (binV .mod m)) := by
  intro pins s σ H x y v u Q I rx ry ⟨φ, st, d, e, S, T, rd, re, p⟩
  cases d with
  | int i =>
    cases e with
    | int j =>
      obtain ⟨h, p⟩ := grd_ok p
      exact op_modN pins s σ H x y v u Q I rx ry ⟨i, j, rd, re, of_decide_eq_true h, p.here S T rfl⟩
    | _ => exact False.elim p
  | _ => exact False.elim p
theorem pow_ok (m : Bool) : OpR X (binaryOp .Pow) (rM R (binV .pow m)) := by
  intro pins s σ H x y v u Q I rx ry ⟨φ, st, d, e, S, T, rd, re, p⟩
  cases d with
  | int i =>
    cases e with
    | int j =>
      obtain ⟨h, p⟩ := grd_ok p
      simp only [Bool.and_eq_true, decide_eq_true_eq] at h
      have h2 := in64_ok h.2
      exact op_pow pins s σ H x y v u Q I rx ry ⟨i, j, rd, re, ⟨h.1.1, h.1.2, by omega⟩, p.here S T rfl⟩
    | _ => exact False.elim p
  | _ => exact False.elim p
theorem mul_ok (m : Bool) : OpR X (binaryOp .Mult) (rM R (binV .mul m)) := by
  intro pins s σ H x y v u Q I rx ry ⟨φ, st, d, e, S, T, rd, re, p⟩
  cases e with
  | int j =>
    have lists : PostN R φ H (RepV R) (M.bnd (asL d) (fun xs => M.grd (in63 j && decide (xs.length * j.toNat ≤ SZ)) (newL m (List.replicate j.toNat xs).flatten)) st) Q → wpAny (model X.prog X.w) X.A (binaryOp .Mult v u) (EP X pins σ Q) X.xe s := fun p => by
      obtain ⟨a, ds, vs, rfl, ha, hz, rl, p⟩ := bndL_ok S rd p
      obtain ⟨h, p⟩ := grd_ok p
      simp only [Bool.and_eq_true, decide_eq_true_eq, in63] at h
      have e1 := rl.length
      have rr := rl.rep j.toNat
      obtain ⟨h1, h2⟩ := newL_ok S T rr p
      exact op_rep pins s σ H _ _ v u Q I rx ry ⟨a, j, vs, rfl, re, ha, h.1.1, h.1.2, by rw [sz_eq, ← e1]; exact h.2, h2⟩
    cases d with
    | int i =>
      obtain ⟨h, p⟩ := grd_ok p
      rw [Bool.or_eq_true] at h
      exact op_mul pins s σ H x y v u Q I rx ry ⟨i, j, rd, re, h.imp in64_ok in64_ok, p.here S T rfl⟩
    | _ => exact lists p
  | _ => cases d <;> exact False.elim p
theorem OpR.imp {f : Value → Value → Sem Value} {r r' : R2} (h : OpR X f r) (k : ∀ x y H Q, r' x y H Q → r x y H Q) : OpR X f r' := fun pins s σ H x y v u Q I rx ry q => h pins s σ H x y v u Q I rx ry (k x y H Q q)
end
mutual
theorem rep_dp {R : Rc} {φ : List Addr} {H : Hp} : ∀ (d : PV) (x : V) (D : PyData), RepV R φ H d x → d.toD = some D → Dp R.K H x D ∧ D.canLay0 = true
  | .non, _, _, r, e => by cases e; cases r; exact ⟨.non, rfl⟩
  | .bl _, _, _, r, e => by cases e; cases r; exact ⟨.bl _, rfl⟩
  | .int _, _, _, r, e => by cases e; cases r; exact ⟨.int _, rfl⟩
  | .str z, _, _, r, e => by
    cases e
    obtain ⟨rfl, h⟩ := r
    exact ⟨.str _, by
      show PyData.strOk z = true
      exact okS_cps h⟩
  | .tup ds, _, _, r, e => by
    obtain ⟨a, vs, rfl, t, z, q⟩ := r
    unfold PV.toD at e
    cases q2 : PV.toDs ds with
    | none => rw [q2] at e; cases e
    | some Ds =>
      rw [q2] at e
      cases e
      obtain ⟨h1, h2⟩ := rep_dps ds vs Ds q q2
      exact ⟨.tup t.sq h1, h2⟩
  | .lst ds, _, _, r, e => by
    obtain ⟨a, vs, rfl, t, z, q⟩ := r
    unfold PV.toD at e
    cases q2 : PV.toDs ds with
    | none => rw [q2] at e; cases e
    | some Ds =>
      rw [q2] at e
      cases e
      obtain ⟨h1, h2⟩ := rep_dps ds vs Ds q q2
      exact ⟨.lst (.inl (.inl t.1)) h1, h2⟩
  | .loc _, _, _, _, e => by cases e
  | .glo _, _, _, _, e => by cases e
  | .scr _, _, _, _, e => by cases e
  | .clo _ _, _, _, _, e => by cases e
theorem rep_dps {R : Rc} {φ : List Addr} {H : Hp} : ∀ (ds : List PV) (vs : List V) (Ds : List PyData), RepL R φ H ds vs → PV.toDs ds = some Ds → DpAll R.K H vs Ds ∧ PyData.canLayAll0 Ds = true
  | [], _, _, r, e => by
    cases r
    cases e
    exact ⟨.nil, rfl⟩
  | d :: ds, _, _, r, e => by
    obtain ⟨v, r, rfl, r1, r2⟩ := r
    unfold PV.toDs at e
    cases q1 : d.toD with
    | none => rw [q1] at e; cases e
    | some D =>
      cases q2 : PV.toDs ds with
      | none => rw [q1, q2] at e; cases e
      | some Ds =>
        rw [q1, q2] at e
        cases e
        obtain ⟨h1, h2⟩ := rep_dp d v D r1 q1
        obtain ⟨h3, h4⟩ := rep_dps ds r Ds r2 q2
        exact ⟨.cons h1 h3, by
          show (D.canLay0 && PyData.canLayAll0 Ds) = true
          rw [h2, h4]; rfl⟩
end
section
variable {R : Rc} {φ : List Addr} {H : Hp} {st : Sto}
theorem asD_ok {d : PV} {x : V} (S : RepS R φ st H) (r : RepV R φ H d x) {D : PyData} {st' : Sto} (e : asD d st = .ok D st') : st' = st ∧ Dp R.K H x D ∧ D.canLay0 = true := by
  have pure : ∀ (e : (match d.toD with | some d => Out.ok d st | none => .bad) = .ok D st'), st' = st ∧ Dp R.K H x D ∧ D.canLay0 = true := fun e => by
    cases q : d.toD with
    | none => rw [q] at e; cases e
    | some D' =>
      rw [q] at e
      cases e
      exact ⟨rfl, rep_dp d x _ r q⟩
  cases d with
  | loc n =>
    unfold asD at e
    simp only at e
    obtain ⟨a, ha, rfl⟩ := r
    cases q : st[n]? with
    | none => rw [q] at e; cases e
    | some o =>
      rw [q] at e
      cases o with
      | lst xs =>
        simp only at e
        obtain ⟨vs, h1, h2, h3⟩ := S.at_ n _ a q ha
        cases q2 : PV.toDs xs with
        | none => rw [q2] at e; cases e
        | some Ds =>
          rw [q2] at e
          cases e
          obtain ⟨g1, g2⟩ := rep_dps xs vs Ds h3 q2
          exact ⟨rfl, .lst (.inl (.inl h1)) g1, g2⟩
      | _ => cases e
  | _ => exact pure e
theorem bndD_ok {α β : Type} {A : List Addr → Hp → α → β → Prop} {d : PV} {x : V} {f : PyData → M α} {Q : β → Hp → Prop} (S : RepS R φ st H) (r : RepV R φ H d x) (p : PostN R φ H A (M.bnd (asD d) f st) Q) :
    ∃ D, Dp R.K H x D ∧ D.canLay0 = true ∧ PostN R φ H A (f D st) Q := by
  unfold M.bnd at p
  cases e : asD d st with
  | ok D st' =>
    rw [e] at p
    obtain ⟨rfl, h1, h2⟩ := asD_ok S r e
    exact ⟨D, h1, h2, p⟩
  | exc c vs s => rw [e] at p; exact p.elim
  | bad => rw [e] at p; exact p.elim
end
def rMB (R : Rc) (m : PV → PV → M Bool) : R2 := fun x y H Q => ∃ φ st d e, RepS R φ st H ∧ Tbs R H ∧ RepV R φ H d x ∧ RepV R φ H e y ∧ PostN R φ H AB (m d e st) fun k H' => Q (.bl k) H'
section
variable {X : Cx} {R : Rc} {cts : List PV}
theorem PostN.hereB {φ : List Addr} {H : Hp} {st : Sto} {k : Bool} {Q : Bool → Hp → Prop} (S : RepS R φ st H) (T : Tbs R H) (p : PostN R φ H AB (M.ret k st) Q) : Q k H := p φ H k (Step.refl φ H) S T rfl
theorem grdB_ok {φ : List Addr} {H : Hp} {st : Sto} {b : Bool} {m : M Bool} {Q : Bool → Hp → Prop} (p : PostN R φ H AB (M.grd b m st) Q) : b = true ∧ PostN R φ H AB (m st) Q := by
  unfold M.grd at p
  cases b with
  | true => exact ⟨rfl, p⟩
  | false => exact p.elim
theorem eqv_ok (hK : R.K = X.K) (hu : X.A.units + 64 < cLine) : OpR X (compareOp .Eq) (rMB R eqV) := by
  intro pins s σ H x y v u Q I rx ry ⟨φ, st, d, e, S, T, rd, re, p⟩
  have p : PostN R φ H AB (M.bnd (asD d) (fun d => M.bnd (asD e) fun e => M.grd (decide (min d.depth e.depth ≤ 60)) (M.ret (PyData.eqv d e))) st) fun k H' => Q (.bl k) H' := p
  obtain ⟨D, h1, h2, p⟩ := bndD_ok S rd p
  obtain ⟨E, g1, g2, p⟩ := bndD_ok S re p
  obtain ⟨hd, p⟩ := grdB_ok p
  rw [hK] at h1 g1
  obtain ⟨as, r1⟩ := Dp.reads I D x v h1 rx
  obtain ⟨bs, r2⟩ := Dp.reads I E y u g1 ry
  exact SeqAt.compareEq_reads r1 r2 h2 g2 (by have := of_decide_eq_true hd; omega) ⟨.bl _, H, I, rfl, p.hereB S T⟩
theorem ne_ok (hK : R.K = X.K) (hu : X.A.units + 64 < cLine) : OpR X (compareOp .NotEq) (rMB R (cmpV cts .ne)) := by
  intro pins s σ H x y v u Q I rx ry ⟨φ, st, d, e, S, T, rd, re, p⟩
  have p : PostN R φ H AB (M.bnd (asD d) (fun d => M.bnd (asD e) fun e => M.grd (decide (min d.depth e.depth ≤ 60)) (M.ret (!PyData.eqv d e))) st) fun k H' => Q (.bl k) H' := p
  obtain ⟨D, h1, h2, p⟩ := bndD_ok S rd p
  obtain ⟨E, g1, g2, p⟩ := bndD_ok S re p
  obtain ⟨hd, p⟩ := grdB_ok p
  rw [hK] at h1 g1
  obtain ⟨as, r1⟩ := Dp.reads I D x v h1 rx
  obtain ⟨bs, r2⟩ := Dp.reads I E y u g1 ry
  exact SeqAt.compareNe_reads r1 r2 h2 g2 (by have := of_decide_eq_true hd; omega) ⟨.bl _, H, I, rfl, p.hereB S T⟩
theorem RepV.isnon {φ : List Addr} {H : Hp} {d : PV} {x : V} (r : RepV R φ H d x) : decide (x = .non) = isNon d := by
  cases d with
  | non => cases r; rfl
  | bl _ => cases r; rfl
  | int _ => cases r; rfl
  | str _ => obtain ⟨rfl, _⟩ := r; rfl
  | tup _ => obtain ⟨a, vs, rfl, _⟩ := r; rfl
  | lst _ => obtain ⟨a, vs, rfl, _⟩ := r; rfl
  | loc _ => obtain ⟨a, _, rfl⟩ := r; rfl
  | glo _ => exact r.elim
  | scr _ => obtain ⟨a, o, rfl, _⟩ := r; rfl
  | clo _ _ => exact r.elim
  | exn _ _ _ => obtain ⟨a, ws, rfl, _⟩ := r; rfl
theorem is_ok : OpR X (compareOp .Is) (rMB R (cmpV cts .is)) := by
  intro pins s σ H x y v u Q I rx ry ⟨φ, st, d, e, S, T, rd, re, p⟩
  cases e with
  | non => exact op_isN pins s σ H x y v u Q I rx ry ⟨re, by rw [rd.isnon]; exact PostN.hereB S T p⟩
  | _ => exact False.elim p
theorem isnot_ok : OpR X (compareOp .IsNot) (rMB R (cmpV cts .isnot)) := by
  intro pins s σ H x y v u Q I rx ry ⟨φ, st, d, e, S, T, rd, re, p⟩
  cases e with
  | non => exact op_notN pins s σ H x y v u Q I rx ry ⟨re, by rw [rd.isnon]; exact PostN.hereB S T p⟩
  | _ => exact False.elim p
theorem le_ok : OpR X (compareOp .LtE) (rMB R (cmpV cts .le)) := by
  intro pins s σ H x y v u Q I rx ry ⟨φ, st, d, e, S, T, rd, re, p⟩
  cases d with
  | int i =>
    cases e with
    | int j => exact op_le pins s σ H x y v u Q I rx ry ⟨i, j, rd, re, PostN.hereB S T p⟩
    | _ => exact False.elim p
  | _ => cases e <;> exact False.elim p
theorem gt_ok : OpR X (compareOp .Gt) (rMB R (cmpV cts .gt)) := by
  intro pins s σ H x y v u Q I rx ry ⟨φ, st, d, e, S, T, rd, re, p⟩
  cases d with
  | int i =>
    cases e with
    | int j => exact op_gt pins s σ H x y v u Q I rx ry ⟨i, j, rd, re, PostN.hereB S T p⟩
    | _ => exact False.elim p
  | _ => cases e <;> exact False.elim p
theorem ge_ok : OpR X (compareOp .GtE) (rMB R (cmpV cts .ge)) := by
  intro pins s σ H x y v u Q I rx ry ⟨φ, st, d, e, S, T, rd, re, p⟩
  cases d with
  | int i =>
    cases e with
    | int j => exact op_ge pins s σ H x y v u Q I rx ry ⟨i, j, rd, re, PostN.hereB S T p⟩
    | _ => exact False.elim p
  | _ => cases e <;> exact False.elim p
end
end Mp
namespace Mp
open PySem PySem.Spec PyProof.Rows L2
def NoX {α : Type} (m : M α) : Prop := ∀ st c v s, m st ≠ .exc c v s
theorem NoX.ret {α : Type} (a : α) : NoX (M.ret a) := fun _ _ _ _ h => by cases h
theorem NoX.bad {α : Type} : NoX (M.bad : M α) := fun _ _ _ _ h => by cases h
theorem NoX.bnd {α β : Type} {m : M α} {f : α → M β} (h : NoX m) (k : ∀ a, NoX (f a)) : NoX (M.bnd m f) := fun st c v s e => by
  unfold M.bnd at e
  cases q : m st with
  | ok a s' => rw [q] at e; exact k a s' c v s e
  | exc c' v' s' => exact h st _ _ _ q
  | bad => rw [q] at e; cases e
theorem NoX.grd {α : Type} {b : Bool} {m : M α} (h : NoX m) : NoX (M.grd b m) := by
  unfold M.grd
  cases b with
  | true => exact h
  | false => exact NoX.bad
theorem NoX.opt {α : Type} {o : Option α} : NoX (M.opt o) := by
  cases o with
  | none => exact NoX.bad
  | some a => exact NoX.ret a
theorem NoX.newL {m : Bool} {xs : List PV} : NoX (newL m xs) := fun st c v s e => by
  unfold Mp.newL at e
  split at e
  · split at e <;> cases e
  · cases e
theorem NoX.newT {xs : List PV} : NoX (newT xs) := .grd (.ret _)
theorem NoX.asL {x : PV} : NoX (asL x) := fun st c v s e => by
  unfold Mp.asL at e
  split at e
  · cases e
  · split at e <;> cases e
  · cases e
theorem NoX.asS {x : PV} : NoX (asS x) := fun st c v s e => by
  unfold Mp.asS at e
  split at e
  · cases e
  · cases e
  · cases e
  · split at e <;> cases e
  · cases e
theorem NoX.asD {x : PV} : NoX (asD x) := fun st c v s e => by
  unfold Mp.asD at e
  split at e
  · split at e
    · split at e <;> cases e
    · cases e
  · split at e <;> cases e
theorem NoX.binV {o : Bop} {m : Bool} {x y : PV} : NoX (binV o m x y) := by
  unfold Mp.binV
  split <;> first
    | exact NoX.ret _
    | exact NoX.bad
    | exact NoX.grd (NoX.ret _)
    | exact NoX.newT
    | exact NoX.bnd NoX.asL fun _ => NoX.bnd NoX.asL fun _ => NoX.newL
    | exact NoX.bnd NoX.asL fun _ => NoX.grd NoX.newL
theorem NoX.inD {x y : PV} : NoX (inD x y) := by
  unfold Mp.inD
  refine NoX.bnd NoX.asD fun c => NoX.bnd NoX.asD fun d => NoX.grd ?_
  split <;> first | exact NoX.ret _ | exact NoX.bad
theorem NoX.inV {cts : List PV} {x y : PV} : NoX (inV cts x y) := by
  unfold Mp.inV
  split
  · unfold Mp.inT
    split <;> first | exact NoX.ret _ | exact NoX.bad
  · intro st c v s e
    dsimp only at e
    split at e
    · exact (NoX.grd (NoX.ret _)) _ _ _ _ e
    · exact NoX.inD _ _ _ _ e
  · exact NoX.inD
theorem NoX.cmpV {cts : List PV} {o : Cop} {x y : PV} : NoX (cmpV cts o x y) := by
  unfold Mp.cmpV
  split
  · intro st c v s e
    dsimp only at e
    split at e
    · cases e
    · exact (NoX.bnd NoX.asD fun _ => NoX.bnd NoX.asD fun _ => NoX.grd (NoX.ret _)) _ _ _ _ e
  · exact NoX.bnd NoX.asD fun _ => NoX.bnd NoX.asD fun _ => NoX.grd (NoX.ret _)
  · split <;> first | exact NoX.ret _ | exact NoX.bad
  · split <;> first | exact NoX.ret _ | exact NoX.bad
  · exact NoX.inV
  · exact NoX.bnd NoX.inV fun _ => NoX.ret _
  · split
    · exact NoX.opt
    · split
      · exact NoX.bnd NoX.asD fun _ => NoX.bnd NoX.asD fun _ => NoX.opt
      · exact NoX.bad
section
variable {R : Rc} {G : Gm} {W : WX} {σ : L2.St} {φ : List Addr} {H : Hp} {α β : Type} {A : List Addr → Hp → α → β → Prop}
theorem PostN.mono {o : Out α} {Q Q' : β → Hp → Prop} (h : PostN R φ H A o Q) (k : ∀ v H', Q v H' → Q' v H') : PostN R φ H A o Q' := by
  cases o with
  | ok d st => exact fun φ' H' v a b c e => k _ _ (h φ' H' v a b c e)
  | exc c vs st => exact h
  | bad => exact h
theorem Post.n {m : M α} {st : Sto} {Q : β → Hp → Prop} (h : Post R W σ φ H A (m st) Q) (n : NoX m) : PostN R φ H A (m st) Q := by
  cases e : m st with
  | ok d st' => rw [e] at h; exact h
  | exc c v s => exact (n _ _ _ _ e).elim
  | bad => rw [e] at h; exact h
theorem PostN.elimB {o : Out Bool} {Q : Bool → Hp → Prop} (h : PostN R φ H AB o Q) : PostN R φ H AB o fun k H' => ∃ k', V.bl k = V.bl k' ∧ Q k' H' := by
  cases o with
  | ok d st => exact fun φ' H' v a b c r => ⟨v, rfl, h φ' H' v a b c r⟩
  | exc c v s => exact h
  | bad => exact h
theorem tM.mk {m : Env → M PV} {st : Sto} {ρ : Env} {Q : VK} (S : RepS R φ st H) (E : RepE R G φ H ρ σ) (T : Tbs R H) (h : Post R W σ φ H (RepV R) (m ρ st) Q) : tM R G W m σ H Q := ⟨φ, st, ρ, S, E, T, h⟩
theorem tM.then {ma : Env → M PV} {f : Env → PV → M α} {st : Sto} {ρ : Env} {Q : β → Hp → Prop} {Q1 : VK} (S : RepS R φ st H) (E : RepE R G φ H ρ σ) (T : Tbs R H) (h : Post R W σ φ H A (M.bnd (ma ρ) (f ρ) st) Q)
    (k : ∀ φ1 st1 d v H1, Step φ H φ1 H1 → RepS R φ1 st1 H1 → RepE R G φ1 H1 ρ σ → Tbs R H1 → RepV R φ1 H1 d v → Post R W σ φ1 H1 A (f ρ d st1) Q → Q1 v H1) : tM R G W ma σ H Q1 :=
  ⟨φ, st, ρ, S, E, T, Post.mono (Post.bnd h) fun v H1 ⟨φ1, st1, d, s1, S1, T1, r1, p1⟩ => k φ1 st1 d v H1 s1 S1 (E.step s1) T1 r1 p1⟩
end
section
variable {X : Cx} {R : Rc} {G : Gm} {W : WX} {a b c : Expr} {ma mb mc : Env → M PV} {pos : Pos}
theorem _root_.L2.PE.imp {e : Expr} {t t' : TE} (h : PE X e t) (k : ∀ σ H Q, t' σ H Q → t σ H Q) : PE X e t' := ⟨fun pins s σ H Q I q => h.run pins s σ H Q I (k σ H Q q)⟩
theorem _root_.L2.PT.imp {e : Expr} {t t' : TT} (h : PT X e t) (k : ∀ σ H Q, t' σ H Q → t σ H Q) : PT X e t' := ⟨fun pins s σ H Q I q => h.run pins s σ H Q I (k σ H Q q)⟩
theorem PW.imp {e : Expr} {t t' : TT} (h : PW X e t) (k : ∀ σ H Q, t' σ H Q → t σ H Q) : PW X e t' := ⟨fun wh pins s σ H Q I q => h.run wh pins s σ H Q I (k σ H Q q)⟩
theorem _root_.L2.PA.imp {e : List Expr} {t t' : TA} (h : PA X e t) (k : ∀ σ H Q, t' σ H Q → t σ H Q) : PA X e t' := ⟨fun pos pins s σ H Q I q => h.run pos pins s σ H Q I (k σ H Q q)⟩
theorem _root_.L2.PS.imp {e : Stmt} {t t' : TS} (h : PS X e t) (k : ∀ D σ H, t' D σ H → t D σ H) : PS X e t' := ⟨fun pins s σ H Q I q => h.run pins s σ H Q I (k Q σ H q)⟩
theorem _root_.L2.PSs.imp {e : List Stmt} {t t' : TS} (h : PSs X e t) (k : ∀ D σ H, t' D σ H → t D σ H) : PSs X e t' := ⟨fun pins s σ H Q I q => h.run pins s σ H Q I (k Q σ H q)⟩
theorem getVar_ok {φ : List Addr} {H : Hp} {st : Sto} {ρ : Env} {σ : L2.St} {i : Nat} {Q : VK} (S : RepS R φ st H) (E : RepE R G φ H ρ σ) (T : Tbs R H) (h : Post R W σ φ H (RepV R) (getVar ρ i st) Q) : ∃ v, σ[i]? = some (some v) ∧ Q v H := by
  unfold getVar getX M.bnd at h
  cases e : ρ[i]? with
  | none => rw [e] at h; exact h.elim
  | some o =>
    cases o with
    | none => rw [e] at h; exact h.elim
    | some d =>
      rw [e] at h
      obtain ⟨v, h1, h2⟩ := E.at_ i d e
      cases q : isClo d with
      | true =>
        simp only [M.ret, M.grd, q] at h
        exact h.elim
      | false =>
        simp only [M.ret, M.grd, q] at h
        exact ⟨v, h1, h φ H v (Step.refl φ H) S T (h2.v q)⟩
theorem s_var {i : Nat} {x : Str} (hN : X.N[i]? = some x) (hv : Vis X.env.scope x) (hd : (x == ("__debug__" : Str)) = false) (hcd : (x == ("__classdict__" : Str)) = false) : PE X (.Name x pos) (tM R G W fun ρ => getVar ρ i) :=
  (pe_var hN hv hd hcd).imp fun σ H Q ⟨φ, st, ρ, S, E, T, h⟩ => getVar_ok S E T h
theorem s_cst {e : Expr} {d : PV} {v : V} (h : PE X e (tC v)) (r : ∀ φ H, RepV R φ H d v) : PE X e (tM R G W fun _ => M.ret d) :=
  h.imp fun σ H Q ⟨φ, st, ρ, S, E, T, h⟩ => h φ H v (Step.refl φ H) S T (r φ H)
theorem s_bin {op : Operator} {m : PV → PV → M PV} (ho : OpR X (binaryOp op) (rM R m)) (n : ∀ x y, NoX (m x y)) (ha : PE X a (tM R G W ma)) (hb : PE X b (tM R G W mb)) :
    PE X (.BinOp a op b pos) (tM R G W fun ρ => M.bnd (ma ρ) fun x => M.bnd (mb ρ) fun y => m x y) :=
  (pe_op ho ha hb).imp fun σ H Q ⟨φ, st, ρ, S, E, T, h⟩ => tM.then (f := fun ρ x => M.bnd (mb ρ) fun y => m x y) S E T h fun φ1 st1 d v H1 s1 S1 E1 T1 r1 p1 =>
    tM.then (f := fun ρ y => m d y) S1 E1 T1 p1 fun φ2 st2 e u H2 s2 S2 E2 T2 r2 p2 => ⟨φ2, st2, d, e, S2, T2, r1.step s2, r2, p2.n (n d e)⟩
theorem rMB_of {φ : List Addr} {H : Hp} {st : Sto} {σ : L2.St} {m : M Bool} {Q : VK} (S : RepS R φ st H) (n : NoX m) (h : Post R W σ φ H (RepV R) (M.bnd m (fun k => M.ret (PV.bl k)) st) Q) : PostN R φ H AB (m st) fun k H' => Q (.bl k) H' := by
  unfold M.bnd at h
  cases e : m st with
  | ok k st' =>
    rw [e] at h
    intro φ' H' v a b c r
    cases r
    exact h φ' H' _ a b c rfl
  | exc c v s => exact (n _ _ _ _ e).elim
  | bad => rw [e] at h; exact h.elim
theorem s_cmp {op : CmpOp} {m : PV → PV → M Bool} (ho : OpR X (compareOp op) (rMB R m)) (n : ∀ x y, NoX (m x y)) (hm : behindInMarks op b = false) (ha : PE X a (tM R G W ma)) (hb : PE X b (tM R G W mb)) :
    PE X (.Compare a [op] [b] pos) (tM R G W fun ρ => M.bnd (ma ρ) fun x => M.bnd (mb ρ) fun y => M.bnd (m x y) fun k => M.ret (PV.bl k)) :=
  (pe_cmpR ho ha hb hm).imp fun σ H Q ⟨φ, st, ρ, S, E, T, h⟩ => tM.then (f := fun ρ x => M.bnd (mb ρ) fun y => M.bnd (m x y) fun k => M.ret (PV.bl k)) S E T h fun φ1 st1 d v H1 s1 S1 E1 T1 r1 p1 =>
    tM.then (f := fun ρ y => M.bnd (m d y) fun k => M.ret (PV.bl k)) S1 E1 T1 p1 fun φ2 st2 e u H2 s2 S2 E2 T2 r2 p2 => ⟨φ2, st2, d, e, S2, T2, r1.step s2, r2, rMB_of S2 (n d e) p2⟩
theorem t_cmp {op : CmpOp} {m : PV → PV → M Bool} (ho : OpR X (compareOp op) (rMB R m)) (n : ∀ x y, NoX (m x y)) (hm : behindInMarks op b = false) (ha : PE X a (tM R G W ma)) (hb : PE X b (tM R G W mb)) :
    PT X (.Compare a [op] [b] pos) (tMT R G W fun ρ => M.bnd (ma ρ) fun x => M.bnd (mb ρ) fun y => m x y) :=
  (pt_cmpR ho ha hb hm).imp fun σ H Q ⟨φ, st, ρ, S, E, T, h⟩ => tM.then (f := fun ρ x => M.bnd (mb ρ) fun y => m x y) S E T h fun φ1 st1 d v H1 s1 S1 E1 T1 r1 p1 =>
    tM.then (f := fun ρ y => m d y) S1 E1 T1 p1 fun φ2 st2 e u H2 s2 S2 E2 T2 r2 p2 => ⟨φ2, st2, d, e, S2, T2, r1.step s2, r2, (p2.n (n d e)).elimB⟩
theorem s_chn {op op' : CmpOp} {m m' : PV → PV → M Bool} (ho : OpR X (compareOp op) (rMB R m)) (n : ∀ x y, NoX (m x y)) (ho' : OpR X (compareOp op') (rMB R m')) (n' : ∀ x y, NoX (m' x y)) (hm : lastMarks [op, op'] [b, c] = false)
    (ha : PE X a (tM R G W ma)) (hb : PE X b (tM R G W mb)) (hc : PE X c (tM R G W mc)) :
    PE X (.Compare a [op, op'] [b, c] pos) (tM R G W fun ρ => M.bnd (ma ρ) fun x => M.bnd (mb ρ) fun y => M.bnd (m x y) fun k => if k then M.bnd (mc ρ) fun z => M.bnd (m' y z) fun k => M.ret (PV.bl k) else M.ret (PV.bl false)) :=
  (pe_chain ho ho' ha hb hc hm).imp fun σ H Q ⟨φ, st, ρ, S, E, T, h⟩ => tM.then (f := fun ρ x => M.bnd (mb ρ) fun y => M.bnd (m x y) fun k => if k then M.bnd (mc ρ) fun z => M.bnd (m' y z) fun k => M.ret (PV.bl k) else M.ret (PV.bl false)) S E T h fun φ1 st1 d v H1 s1 S1 E1 T1 r1 p1 =>
    tM.then (f := fun ρ y => M.bnd (m d y) fun k => if k then M.bnd (mc ρ) fun z => M.bnd (m' y z) fun k => M.ret (PV.bl k) else M.ret (PV.bl false)) S1 E1 T1 p1 fun φ2 st2 e u H2 s2 S2 E2 T2 r2 p2 => by
      have r1' := r1.step s2
      refine ⟨φ2, st2, d, e, S2, T2, r1', r2, PostN.mono (Post.n (Post.bnd (A := AB) p2) (n d e)) fun k H3 ⟨φ3, st3, k', s3, S3, T3, ek, p3⟩ => ⟨k, rfl, ?_⟩⟩
      have ek : k' = k := ek
      subst ek
      cases k' with
      | true =>
        simp only [if_true] at p3 ⊢
        exact tM.then (f := fun ρ z => M.bnd (m' e z) fun k => M.ret (PV.bl k)) S3 (E2.step s3) T3 p3 fun φ4 st4 f w H4 s4 S4 E4 T4 r4 p4 => ⟨φ4, st4, e, f, S4, T4, (r2.step s3).step s4, r4, rMB_of S4 (n' e f) p4⟩
      | false =>
        simp only [Bool.false_eq_true, if_false] at p3 ⊢
        exact p3 φ3 H3 _ (Step.refl _ _) S3 T3 rfl
theorem t_chn {op op' : CmpOp} {m m' : PV → PV → M Bool} (ho : OpR X (compareOp op) (rMB R m)) (n : ∀ x y, NoX (m x y)) (ho' : OpR X (compareOp op') (rMB R m')) (n' : ∀ x y, NoX (m' x y)) (hm : lastMarks [op, op'] [b, c] = false)
    (ha : PE X a (tM R G W ma)) (hb : PE X b (tM R G W mb)) (hc : PE X c (tM R G W mc)) :
    PT X (.Compare a [op, op'] [b, c] pos) (tMT R G W fun ρ => M.bnd (ma ρ) fun x => M.bnd (mb ρ) fun y => M.bnd (m x y) fun k => if k then M.bnd (mc ρ) fun z => m' y z else M.ret false) :=
  (pt_chain ho ho' ha hb hc hm).imp fun σ H Q ⟨φ, st, ρ, S, E, T, h⟩ => tM.then (f := fun ρ x => M.bnd (mb ρ) fun y => M.bnd (m x y) fun k => if k then M.bnd (mc ρ) fun z => m' y z else M.ret false) S E T h fun φ1 st1 d v H1 s1 S1 E1 T1 r1 p1 =>
    tM.then (f := fun ρ y => M.bnd (m d y) fun k => if k then M.bnd (mc ρ) fun z => m' y z else M.ret false) S1 E1 T1 p1 fun φ2 st2 e u H2 s2 S2 E2 T2 r2 p2 => by
      have r1' := r1.step s2
      refine ⟨φ2, st2, d, e, S2, T2, r1', r2, PostN.mono (Post.n (Post.bnd (A := AB) p2) (n d e)) fun k H3 ⟨φ3, st3, k', s3, S3, T3, ek, p3⟩ => ⟨k, rfl, ?_⟩⟩
      have ek : k' = k := ek
      subst ek
      cases k' with
      | true =>
        simp only [if_true] at p3 ⊢
        exact tM.then (f := fun ρ z => m' e z) S3 (E2.step s3) T3 p3 fun φ4 st4 f w H4 s4 S4 E4 T4 r4 p4 => ⟨φ4, st4, e, f, S4, T4, (r2.step s3).step s4, r4, (p4.n (n' e f)).elimB⟩
      | false =>
        simp only [Bool.false_eq_true, if_false] at p3 ⊢
        exact ⟨false, rfl, p3 φ3 H3 _ (Step.refl _ _) S3 T3 rfl⟩
def andM (x : PV) (m : M PV) : M PV := match x with
  | .bl true => m
  | .bl false => M.ret (PV.bl false)
  | _ => M.bad
def orM (x : PV) (m : M PV) : M PV := match x with
  | .bl false => m
  | .bl true => M.ret (PV.bl true)
  | _ => M.bad
def notM (x : PV) : M PV := match x with
  | .bl k => M.ret (PV.bl (!k))
  | _ => M.bad
def negM (x : PV) : M PV := match x with
  | .int i => M.ret (PV.int (-i))
  | _ => M.bad
variable {rest : List Expr} {mr : Env → M PV}
theorem s_and (ha : PE X a (tM R G W ma)) (hb : PE X (.BoolOp .And (b :: rest) pos) (tM R G W mr)) : PE X (.BoolOp .And (a :: b :: rest) pos) (tM R G W fun ρ => M.bnd (ma ρ) fun x => andM x (mr ρ)) :=
  (pe_and ha hb).imp fun σ H Q ⟨φ, st, ρ, S, E, T, h⟩ => tM.then (f := fun ρ x => andM x (mr ρ)) S E T h fun φ1 st1 d v H1 s1 S1 E1 T1 r1 p1 => by
    cases d with
    | bl k =>
      refine ⟨k, r1, ?_⟩
      cases k with
      | true => simp only [if_true]; exact ⟨φ1, st1, ρ, S1, E1, T1, p1⟩
      | false => simp only [Bool.false_eq_true, if_false]; exact p1 φ1 H1 _ (Step.refl _ _) S1 T1 rfl
    | _ => exact False.elim p1
theorem s_or (ha : PE X a (tM R G W ma)) (hb : PE X (.BoolOp .Or (b :: rest) pos) (tM R G W mr)) : PE X (.BoolOp .Or (a :: b :: rest) pos) (tM R G W fun ρ => M.bnd (ma ρ) fun x => orM x (mr ρ)) :=
  (pe_or ha hb).imp fun σ H Q ⟨φ, st, ρ, S, E, T, h⟩ => tM.then (f := fun ρ x => orM x (mr ρ)) S E T h fun φ1 st1 d v H1 s1 S1 E1 T1 r1 p1 => by
    cases d with
    | bl k =>
      refine ⟨k, r1, ?_⟩
      cases k with
      | true => simp only [if_true]; exact p1 φ1 H1 _ (Step.refl _ _) S1 T1 rfl
      | false => simp only [Bool.false_eq_true, if_false]; exact ⟨φ1, st1, ρ, S1, E1, T1, p1⟩
    | _ => exact False.elim p1
theorem s_not (ha : PE X a (tM R G W ma)) : PE X (.UnaryOp .Not a pos) (tM R G W fun ρ => M.bnd (ma ρ) notM) :=
  (pe_not ha).imp fun σ H Q ⟨φ, st, ρ, S, E, T, h⟩ => tM.then (f := fun ρ x => notM x) S E T h fun φ1 st1 d v H1 s1 S1 E1 T1 r1 p1 => by
    cases d with
    | bl k => exact ⟨k, r1, p1 φ1 H1 _ (Step.refl _ _) S1 T1 rfl⟩
    | _ => exact False.elim p1
theorem s_neg (ha : PE X a (tM R G W ma)) : PE X (.UnaryOp .USub a pos) (tM R G W fun ρ => M.bnd (ma ρ) negM) :=
  (pe_un un_neg ha).imp fun σ H Q ⟨φ, st, ρ, S, E, T, h⟩ => tM.then (f := fun ρ x => negM x) S E T h fun φ1 st1 d v H1 s1 S1 E1 T1 r1 p1 => by
    cases d with
    | int k => exact ⟨k, r1, p1 φ1 H1 _ (Step.refl _ _) S1 T1 rfl⟩
    | _ => exact False.elim p1
variable {mt mt' : Env → M Bool}
theorem tMT.then {α β : Type} {A : List Addr → Hp → α → β → Prop} {f : Env → Bool → M α} {φ : List Addr} {H : Hp} {σ : L2.St} {st : Sto} {ρ : Env} {Q : β → Hp → Prop} {Q1 : Bool → Hp → Prop} (S : RepS R φ st H) (E : RepE R G φ H ρ σ) (T : Tbs R H) (h : Post R W σ φ H A (M.bnd (mt ρ) (f ρ) st) Q)
    (k : ∀ φ1 st1 v H1, Step φ H φ1 H1 → RepS R φ1 st1 H1 → RepE R G φ1 H1 ρ σ → Tbs R H1 → Post R W σ φ1 H1 A (f ρ v st1) Q → Q1 v H1) : tMT R G W mt σ H Q1 :=
  ⟨φ, st, ρ, S, E, T, Post.mono (Post.bnd h) fun v H1 ⟨φ1, st1, d, s1, S1, T1, r1, p1⟩ => k φ1 st1 v H1 s1 S1 (E.step s1) T1 (by cases r1; exact p1)⟩
theorem s_ite (hc : PT X c (tMT R G W mt)) (ha : PE X a (tM R G W ma)) (hb : PE X b (tM R G W mb)) : PE X (.IfExp c a b pos) (tM R G W fun ρ => M.bnd (mt ρ) fun k => if k then ma ρ else mb ρ) :=
  (pe_ifExp hc ha hb).imp fun σ H Q ⟨φ, st, ρ, S, E, T, h⟩ => tMT.then (f := fun ρ k => if k then ma ρ else mb ρ) S E T h fun φ1 st1 k H1 s1 S1 E1 T1 p1 => by
    cases k with
    | true => simp only [if_true] at p1 ⊢; exact ⟨φ1, st1, ρ, S1, E1, T1, p1⟩
    | false => simp only [Bool.false_eq_true, if_false] at p1 ⊢; exact ⟨φ1, st1, ρ, S1, E1, T1, p1⟩
theorem t_and (ha : PT X a (tMT R G W mt)) (hb : PW X (.BoolOp .And (b :: rest) pos) (tMT R G W mt')) : PW X (.BoolOp .And (a :: b :: rest) pos) (tMT R G W fun ρ => M.bnd (mt ρ) fun k => if k then mt' ρ else M.ret false) :=
  PW.imp (pw_and ha hb) fun σ H Q ⟨φ, st, ρ, S, E, T, h⟩ => tMT.then (f := fun ρ k => if k then mt' ρ else M.ret false) S E T h fun φ1 st1 k H1 s1 S1 E1 T1 p1 => by
    cases k with
    | true => simp only [if_true] at p1 ⊢; exact ⟨φ1, st1, ρ, S1, E1, T1, p1⟩
    | false => simp only [Bool.false_eq_true, if_false] at p1 ⊢; exact p1 φ1 H1 _ (Step.refl _ _) S1 T1 rfl
theorem t_or (ha : PT X a (tMT R G W mt)) (hb : PW X (.BoolOp .Or (b :: rest) pos) (tMT R G W mt')) : PW X (.BoolOp .Or (a :: b :: rest) pos) (tMT R G W fun ρ => M.bnd (mt ρ) fun k => if k then M.ret true else mt' ρ) :=
  PW.imp (pw_or ha hb) fun σ H Q ⟨φ, st, ρ, S, E, T, h⟩ => tMT.then (f := fun ρ k => if k then M.ret true else mt' ρ) S E T h fun φ1 st1 k H1 s1 S1 E1 T1 p1 => by
    cases k with
    | true => simp only [if_true] at p1 ⊢; exact p1 φ1 H1 _ (Step.refl _ _) S1 T1 rfl
    | false => simp only [Bool.false_eq_true, if_false] at p1 ⊢; exact ⟨φ1, st1, ρ, S1, E1, T1, p1⟩
theorem t_not (ha : PT X a (tMT R G W mt)) : PT X (.UnaryOp .Not a pos) (tMT R G W fun ρ => M.bnd (mt ρ) fun k => M.ret (!k)) :=
  (pt_not ha).imp fun σ H Q ⟨φ, st, ρ, S, E, T, h⟩ => tMT.then (f := fun ρ k => M.ret (!k)) S E T h fun φ1 st1 k H1 s1 S1 E1 T1 p1 => p1 φ1 H1 _ (Step.refl _ _) S1 T1 rfl
theorem truth_ok (hK : R.K = X.K) {φ : List Addr} {H : Hp} {st : Sto} {d : PV} {x : V} {Q : Bool → Hp → Prop} (S : RepS R φ st H) (T : Tbs R H) (r : RepV R φ H d x) {σ : L2.St} (p : Post R W σ φ H AB (truth d st) Q) : ∃ k, TruV X.K x H k ∧ Q k H := by
  have go : ∀ k, Post R W σ φ H AB (.ok k st) Q → Q k H := fun k p => p φ H k (Step.refl _ _) S T rfl
  cases d with
  | non => cases r; exact ⟨_, rfl, go _ p⟩
  | bl b => cases r; exact ⟨_, rfl, go _ p⟩
  | int i => cases r; exact ⟨_, rfl, go _ p⟩
  | str z => obtain ⟨rfl, h⟩ := r; exact ⟨_, ⟨by rw [sz_eq]; exact okS_len h, rfl⟩, go _ p⟩
  | tup ds =>
    obtain ⟨a, vs, rfl, t, z, q⟩ := r
    refine ⟨_, .inr (.inl ⟨vs, by rw [← hK]; exact t.sq, rfl⟩), ?_⟩
    have e : (!vs.isEmpty) = !ds.isEmpty := by
      have := q.length
      cases ds <;> cases vs <;> simp_all
    rw [e]
    exact go _ p
  | lst ds =>
    obtain ⟨a, vs, rfl, t, z, q⟩ := r
    refine ⟨_, .inl ⟨vs, .inl (.inl t.1), rfl⟩, ?_⟩
    have e : (!vs.isEmpty) = !ds.isEmpty := by
      have := q.length
      cases ds <;> cases vs <;> simp_all
    rw [e]
    exact go _ p
  | loc n =>
    obtain ⟨a, ha, rfl⟩ := r
    unfold truth at p
    simp only at p
    cases q : st[n]? with
    | none => rw [q] at p; exact p.elim
    | some o =>
      rw [q] at p
      cases o with
      | lst xs =>
        obtain ⟨vs, h1, h2, h3⟩ := S.at_ n _ a q ha
        refine ⟨_, .inl ⟨vs, .inl (.inl h1), rfl⟩, ?_⟩
        have e : (!vs.isEmpty) = !xs.isEmpty := by
          have := h3.length
          cases xs <;> cases vs <;> simp_all
        rw [e]
        exact go _ p
      | _ => exact False.elim p
  | _ => exact False.elim p
theorem t_of (hK : R.K = X.K) (ha : PE X a (tM R G W ma)) (he : ∀ whole, isTrue a X.env whole = (do let v ← whole; standAt a.pos; holding [v] (truthy v))) : PT X a (tMT R G W fun ρ => M.bnd (ma ρ) truth) :=
  (pt_truth ha he).imp fun σ H Q ⟨φ, st, ρ, S, E, T, h⟩ => tM.then (f := fun ρ x => truth x) S E T h fun φ1 st1 d v H1 s1 S1 E1 T1 r1 p1 => truth_ok hK S1 T1 r1 p1
variable {es : List Expr} {ms : Env → M (List PV)}
theorem a_nil : PA X [] (tMA' R G W fun _ => M.ret []) := pa_nil.imp fun σ H Q ⟨φ, st, ρ, S, E, T, h⟩ => h φ H [] (Step.refl _ _) S T rfl
theorem a_cons (ha : PE X a (tM R G W ma)) (hr : PA X es (tMA' R G W ms)) (hs : starEach (a :: es) X.env = (false, eval a X.env) :: starEach es X.env) : PA X (a :: es) (tMA' R G W fun ρ => M.bnd (ma ρ) fun x => M.bnd (ms ρ) fun xs => M.ret (x :: xs)) :=
  (pa_cons ha hr hs).imp fun σ H Q ⟨φ, st, ρ, S, E, T, h⟩ => tM.then (f := fun ρ x => M.bnd (ms ρ) fun xs => M.ret (x :: xs)) S E T h fun φ1 st1 d v H1 s1 S1 E1 T1 r1 p1 =>
    ⟨φ1, st1, ρ, S1, E1, T1, Post.mono (Post.bnd p1) fun vs H2 ⟨φ2, st2, ds, s2, S2, T2, r2, p2⟩ => p2 φ2 H2 _ (Step.refl _ _) S2 T2 ⟨v, vs, rfl, r1.step s2, r2⟩⟩
theorem tMA.then {α β : Type} {A : List Addr → Hp → α → β → Prop} {f : Env → List PV → M α} {φ : List Addr} {H : Hp} {σ : L2.St} {st : Sto} {ρ : Env} {Q : β → Hp → Prop} {Q1 : List V → Hp → Prop} (S : RepS R φ st H) (E : RepE R G φ H ρ σ) (T : Tbs R H) (h : Post R W σ φ H A (M.bnd (ms ρ) (f ρ) st) Q)
    (k : ∀ φ1 st1 ds vs H1, Step φ H φ1 H1 → RepS R φ1 st1 H1 → RepE R G φ1 H1 ρ σ → Tbs R H1 → RepL R φ1 H1 ds vs → Post R W σ φ1 H1 A (f ρ ds st1) Q → Q1 vs H1) : tMA' R G W ms σ H Q1 :=
  ⟨φ, st, ρ, S, E, T, Post.mono (Post.bnd h) fun v H1 ⟨φ1, st1, d, s1, S1, T1, r1, p1⟩ => k φ1 st1 d v H1 s1 S1 (E.step s1) T1 r1 p1⟩
theorem s_tup {x1 : Nat} (h : PA X es (tMA' R G W ms)) : PE X (.Tuple es x1 pos) (tM R G W fun ρ => M.bnd (ms ρ) newT) :=
  (pe_tup h).imp fun σ H Q ⟨φ, st, ρ, S, E, T, h⟩ => tMA.then (f := fun ρ xs => newT xs) S E T h fun φ1 st1 ds vs H1 s1 S1 E1 T1 r1 p1 => by
    rw [sz_eq]
    exact newT_ok S1 T1 r1 (p1.n NoX.newT)
theorem s_lst {m : Bool} (h : PA X es (tMA' R G W ms)) : PE X (.List es pos) (tM R G W fun ρ => M.bnd (ms ρ) (newL m)) :=
  (pe_lst h).imp fun σ H Q ⟨φ, st, ρ, S, E, T, h⟩ => tMA.then (f := fun ρ xs => newL m xs) S E T h fun φ1 st1 ds vs H1 s1 S1 E1 T1 r1 p1 => by
    rw [sz_eq]
    exact newL_ok S1 T1 r1 (p1.n NoX.newL)
end
end Mp
namespace Mp
open PySem PySem.Spec PyProof.Rows L2
def gOf (X : Cx) : Gm := ⟨X.s_0.heap, X.H_0, X.fs⟩
def gAt (X : Cx) (s : Shared) (H : Hp) : Gm := ⟨s.heap, H, frs X.stack⟩
def g0 : Gm := ⟨⟨#[], default⟩, fun _ => none, []⟩
structure FnM (P : Program) (w : World) (K : PySem.W.Frag) (mg : Str → Option Value) (base : Heap) (R : Rc) (k : Nat) (f : Addr) (fd : FuncData) (ps : List Str) (m : List PV → M PV) : Prop where
  run : ∀ (hid : List Addr) (A : Around) (outer : List PySem.Env) (s : Shared) (H : Hp) (args : Args) (us : List Value) (vs : List V) (ds : List PV) (φ : List Addr) (st : Sto) (Q : VK) (E : XK), Room k A → Env0 P w K mg base A outer s H → BindsTo s fd args (ps.zip us) → Vals vs us → ds.length = ps.length →
    RepS (R.h hid) φ st H → Tbs R H → RepXL (R.h hid) ⟨s.heap, H, frs outer⟩ φ H ds vs → Post (R.h hid) (fun c d _ H => E c d H) [] φ H (RepV (R.h hid)) (m ds st) Q → codeAny (model P w) A (.call (.ref f) args) (CR (L2.CX P w) outer P w H s Q E) s
def spM (R : Rc) (n : Nat) (m : List PV → M PV) : Sp := fun vs H Q E => ∃ φ st ds, ds.length = n ∧ RepS R φ st H ∧ Tbs R H ∧ RepL R φ H ds vs ∧ Post R (fun c d _ H => E c d H) [] φ H (RepV R) (m ds st) Q
theorem FnM.ok {P : Program} {w : World} {K : PySem.W.Frag} {mg : Str → Option Value} {base : Heap} {R : Rc} {k : Nat} {f : Addr} {fd : FuncData} {ps : List Str} {m : List PV → M PV} (F : FnM P w K mg base R k f fd ps m) :
    FnOk P w K mg base (L2.CX P w) k f fd ps (spM R ps.length m) :=
  ⟨fun vs H Q E ⟨φ, st, ds, hl, S, T, r, p⟩ => by rw [← r.length]; exact hl,
    fun A outer s H args us vs Q E hr e0 hb r ⟨φ, st, ds, hl, S, T, rr, p⟩ => F.run R.hid A outer s H args us vs ds φ st Q E hr e0 hb r hl S T rr.x p⟩
theorem FnM.mono {P : Program} {w : World} {K : PySem.W.Frag} {mg : Str → Option Value} {base : Heap} {R : Rc} {j k : Nat} {f : Addr} {fd : FuncData} {ps : List Str} {m : List PV → M PV} (F : FnM P w K mg base R j f fd ps m) (h : j ≤ k) :
    FnM P w K mg base R k f fd ps m := ⟨fun hid A outer s H args us vs ds φ st Q E hr => F.run hid A outer s H args us vs ds φ st Q E (hr.mono h)⟩
theorem Post.wish {R : Rc} {W : WX} {σ : L2.St} {φ : List Addr} {H : Hp} {α β : Type} {A : List Addr → Hp → α → β → Prop} {o : Out α} {Q : β → Hp → Prop} (h : Post R W σ φ H A o Q) : Post R (fun c d _ H => W c d σ H) [] φ H A o Q := by
  cases o with
  | ok d st => exact h
  | exc c v s => exact h
  | bad => exact h
theorem CloAt.down {X : Cx} {pins : List (Addr × Obj)} {σ : L2.St} {H : Hp} {s : Shared} {R : Rc} {φ : List Addr} {f : Addr} {k : Nat} {vs : List V} (I : Inv X pins σ H s) (hx : X.ex = []) (h : CloAt R (gOf X) φ H f k vs) : CloAt R (gAt X s H) φ H f k vs := by
  obtain ⟨L, cl, c, pm, ctv, h1, h2, h3, h4, h5, h6, h7, h8⟩ := h
  have hex : ∀ b, b ∉ X.ex := fun b z => by rw [hx] at z; cases z
  have up : ∀ b o, X.s_0.heap.get? b = some o → b ∉ X.fs → b ∉ frs X.stack := fun b o e n z => by
    rcases List.mem_cons.mp (I.stkSub b z) with q | q
    · have h1 := Heap.lt_size e
      have h2 := I.ok.above
      rw [q] at h1
      exact absurd (Nat.lt_of_lt_of_le h1 h2) (Nat.lt_irrefl _)
    · exact n q
  refine ⟨L, cl, c, pm, ctv, h1, I.base.keep f _ h2 h3 h4 (hex f), I.base.free f _ h2 h3 (hex f), up f _ h2 h4, h5, NdefX.CellsAt.later h6 h7 (fun y a _ => hex a) I, fun y a e => ?_, h8⟩
  obtain ⟨_, v, o, ho, _⟩ := h6.all y a e
  exact up a o ho (h7 y a e)
mutual
theorem RepX.down {X : Cx} {pins : List (Addr × Obj)} {σ : L2.St} {H : Hp} {s : Shared} {R : Rc} {φ : List Addr} (I : Inv X pins σ H s) (hx : X.ex = []) : ∀ (d : PV) (v : V), RepX R (gOf X) φ H d v → RepX R (gAt X s H) φ H d v
  | .clo k cs, v, h => by
    obtain ⟨f, vs, e, t, r⟩ := h
    exact ⟨f, vs, e, t.down I hx, RepXL.down I hx cs vs r⟩
  | .non, v, h => h
  | .bl b, v, h => h
  | .int i, v, h => h
  | .str x, v, h => h
  | .tup ds, v, h => h
  | .lst ds, v, h => h
  | .loc n, v, h => h
  | .glo x, v, h => h
  | .scr ns, v, h => h
  | .exn c f ds, v, h => h
theorem RepXL.down {X : Cx} {pins : List (Addr × Obj)} {σ : L2.St} {H : Hp} {s : Shared} {R : Rc} {φ : List Addr} (I : Inv X pins σ H s) (hx : X.ex = []) : ∀ (ds : List PV) (vs : List V), RepXL R (gOf X) φ H ds vs → RepXL R (gAt X s H) φ H ds vs
  | [], _, h => h
  | d :: ds, vs, h => by
    obtain ⟨v, r, e, h1, h2⟩ := h
    exact ⟨v, r, e, RepX.down I hx d v h1, RepXL.down I hx ds r h2⟩
end
theorem RepXL.len_of {R : Rc} {G : Gm} {φ : List Addr} {H : Hp} {ds : List PV} {vs : List V} (h : RepXL R G φ H ds vs) : ds.length = vs.length := h.length
section
variable {X : Cx} {R : Rc} {W : WX} {k : Nat} {f : Addr} {fd : FuncData} {ps : List Str} {m : List PV → M PV} {dvs : List V} {dds : List Value} {dps : List PV}
theorem run_M {pins : List (Addr × Obj)} {σ : L2.St} {H : Hp} {s : Shared} {Q : VK} {us : List Value} {vs : List V} {ds : List PV} {φ : List Addr} {st : Sto} (F : FnM X.prog X.w X.K X.mg X.base R k f fd ps m) (hr : Room k X.A) (hb : Binds X.K fd ps dds) (hd : Vals dvs dds) (tk : Takes X W)
    (I : Inv X pins σ H s) (r : Vals vs us) (hl : (ds ++ dps).length = ps.length) (S : RepS R φ st H) (T : Tbs R H) (x : RepXL R (gAt X s H) φ H ds vs) (xd : RepL R φ H dps dvs) (p : Post R W σ φ H (RepV R) (m (ds ++ dps) st) Q) :
    wpAny (model X.prog X.w) X.A (call (.ref f) us) (EP X pins σ Q) X.xe s := by
  have r2 : Vals (vs ++ dvs) (us ++ dds) := r.append hd
  have x2 := x.append (RepL.x (G := gAt X s H) xd)
  have hl2 : (us ++ dds).length = ps.length := by rw [← r2.length, ← x2.length]; exact hl
  refine wpAny_call (codeAny_mono (F.run R.hid X.A X.stack s H ⟨us, []⟩ (us ++ dds) (vs ++ dvs) (ds ++ dps) φ st Q (fun c d H => W c d σ H) hr I.env0 (hb s us I.kIn hl2) r2 hl S T x2 p.wish) fun r s' hq => ?_)
  cases r with
  | error e => exact tk e s' (XE.of_call I (fun _ _ _ h => h) hq)
  | ok fl =>
    cases fl with
    | ret u => exact I.after hq
    | next => exact False.elim hq
    | brk => exact False.elim hq
    | cont => exact False.elim hq
def PX (X : Cx) (R : Rc) (W : WX) (es : List Expr) (ma : Env → M (List PV)) : Prop :=
  ∀ (pos : Pos) (pins : List (Addr × Obj)) (s : Shared) (σ : L2.St) (H : Hp) (φ : List Addr) (st : Sto) (ρ : Env) (g : List PV → M PV) (Q : VK), Inv X pins σ H s → RepS R φ st H → RepE R (gOf X) φ H ρ σ → Tbs R H → Post R W σ φ H (RepV R) (M.bnd (ma ρ) g st) Q →
    wpAny (model X.prog X.w) X.A (spliced (backTo pos (starEach es X.env))) (fun us s' => ∃ vs H' φ' st' ds, Inv X pins σ H' s' ∧ Vals vs us ∧ Step φ H φ' H' ∧ RepS R φ' st' H' ∧ Tbs R H' ∧ RepXL R (gAt X s' H') φ' H' ds vs ∧ Post R W σ φ' H' (RepV R) (g ds st') Q) X.xe s
theorem x_nil : PX X R W [] fun _ => M.ret [] := fun pos pins s σ H φ st ρ g Q I S E T p =>
  Calls.spliced_nil ⟨[], H, φ, st, [], I, .nil, Step.refl _ _, S, T, rfl, p⟩
theorem bnd_ret {α β γ : Type} {m : M α} {f : α → M β} {g : β → M γ} : M.bnd (M.bnd m f) g = M.bnd m fun x => M.bnd (f x) g := by
  funext s
  unfold M.bnd
  cases m s <;> rfl
theorem x_cons {a : Expr} {es : List Expr} {ma : Env → M PV} {ms : Env → M (List PV)} (ha : PE X a (tM R (gOf X) W ma)) (hr : PX X R W es ms) (hs : starEach (a :: es) X.env = (false, eval a X.env) :: starEach es X.env) :
    PX X R W (a :: es) fun ρ => M.bnd (ma ρ) fun x => M.bnd (ms ρ) fun xs => M.ret (x :: xs) := by
  intro pos pins s σ H φ st ρ g Q I S E T p
  rw [bnd_ret] at p
  rw [hs]
  show wpAny _ _ (spliced ((false, eval a X.env) :: backTo pos (starEach es X.env))) _ _ s
  refine Calls.spliced_cons (thn (ha.run pins s σ H (fun v H1 => ∃ φ1 st1 d, Step φ H φ1 H1 ∧ RepS R φ1 st1 H1 ∧ RepE R (gOf X) φ1 H1 ρ σ ∧ Tbs R H1 ∧ RepV R φ1 H1 d v ∧ Post R W σ φ1 H1 (RepV R) (M.bnd (M.bnd (ms ρ) fun xs => M.ret (d :: xs)) g st1) Q) I
    ⟨φ, st, ρ, S, E, T, Post.mono (Post.bnd p) fun v H1 ⟨φ1, st1, d, s1, S1, T1, r1, p1⟩ => ⟨φ1, st1, d, s1, S1, E.step s1, T1, r1, p1⟩⟩) fun u s1 ⟨x, H1, I1, rx, φ1, st1, d, s1', S1, E1, T1, r1, p1⟩ => ?_)
  rw [bnd_ret] at p1
  refine thn (hr pos pins s1 σ H1 φ1 st1 ρ (fun xs => M.bnd (M.ret (d :: xs)) g) Q I1 S1 E1 T1 p1) fun us s2 ⟨vs, H2, φ2, st2, ds, I2, rv, s2', S2, T2, x2, p2⟩ => ?_
  exact ⟨x :: vs, H2, φ2, st2, d :: ds, I2, .cons rx rv, s1'.trans s2', S2, T2, ⟨x, vs, rfl, (r1.step s2').x, x2⟩, p2⟩
theorem s_call {x : Str} {p pos : Pos} {e : Expr} {es : List Expr} {ma : Env → M (List PV)} (F : FnM X.prog X.w X.K X.mg X.base R k f fd ps m) (hn : ∀ ds st, m ds st ≠ .bad → ds.length = ps.length) (hr : Room k X.A) (hg : Gl X x) (hm : X.mg x = some (.ref f)) (hk : PySem.W.keepIn X.K (.ref f) = true)
    (hb : Binds X.K fd ps dds) (hd : Vals dvs dds) (xd : ∀ φ H, RepL R φ H dps dvs) (tk : Takes X W) (ha : PX X R W (e :: es) ma) (hdb : (x == ("__debug__" : Str)) = false) (he : starEach (e :: es) X.env = (false, eval e X.env) :: starEach es X.env) (hpl : (backTo pos (starEach es X.env)).any (·.1) = false) :
    PE X (.Call (.Name x p) (e :: es) [] pos) (tM R (gOf X) W fun ρ => M.bnd (ma ρ) fun xs => m (xs ++ dps)) := by
  refine ⟨fun pins s σ H Q I ⟨φ, st, ρ, S, E, T, h⟩ => ?_⟩
  refine wpAny_Call_Name_kw (ld_glob I hg hm ?_ hdb)
  refine PySem.W.callWith_K (h₀ := X.base) I.ok.mod.kin hk (thn (ha pos pins s σ H φ st ρ (fun xs => m (xs ++ dps)) Q I S E T h) fun us s1 ⟨vs, H1, φ1, st1, ds, I1, rv, s1', S1, T1, x1, p1⟩ => ⟨I1.kIn, ?_⟩) he hpl
  exact run_M F hr hb hd tk I1 rv (hn _ st1 fun z => by rw [z] at p1; exact p1) S1 T1 x1 (xd φ1 H1) p1
theorem s_call0 {x : Str} {p pos : Pos} (F : FnM X.prog X.w X.K X.mg X.base R k f fd ps m) (hn : ∀ ds st, m ds st ≠ .bad → ds.length = ps.length) (hr : Room k X.A) (hg : Gl X x) (hm : X.mg x = some (.ref f)) (hk : PySem.W.keepIn X.K (.ref f) = true)
    (hb : Binds X.K fd ps dds) (hd : Vals dvs dds) (xd : ∀ φ H, RepL R φ H dps dvs) (tk : Takes X W) (hdb : (x == ("__debug__" : Str)) = false) :
    PE X (.Call (.Name x p) [] [] pos) (tM R (gOf X) W fun ρ => M.bnd (M.ret []) fun xs => m (xs ++ dps)) := by
  refine ⟨fun pins s σ H Q I ⟨φ, st, ρ, S, E, T, h⟩ => ?_⟩
  refine wpAny_Call_Name_kw (ld_glob I hg hm ?_ hdb)
  have p1 : Post R W σ φ H (RepV R) (m ([] ++ dps) st) Q := h
  exact PySem.W.callWith_K0 I.kIn hk (run_M (us := []) (vs := []) (ds := []) F hr hb hd tk I .nil (hn _ st fun z => by rw [z] at p1; exact p1) S T rfl (xd φ H) p1)
end
end Mp
namespace Mp
open PySem PySem.Spec PyProof.Rows L2
section
variable {X : Cx} {R : Rc} {W : WX}
theorem x_fvar {i : Nat} {x : Str} {p : Pos} {es : List Expr} {ms : Env → M (List PV)} (hx : X.ex = []) (hN : X.N[i]? = some x) (hv : Vis X.env.scope x) (hd : (x == ("__debug__" : Str)) = false) (hcd : (x == ("__classdict__" : Str)) = false) (hr : PX X R W es ms) :
    PX X R W (.Name x p :: es) fun ρ => M.bnd (getX ρ i) fun d => M.bnd (ms ρ) fun xs => M.ret (d :: xs) := by
  intro pos pins s σ H φ st ρ g Q I S E T h
  rw [bnd_ret] at h
  show wpAny _ _ (spliced ((false, eval (.Name x p) X.env) :: backTo pos (starEach es X.env))) _ _ s
  unfold getX M.bnd at h
  cases e : ρ[i]? with
  | none => rw [e] at h; exact h.elim
  | some o =>
    cases o with
    | none => rw [e] at h; exact h.elim
    | some d =>
      rw [e] at h
      obtain ⟨v, h1, h2⟩ := E.at_ i d e
      refine Calls.spliced_cons (thn ((pe_var (pos := p) hN hv hd hcd).run pins s σ H (fun y H1 => y = v ∧ H1 = H) I ⟨v, h1, rfl, rfl⟩) fun u s1 ⟨y, H1, I1, ry, ey, eH⟩ => ?_)
      subst ey
      subst eH
      have h' : Post R W σ φ H1 (RepV R) (M.bnd (M.bnd (ms ρ) fun xs => M.ret (d :: xs)) g st) Q := h
      rw [bnd_ret] at h'
      refine thn (hr pos pins s1 σ H1 φ st ρ (fun xs => M.bnd (M.ret (d :: xs)) g) Q I1 S E T h') fun us s2 ⟨vs, H2, φ2, st2, ds, I2, rv, s2', S2, T2, x2, p2⟩ => ?_
      exact ⟨y :: vs, H2, φ2, st2, d :: ds, I2, .cons ry rv, s2', S2, T2, ⟨y, vs, rfl, RepX.down I2 hx d y (h2.step s2'), x2⟩, p2⟩
theorem caps_ok {φ : List Addr} {H : Hp} {ρ : Env} {σ : L2.St} {st : Sto} {G : Gm} (E : RepE R G φ H ρ σ) : ∀ {js : List Nat} {cs : List PV} {st' : Sto}, caps ρ js st = .ok cs st' → st' = st ∧ ∃ vs, js.map (NdefX.slotAt σ) = vs.map some ∧ RepXL R G φ H cs vs
  | [], _, _, e => by
    cases e
    exact ⟨rfl, [], rfl, rfl⟩
  | j :: js, cs, st', e => by
    unfold caps getX M.bnd at e
    cases q : ρ[j]? with
    | none => rw [q] at e; cases e
    | some o =>
      cases o with
      | none => rw [q] at e; cases e
      | some d =>
        rw [q] at e
        cases q2 : caps ρ js st with
        | ok xs s1 =>
          simp only [M.ret, q2] at e
          cases e
          obtain ⟨h1, vs, h2, h3⟩ := caps_ok E q2
          obtain ⟨v, g1, g2⟩ := E.at_ j d q
          exact ⟨h1, v :: vs, by rw [List.map_cons, List.map_cons, h2, NdefX.slotAt_of g1], ⟨v, vs, rfl, g2, h3⟩⟩
        | exc c v s1 =>
          simp only [M.ret, q2] at e
          cases e
        | bad =>
          simp only [M.ret, q2] at e
          cases e
structure LamOk (X : Cx) (R : Rc) (k : Nat) (L : LamD) (js : List Nat) : Prop where
  lam : R.lam k L
  qual : L.qual = X.env.qual ++ "<lambda>"
  free : ∀ y ∈ L.scope.names, y.2 = .free → X.env.scope.names.lookup y.1 = some .cell ∨ X.env.scope.names.lookup y.1 = some .free
  fr : ∀ y ∈ L.fr, (y, NameKind.free) ∈ L.scope.names
  js : js.map (fun j => X.N[j]?) = L.fr.map some
  ex : X.ex = []
  cf : ∀ (pins : List (Addr × Obj)) (σ : L2.St) (H : Hp) (s : Shared), Inv X pins σ H s → ∀ y c, X.env.cells.lookup y = some c → c ∉ X.fs
structure TabOk (X : Cx) (R : Rc) (c P : Addr) : Prop where
  tb : LamX.TabB X.base X.mg c P
  code : X.env.code = .ref c
  mem : (P, X.env.qual ++ "<lambda>") ∈ R.tabs
  one : ∀ p ∈ R.tabs, p.1 = P → p.2 = X.env.qual ++ "<lambda>"
theorem tab_step {φ : List Addr} {st : Sto} {H : Hp} {P c : Addr} {ps ps' : Array Value} {q : Str} (S : RepS R φ st H) (hP : H P = some (.tbl ps)) (hc : H c = none) (hp : ∃ more, ps' = ps ++ more) :
    Step φ H φ (upd (upd H P (.tbl ps')) c (LamX.CodeO c q)) ∧ RepS R φ st (upd (upd H P (.tbl ps')) c (LamX.CodeO c q)) := by
  have off : ∀ b o, H b = some o → b ≠ c := fun b o e z => by
    rw [z, hc] at e
    cases e
  have same : ∀ b, b ≠ P → b ≠ c → upd (upd H P (.tbl ps')) c (LamX.CodeO c q) b = H b := fun b h1 h2 => by
    rw [upd_ne h2, upd_ne h1]
  have sp : Step φ H φ (upd (upd H P (.tbl ps')) c (LamX.CodeO c q)) := by
    refine ⟨List.prefix_refl φ, fun b o e n t => ?_, fun b qs e n => ?_, fun _ m => .inl m⟩
    · have h1 : b ≠ P := fun z => by
        rw [z, hP] at e
        exact t ps (Option.some.inj e).symm
      exact (same b h1 (off b o e)).trans e
    · by_cases h1 : b = P
      · obtain ⟨more, rfl⟩ := hp
        rw [h1, hP] at e
        cases e
        exact ⟨more, by rw [h1, upd_ne (off P _ hP), upd_same]⟩
      · exact ⟨#[], by rw [same b h1 (off b _ e), e]; simp⟩
  refine ⟨sp, S.len, S.nd, fun n m a e1 e2 => ?_, fun D hD => by
    obtain ⟨h1, vs, h2⟩ := S.hd D hD
    refine ⟨h1, vs, ?_⟩
    rw [same D (fun z => by rw [z, hP] at h2; cases h2) (off D _ h2)]
    exact h2⟩
  have r := S.at_ n m a e1 e2
  obtain ⟨u, hu⟩ := r.tracked
  refine r.step sp (same a (fun z => ?_) (off a u hu))
  subst z
  cases m with
  | lst ds => obtain ⟨vs, h, _⟩ := r; rw [hP] at h; cases h
  | dct _ => rcases r with ⟨gs, h, _⟩ | ⟨gs, h, _⟩ <;> (rw [hP] at h; cases h)
  | ins c fs => obtain ⟨dx, gs, h, _⟩ := r; rw [hP] at h; cases h
theorem lam_new {c P : Addr} {k : Nat} {L : LamD} {js : List Nat} {lpos : Pos} {pins : List (Addr × Obj)} {σ : L2.St} {H : Hp} {s : Shared} {φ : List Addr} {st : Sto} {Q : Value → Shared → Prop} (B : TabOk X R c P) (Lk : LamOk X R k L js) (hdef : defaultsOf L.params X.env = ([], []))
    (I : Inv X pins σ H s) (S : RepS R φ st H) (T : Tbs R H)
    (h : ∀ (f c' : Addr) (pm ctv : Value) (H1 : Hp) (s' : Shared), Inv X pins σ H1 s' → Step φ H φ H1 → RepS R φ st H1 → Tbs R H1 →
      s'.heap.get? f = some (PySem.W.kla_obj "<lambda>" L.qual L.params L.body L.scope (cloFrom X.env.cells L.scope.names []) pm c' ctv) → H1 f = none → f ∉ X.fs → f ≠ X.env.locals → f ∉ frs X.stack → Own R φ H1 c' (LamX.CodeO c' L.qual) → Q (.ref f) s') :
    wpAny (model X.prog X.w) X.A (eval (.Lambda L.params L.body L.scope lpos) X.env) Q X.xe s := by
  obtain ⟨ps, hP, ht, ha⟩ := T _ B.mem
  have hfree : ∀ y ∈ L.scope.names, y.2 = .free → ∃ c, X.env.cells.lookup y.1 = some c := fun y hy e => (Lk.free y hy e).elim
    (fun z => I.ok.has _ (.inl z)) fun z => I.ok.has _ (.inr z)
  have bP : s.heap.BuiltinsAt X.mg P := B.tb.bm.keeps I.bk
  have gP : s.heap.get? P = some { cls := .none, data := .fields ps } := I.hok P _ hP
  have newer : ∀ f, s.heap.objs.size ≤ f → f ∉ X.fs ∧ f ≠ X.env.locals ∧ f ∉ frs X.stack := fun f hf => by
    have h1 : f ≠ X.env.locals := fun z => by
      have h1 := I.lt
      rw [← z] at h1
      exact Nat.lt_irrefl _ (Nat.lt_of_lt_of_le h1 hf)
    exact ⟨I.nofs hf, h1, fun z => (List.mem_cons.mp (I.stkSub _ z)).elim h1 (I.nofs hf)⟩
  have cne : ∀ c' ps', LamX.CodeO c' L.qual ≠ .tbl ps' := fun c' ps' => LamX.codeO_ne ps'
  refine PySem.W.kla_eval hdef ?_
  rw [← Lk.qual]
  cases hc : codeAmong lpos ps.toList with
  | some cv =>
    obtain ⟨c', e, hco⟩ := ha lpos cv hc
    subst e
    refine PySem.W.kla_makeFunctionHit (mg := X.mg) (c := c) (P := P) (ps := ps) (closure_ok hfree)
      I.ok.glob (I.mod.glob.keeps I.bk) B.code (B.tb.code.keeps I.bk) gP ht hc bP fun ctv h' tk hx hsz => ?_
    obtain ⟨n1, n2, n3⟩ := newer h'.objs.size hsz
    rw [← Lk.qual] at hco
    have I1 : Inv X pins σ H { s with heap := h'.push (PySem.W.kla_obj "<lambda>" L.qual L.params L.body L.scope (cloFrom X.env.cells L.scope.names []) ((X.mg "__name__").getD .none) c' ctv), toks := tk } :=
      I.kept fun b o e => Heap.get?_push_of_some _ (hx b o e)
    refine h h'.objs.size c' _ ctv H _ I1 (Step.refl φ H) S T (Heap.get?_push_size _ rfl) (I.hok.fresh hsz) n1 n2 n3 ⟨hco, ⟨fun m => ?_, fun m => by
      obtain ⟨_, vs, e⟩ := S.hd c' m
      rw [hco] at e
      cases e⟩, cne c'⟩
    obtain ⟨n, e⟩ := List.mem_iff_getElem?.mp m
    obtain ⟨hn, _⟩ := List.getElem?_eq_some_iff.mp e
    have hl := S.len
    have r := S.at_ n st[n] c' (List.getElem?_eq_getElem (by omega)) e
    cases hm : st[n] with
    | lst ds => rw [hm] at r; obtain ⟨vs, h, _⟩ := r; rw [hco] at h; cases h
    | dct _ => rw [hm] at r; rcases r with ⟨gs, h, _⟩ | ⟨gs, h, _⟩ <;> (rw [hco] at h; cases h)
    | ins c fs => rw [hm] at r; obtain ⟨dx, gs, h, _⟩ := r; rw [hco] at h; cases h
  | none =>
    refine PySem.W.kla_makeFunction (mg := X.mg) (c := c) (P := P) (ps := ps) (closure_ok hfree)
      I.ok.glob (I.mod.glob.keeps I.bk) B.code (B.tb.code.keeps I.bk) gP ht hc B.tb.gP bP fun c' ctv h' tk hx hge hlt hrec htb => ?_
    obtain ⟨c2, oc, vs, t, e2, hoc, hd, hv⟩ := hrec
    cases e2
    have hsz : s.heap.objs.size ≤ h'.objs.size := Nat.le_trans hge (Nat.le_of_lt hlt)
    obtain ⟨n1, n2, n3⟩ := newer h'.objs.size hsz
    have nC : H c' = none := I.hok.fresh hge
    have I1 := LamX.inv_table (t' := tk) (more := #[rawInt lpos.line, rawInt lpos.col, .ref c'])
      (h' := h'.push (PySem.W.kla_obj "<lambda>" L.qual L.params L.body L.scope (cloFrom X.env.cells L.scope.names []) ((X.mg "__name__").getD .none) c' ctv)) I hP
      (fun b o hb e => Heap.get?_push_of_some _ (hx b o hb e)) (Heap.get?_push_of_some _ htb) hge ⟨oc, vs, t, Heap.get?_push_of_some _ hoc, hd, hv⟩
    obtain ⟨s1, S1⟩ := tab_step (q := L.qual) S hP nC ⟨#[rawInt lpos.line, rawInt lpos.col, .ref c'], rfl⟩
    have kept : ∀ d q, H d = some (LamX.CodeO d q) → upd (upd H P (.tbl (ps ++ #[rawInt lpos.line, rawInt lpos.col, .ref c']))) c' (LamX.CodeO c' L.qual) d = some (LamX.CodeO d q) := fun d q e => by
      rw [upd_ne (ne_of_none e nC), upd_ne (fun z => by rw [z, hP] at e; exact LamX.codeO_ne ps (Option.some.inj e).symm)]
      exact e
    have eL : (ps ++ #[rawInt lpos.line, rawInt lpos.col, .ref c']).toList = ps.toList ++ [rawInt lpos.line, rawInt lpos.col, .ref c'] := by simp
    refine h h'.objs.size c' _ ctv _ _ I1 s1 S1 (fun p hp => ?_) (Heap.get?_push_size _ rfl) ?_ n1 n2 n3 ⟨upd_same, S.fresh nC, cne c'⟩
    · by_cases hb : p.1 = P
      · refine ⟨ps ++ #[rawInt lpos.line, rawInt lpos.col, .ref c'], ?_, ?_, fun p' cv hcv => ?_⟩
        · rw [hb, upd_ne (ne_of_none hP nC), upd_same]
        · rw [eL]
          exact PySem.TriplesOk_snoc _ _ _ _ ht
        · rw [eL] at hcv
          rw [B.one p hp hb]
          rcases LamX.among_app _ ht hcv with z | z
          · obtain ⟨c0, e1, e2⟩ := ha p' cv z
            exact ⟨c0, e1, kept c0 _ e2⟩
          · exact ⟨c', z, by rw [upd_same, Lk.qual]⟩
      · obtain ⟨ps', a1, a2, a3⟩ := T p hp
        refine ⟨ps', ?_, a2, fun p' cv hcv => ?_⟩
        · rw [upd_ne (ne_of_none a1 nC), upd_ne hb]
          exact a1
        · obtain ⟨c0, e1, e2⟩ := a3 p' cv hcv
          exact ⟨c0, e1, kept c0 _ e2⟩
    · rw [upd_ne (Nat.ne_of_gt hlt), upd_ne (Nat.ne_of_gt (Nat.lt_of_lt_of_le (Heap.lt_size gP) hsz))]
      exact I.hok.fresh hsz
theorem NoX.caps {ρ : Env} : ∀ {js : List Nat}, NoX (caps ρ js)
  | [] => NoX.ret _
  | j :: js => by
    unfold Mp.caps
    refine NoX.bnd ?_ fun x => NoX.bnd NoX.caps fun _ => NoX.ret _
    unfold getX
    split
    · exact NoX.ret _
    · exact NoX.bad
theorem x_lam {c P : Addr} {k : Nat} {L : LamD} {js : List Nat} {lpos : Pos} {es : List Expr} {ms : Env → M (List PV)} (B : TabOk X R c P) (Lk : LamOk X R k L js) (hdef : defaultsOf L.params X.env = ([], [])) (hr : PX X R W es ms) :
    PX X R W (.Lambda L.params L.body L.scope lpos :: es) fun ρ => M.bnd (caps ρ js) fun cs => M.bnd (ms ρ) fun xs => M.ret (.clo k cs :: xs) := by
  intro pos pins s σ H φ st ρ g Q I S E T h
  rw [bnd_ret] at h
  show wpAny _ _ (spliced ((false, eval (.Lambda L.params L.body L.scope lpos) X.env) :: backTo pos (starEach es X.env))) _ _ s
  cases e : caps ρ js st with
  | exc c v s1 => exact (NoX.caps _ _ _ _ e).elim
  | bad =>
    unfold M.bnd at h
    rw [e] at h
    exact h.elim
  | ok cs st1 =>
    obtain ⟨rfl, vs, hv, xv⟩ := caps_ok E e
    have h : Post R W σ φ H (RepV R) (M.bnd (M.bnd (ms ρ) fun xs => M.ret (.clo k cs :: xs)) g st1) Q := by
      unfold M.bnd at h
      rw [e] at h
      exact h
    rw [bnd_ret] at h
    refine Calls.spliced_cons (lam_new B Lk hdef I S T fun f c' pm ctv H1 s1 I1 s1' S1 T1 hf hn n1 n2 n3 hco => ?_)
    have I1' : Inv X (pins ++ [(f, PySem.W.kla_obj "<lambda>" L.qual L.params L.body L.scope (cloFrom X.env.cells L.scope.names []) pm c' ctv)]) σ H1 s1 := I1.pins_of fun p hp => by
      rcases List.mem_append.mp hp with z | z
      · exact I1.pin p (List.mem_append_right _ z)
      · simp at z
        subst z
        exact ⟨hf, hn, n2, n1, fun v q => by cases q⟩
    refine thn (hr pos _ s1 σ H1 φ st1 ρ (fun xs => M.bnd (M.ret (.clo k cs :: xs)) g) Q I1' S1 (E.step s1') T1 (h.step s1')) fun us s2 ⟨ws, H2, φ2, st2, ds, I2, rv, s2', S2, T2, x2, p2⟩ => ?_
    have I2p : Inv X pins σ H2 s2 := I2.pins_of fun p hp => I2.pin p (List.mem_append_right _ (List.mem_append_left _ hp))
    obtain ⟨f1, f2, f3, f4, f5⟩ := I2.pin (f, PySem.W.kla_obj "<lambda>" L.qual L.params L.body L.scope (cloFrom X.env.cells L.scope.names []) pm c' ctv) (List.mem_append_right _ (List.mem_append_right _ (List.mem_singleton.mpr rfl)))
    have cp : NdefX.Caps X (cloFrom X.env.cells L.scope.names []) L.fr js := NdefX.Caps.made I2.ok Lk.free Lk.fr Lk.js
    have ca := NdefX.cells_of I2p cp
    rw [hv] at ca
    have hl : vs.length = L.fr.length := by
      have q := ca.len
      rw [List.length_map] at q
      exact q
    refine ⟨.ref f :: ws, H2, φ2, st2, .clo k cs :: ds, I2p, .cons rfl rv, s1'.trans s2', S2, T2, ⟨.ref f, ws, rfl, ⟨f, vs, rfl, ?_, RepXL.down I2p Lk.ex cs vs (RepXL.step (s1'.trans s2') cs vs xv)⟩, x2⟩, p2⟩
    refine ⟨L, _, c', pm, ctv, Lk.lam, f1, f2, n3, hco.step s2', ca, fun y a e => ?_, hl⟩
    have ea := cp.sub y a e
    exact fun z => (List.mem_cons.mp (I2p.stkSub _ z)).elim (I2p.cne y a ea) (Lk.cf pins σ H2 s2 I2p y a ea)
end
section
variable {P : Program} {w : World} {K : PySem.W.Frag} {mg : Str → Option Value} {base : Heap} {R : Rc}
abbrev nfOf (L : LamD) (cl : List (Str × Addr)) (c : Addr) : NdefX.NF := ⟨"<lambda>", L.qual, L.params, [], L.scope, cl, c⟩
abbrev lcx (P : Program) (w : World) (K : PySem.W.Frag) (mg : Str → Option Value) (base : Heap) (N : List Str) (L : LamD) (cl : List (Str × Addr)) (c f : Addr) (A : Around) (outer : List PySem.Env) (s : Shared) (H : Hp) (E : XK) : Cx :=
  NdefX.ncx (L2.CX P w) P w K mg base N (nfOf L cl c) f A outer s H E
theorem zip_len {α β : Type} {xs : List α} {ys : List β} : (xs.zip ys).length ≤ xs.length := by
  rw [List.length_zip]
  exact Nat.min_le_left _ _
theorem clo_run {np nl nc k : Nat} {mb : Env → M PV} {n : Nat} (hA : ∀ L : LamD, R.lam k L → ∃ N ps : List Str, ps.length = np ∧ N.length = nl ∧ L.fr.length = nc ∧ NdefX.NScope N ps L.fr L.scope ∧
      (∀ (cl : List (Str × Addr)) (pm cv ctv : Value) (us : List Value), us.length = ps.length → bindArgs (PySem.W.kla_fn "<lambda>" L.qual L.params L.body L.scope cl pm cv ctv) ⟨us, []⟩ = pure (ps.zip us)) ∧
      ∀ (cl : List (Str × Addr)) (c f : Addr) (A : Around) (outer : List PySem.Env) (s : Shared) (H : Hp) (E : XK), Room n (A.deeper (NdefX.envF (nfOf L cl c) f s.heap.objs.size)) → (∀ y a, cl.lookup y = some a → a ∉ frs outer) →
        PE (lcx P w K mg base N L cl c f A outer s H E) L.body (tM R (gOf (lcx P w K mg base N L cl c f A outer s H E)) (fun c d _ H => E c d H) mb))
    {f : Addr} {A : Around} {outer : List PySem.Env} {s : Shared} {H : Hp} {φ : List Addr} {st : Sto} {vs avs : List V} {cs ds : List PV} {us : List Value} {Q : VK} {E : XK} (hr : Room (n + 1) A) (e0 : Env0 P w K mg base A outer s H) (C : CloAt R ⟨s.heap, H, frs outer⟩ φ H f k vs)
    (xc : RepXL R ⟨s.heap, H, frs outer⟩ φ H cs vs) (rv : Vals avs us) (xa : RepL R φ H ds avs) (hl : ds.length = np) (S : RepS R φ st H) (T : Tbs R H)
    (p : Post R (fun c d _ H => E c d H) [] φ H (RepV R) (mb ((ds ++ cs).map some ++ List.replicate (nl - np - nc) none) st) Q) :
    codeAny (model P w) A (.call (.ref f) ⟨us, []⟩) (CR (L2.CX P w) outer P w H s Q E) s := by
  obtain ⟨L, cl, c, pm, ctv, h1, h2, h3, h4, h5, h6, h7, h8⟩ := C
  obtain ⟨N, ps, e1, e2, e3, Sc, hbind, hbody⟩ := hA L h1
  subst e1
  subst e2
  subst e3
  have lim : s.heap.NoLimit := e0.mod.nolimit.keeps fun b o e => (e0.bs b o e).1
  have hul : us.length = ps.length := by rw [← rv.length, ← xa.length]; exact hl
  refine PySem.W.kla_callFunE hr.depth h2 rfl Sc.co Sc.gen rfl (NdefX.codeO_at e0.hok h5.1) ?_
  rw [hbind cl pm (.ref c) ctv us hul]
  refine wpAny_pure (wpAny_newFunctionEnv Sc.nocell (fun ⟨nm, _⟩ hy => Sc.par nm (List.of_mem_zip hy).1) (fun h₁ hns hsb => ⟨lim.fresh _ hsb, ?_⟩) Sc.kind)
  show codeAny _ _ (.expr L.body (NdefX.envF (nfOf L cl c) f s.heap.objs.size)) _ _
  have kp : ∀ b o, s.heap.get? b = some o → h₁.get? b = some o := fun b o e => hsb.extBut b o (Nat.ne_of_lt (Heap.lt_size e)) (Heap.get?_push_of_some _ e)
  have hvl : avs.length = ps.length := by rw [← xa.length]; exact hl
  have I : Inv (lcx P w K mg base N L cl c f A outer s H E) [] (NdefX.startF N avs (vs.map some)) H { s with heap := h₁, toks := s.toks + (ps.zip us).length } :=
    NdefX.inv_startN Sc hr.hd e0 hvl rv h6 hns kp
  have hcl : cs.length = L.fr.length := by rw [xc.length]; exact h8
  have pe := hbody cl c f A outer s H E (hr.deeper _) h7
  have sc : (NdefX.startF N avs (vs.map some)) = (avs ++ vs).map some ++ List.replicate (N.length - ps.length - L.fr.length) none := by
    unfold NdefX.startF
    rw [List.length_map, hvl, h8, List.map_append, List.append_assoc]
  have xx : RepXL R (gOf (lcx P w K mg base N L cl c f A outer s H E)) φ H (ds ++ cs) (avs ++ vs) := (RepL.x xa).append xc
  have E1 : RepE R (gOf (lcx P w K mg base N L cl c f A outer s H E)) φ H ((ds ++ cs).map some ++ List.replicate (N.length - ps.length - L.fr.length) none) (NdefX.startF N avs (vs.map some)) := by
    rw [sc]
    have hll := xx.length
    refine ⟨by rw [List.length_append, List.length_append, List.length_map, List.length_map, hll, List.length_replicate, List.length_replicate], fun i d e => ?_⟩
    by_cases hi : i < (ds ++ cs).length
    · rw [List.getElem?_append_left (by rw [List.length_map]; exact hi), List.getElem?_map] at e
      cases q : (ds ++ cs)[i]? with
      | none => rw [q] at e; cases e
      | some d' =>
        rw [q] at e
        cases e
        obtain ⟨v, g1, g2⟩ := xx.get q
        refine ⟨v, ?_, g2⟩
        rw [List.getElem?_append_left (by rw [List.length_map, ← hll]; exact hi), List.getElem?_map, g1]
        rfl
    · rw [List.getElem?_append_right (by rw [List.length_map]; omega), List.getElem?_replicate] at e
      split at e <;> cases e
  have tk : Post R (fun c d _ H => E c d H) (NdefX.startF N avs (vs.map some)) φ H (RepV R) (mb ((ds ++ cs).map some ++ List.replicate (N.length - ps.length - L.fr.length) none) st) Q := by
    cases q : mb ((ds ++ cs).map some ++ List.replicate (N.length - ps.length - L.fr.length) none) st with
    | ok d st' => rw [q] at p; exact p
    | exc c v st' => rw [q] at p; exact p
    | bad => rw [q] at p; exact p
  refine PySem.W.kla_codeExpr (wpAny_mono (pe.run [] _ _ H Q I ⟨φ, st, _, S, E1, T, tk⟩) (fun v s' hq => ?_) fun e s' hq => hq)
  obtain ⟨w', H', J', rv', q⟩ := hq
  exact ⟨w', H', J'.os, J'.bare, J'.base, J'.hok, rv', q⟩
end
section
variable {X : Cx} {R : Rc} {W : WX}
def CloM (P : Program) (w : World) (K : PySem.W.Frag) (mg : Str → Option Value) (base : Heap) (R : Rc) (n : Nat) (m : Nat → List PV → List PV → M PV) : Prop :=
  ∀ (hid : List Addr) (kk : Nat) (f : Addr) (A : Around) (outer : List PySem.Env) (s : Shared) (H : Hp) (φ : List Addr) (st : Sto) (vs avs : List V) (cs ds : List PV) (us : List Value) (Q : VK) (E : XK), Room n A → Env0 P w K mg base A outer s H → CloAt (R.h hid) ⟨s.heap, H, frs outer⟩ φ H f kk vs →
    RepXL (R.h hid) ⟨s.heap, H, frs outer⟩ φ H cs vs → Vals avs us → RepL (R.h hid) φ H ds avs → RepS (R.h hid) φ st H → Tbs R H → Post (R.h hid) (fun c d _ H => E c d H) [] φ H (RepV (R.h hid)) (m kk cs ds st) Q → codeAny (model P w) A (.call (.ref f) ⟨us, []⟩) (CR (L2.CX P w) outer P w H s Q E) s
def cloM (x : PV) (k : Nat → List PV → M PV) : M PV := match x with
  | .clo j cs => k j cs
  | _ => M.bad
theorem fn_at {G : Gm} {φ : List Addr} {H : Hp} {f : Addr} {k : Nat} {vs : List V} {s : Shared} (h : CloAt R ⟨s.heap, H, frs X.stack⟩ φ H f k vs) : PySem.W.FnAt f s.heap := by
  obtain ⟨L, cl, c, pm, ctv, _, h2, _⟩ := h
  exact ⟨_, _, _, _, h2⟩
theorem clo_call {n : Nat} {m : Nat → List PV → List PV → M PV} {pins : List (Addr × Obj)} {σ : L2.St} {H : Hp} {s : Shared} {φ : List Addr} {st : Sto} {Q : VK} {kk : Nat} {f : Addr} {vs avs : List V} {cs ds : List PV} {us : List Value} (F : CloM X.prog X.w X.K X.mg X.base R n m) (hr : Room n X.A) (tk : Takes X W)
    (I : Inv X pins σ H s) (C : CloAt R (gAt X s H) φ H f kk vs) (xc : RepXL R (gAt X s H) φ H cs vs) (rv : Vals avs us) (xa : RepL R φ H ds avs) (S : RepS R φ st H) (T : Tbs R H) (p : Post R W σ φ H (RepV R) (m kk cs ds st) Q) :
    wpAny (model X.prog X.w) X.A (call (.ref f) us) (EP X pins σ Q) X.xe s := by
  refine wpAny_call (codeAny_mono (F R.hid kk f X.A X.stack s H φ st vs avs cs ds us Q (fun c d H => W c d σ H) hr I.env0 C xc rv xa S T p.wish) fun r s' hq => ?_)
  cases r with
  | error e => exact tk e s' (XE.of_call I (fun _ _ _ h => h) hq)
  | ok fl =>
    cases fl with
    | ret u => exact I.after hq
    | next => exact False.elim hq
    | brk => exact False.elim hq
    | cont => exact False.elim hq
theorem getX_ok {G : Gm} {φ : List Addr} {H : Hp} {ρ : Env} {σ : L2.St} {st : Sto} {i : Nat} {f : PV → M PV} {Q : VK} (E : RepE R G φ H ρ σ) (h : Post R W σ φ H (RepV R) (M.bnd (getX ρ i) f st) Q) :
    ∃ d v, σ[i]? = some (some v) ∧ RepX R G φ H d v ∧ Post R W σ φ H (RepV R) (f d st) Q := by
  unfold getX M.bnd at h
  cases q : ρ[i]? with
  | none => rw [q] at h; exact h.elim
  | some o =>
    cases o with
    | none => rw [q] at h; exact h.elim
    | some d =>
      rw [q] at h
      obtain ⟨v, h1, h2⟩ := E.at_ i d q
      exact ⟨d, v, h1, h2, h⟩
theorem s_callV {n : Nat} {m : Nat → List PV → List PV → M PV} {i : Nat} {x : Str} {p pos : Pos} {e : Expr} {es : List Expr} {ms : Env → M (List PV)} (F : CloM X.prog X.w X.K X.mg X.base R n m) (hr : Room n X.A) (tk : Takes X W) (hx : X.ex = []) (hN : X.N[i]? = some x) (hv : Vis X.env.scope x)
    (hd : (x == ("__debug__" : Str)) = false) (hcd : (x == ("__classdict__" : Str)) = false) (ha : PA X (e :: es) (tMA' R (gOf X) W ms)) (he : starEach (e :: es) X.env = (false, eval e X.env) :: starEach es X.env) (hpl : (backTo pos (starEach es X.env)).any (·.1) = false) :
    PE X (.Call (.Name x p) (e :: es) [] pos) (tM R (gOf X) W fun ρ => M.bnd (getX ρ i) fun f => cloM f fun k cs => M.bnd (ms ρ) (m k cs)) := by
  refine ⟨fun pins s σ H Q I ⟨φ, st, ρ, S, E, T, h⟩ => ?_⟩
  obtain ⟨d, v, h1, h2, h⟩ := getX_ok E h
  cases d with
  | clo kk cs =>
        obtain ⟨f, vs, rfl, C, xc⟩ := h2
        have h : Post R W σ φ H (RepV R) (M.bnd (ms ρ) (m kk cs) st) Q := h
        refine wpAny_Call_Name_kw (thn ((pe_var (pos := p) hN hv hd hcd).run pins s σ H (fun v H1 => v = .ref f ∧ H1 = H) I ⟨.ref f, h1, rfl, rfl⟩) fun u s1 ⟨v, H1, I1, r1, ev, eH⟩ => ?_)
        subst ev
        subst eH
        obtain rfl : u = Value.ref f := r1
        have C1 := C.down I1 hx
        refine PySem.W.callWith_F (first := []) (fn_at (G := gOf X) C1) (thn (ha.run pos pins s1 σ H1 (fun vs2 H2 => ∃ φ1 st1 ds, Step φ H1 φ1 H2 ∧ RepS R φ1 st1 H2 ∧ Tbs R H2 ∧ RepL R φ1 H2 ds vs2 ∧ Post R W σ φ1 H2 (RepV R) (m kk cs ds st1) Q) I1 ⟨φ, st, ρ, S, E, T, Post.bnd h⟩) fun us s2 ⟨avs, H2, I2, rv, φ1, st1, ds, sp, S1, T1, xa, p1⟩ => ?_) he hpl
        have C2 := (C.step sp).down I2 hx
        refine ⟨fn_at (G := gOf X) C2, ?_⟩
        exact clo_call F hr tk I2 C2 (RepXL.down I2 hx cs vs (RepXL.step sp cs vs xc)) rv xa S1 T1 p1
  | _ => exact False.elim h
end
end Mp
namespace Mp
open PySem PySem.Spec PyProof.Rows L2
structure Fr where
  σ0 : L2.St
  vs : List Nat
def Ag (F : Fr) (σ : L2.St) : Prop := σ.length = F.σ0.length ∧ ∀ j, j ∉ F.vs → σ[j]? = F.σ0[j]?
theorem Ag.set {F : Fr} {σ : L2.St} (h : Ag F σ) {i : Nat} (hi : i ∈ F.vs) (v : Option V) : Ag F (σ.set i v) :=
  ⟨by rw [List.length_set]; exact h.1, fun j hj => by rw [List.getElem?_set_ne (fun z : i = j => hj (by rw [← z]; exact hi))]; exact h.2 j hj⟩
structure RepT (R : Rc) (G : Gm) (F : Fr) (φ : List Addr) (H : Hp) (ρ : Env) (σ' : L2.St) : Prop where
  e : RepE R G φ H ρ σ'
  ag : Ag F σ'
def WF (W : WX) (F : Fr) : WX := fun c d _ H => ∀ σ', Ag F σ' → W c d σ' H
def tG (R : Rc) (G : Gm) (W : WX) (F : Fr) (m : PV → Env → M Env) : TG := fun v σ H Q => ∃ φ st ρ d, RepS R φ st H ∧ RepE R G φ H ρ σ ∧ Ag F σ ∧ Tbs R H ∧ RepV R φ H d v ∧ Post R (WF W F) [] φ H (RepT R G F) (m d ρ st) Q
def tGs (R : Rc) (G : Gm) (W : WX) (F : Fr) (m : List PV → Env → M Env) : TGs := fun v σ H Q => ∃ φ st ρ d, RepS R φ st H ∧ RepE R G φ H ρ σ ∧ Ag F σ ∧ Tbs R H ∧ RepL R φ H d v ∧ Post R (WF W F) [] φ H (RepT R G F) (m d ρ st) Q
section
variable {X : Cx} {R : Rc} {G : Gm} {W : WX} {F : Fr}
theorem _root_.L2.PG.imp {e : Expr} {t t' : TG} (h : PG X e t) (k : ∀ v σ H Q, t' v σ H Q → t v σ H Q) : PG X e t' := ⟨fun pins s σ H v u Q I r q => h.run pins s σ H v u Q I r (k v σ H Q q)⟩
theorem g_name {i : Nat} {x : Str} {pos : Pos} (hv : i ∈ F.vs) (hN : X.N.Nodup) (hi : X.N[i]? = some x) (hx : Loc X.env.scope x) (hf : X.fn x = true ∨ X.env.scope.names.lookup x = some .local) : PG X (.Name x pos) (tG R G W F fun v ρ => M.ret (ρ.set i (some v))) :=
  (pg_name hN hi hx hf).imp fun v σ H Q ⟨φ, st, ρ, d, S, E, ag, T, r, h⟩ => h φ H _ (Step.refl _ _) S T ⟨E.set i r.x, ag.set hv _⟩
theorem Post.wf {α β : Type} {A : List Addr → Hp → α → β → Prop} {φ : List Addr} {H : Hp} {o : Out α} {Q : β → Hp → Prop} {σ : L2.St} (ag : Ag F σ) (h : Post R (WF W F) [] φ H A o Q) : Post R W σ φ H A o Q := by
  cases o with
  | ok d st => exact h
  | exc c vs st => exact fun φ' H' dx a b c e => h φ' H' dx a b c e σ ag
  | bad => exact h
end
def endP (R : Rc) (D : Ends) (φ : List Addr) (H : Hp) (f : Fl) (σ : L2.St) : Prop := match f with
  | .nx => D.nx σ H
  | .brk => D.bk σ H
  | .cnt => D.ct σ H
  | .ret d => ∀ v, RepV R φ H d v → D.rt v H
def PostS (R : Rc) (G : Gm) (W : WX) (F : Fr) (φ : List Addr) (H : Hp) (o : Out (Fl × Env)) (D : Ends) : Prop := match o with
  | .ok q st => ∀ φ' H' σ', Step φ H φ' H' → RepS R φ' st H' → Tbs R H' → RepE R G φ' H' q.2 σ' → Ag F σ' → endP R D φ' H' q.1 σ'
  | .exc c vs st => ∀ φ' H' dx, Step φ H φ' H' → RepS R φ' st H' → Tbs R H' → XRep R φ' H' c vs dx → ∀ σ', Ag F σ' → W (.ref (R.cad c)) dx σ' H'
  | .bad => False
def tS (R : Rc) (G : Gm) (W : WX) (F : Fr) (m : Env → M (Fl × Env)) : TS := fun D σ H => ∃ φ st ρ, RepS R φ st H ∧ RepE R G φ H ρ σ ∧ Ag F σ ∧ Tbs R H ∧ PostS R G W F φ H (m ρ st) D
section
variable {X : Cx} {R : Rc} {G : Gm} {W : WX} {F : Fr} {D : Ends} {φ : List Addr} {H : Hp} {σ : L2.St} {st : Sto} {ρ : Env}
theorem PostS.step {o : Out (Fl × Env)} {φ1 : List Addr} {H1 : Hp} (s : Step φ H φ1 H1) (h : PostS R G W F φ H o D) : PostS R G W F φ1 H1 o D := by
  cases o with
  | ok d st => exact fun φ' H' v a b c e => h φ' H' v (s.trans a) b c e
  | exc c vs st => exact fun φ' H' dx a b c e => h φ' H' dx (s.trans a) b c e
  | bad => exact h
theorem PostS.bndF {α β : Type} {A : List Addr → Hp → α → β → Prop} {m : M α} {f : α → M (Fl × Env)} (h : PostS R G W F φ H (M.bnd m f st) D) :
    Post R (WF W F) [] φ H A (m st) fun v H1 => ∃ φ1 st1 d, Step φ H φ1 H1 ∧ RepS R φ1 st1 H1 ∧ Tbs R H1 ∧ A φ1 H1 d v ∧ PostS R G W F φ1 H1 (f d st1) D := by
  unfold M.bnd at h
  cases e : m st with
  | ok d st1 =>
    rw [e] at h
    exact fun φ1 H1 v a b c r => ⟨φ1, st1, d, a, b, c, r, h.step a⟩
  | exc c vs st1 =>
    rw [e] at h
    exact fun φ1 H1 dx a b c r => h φ1 H1 dx a b c r
  | bad =>
    rw [e] at h
    exact h
theorem PostS.bnd {α β : Type} {A : List Addr → Hp → α → β → Prop} {m : M α} {f : α → M (Fl × Env)} (ag : Ag F σ) (h : PostS R G W F φ H (M.bnd m f st) D) :
    Post R W σ φ H A (m st) fun v H1 => ∃ φ1 st1 d, Step φ H φ1 H1 ∧ RepS R φ1 st1 H1 ∧ Tbs R H1 ∧ A φ1 H1 d v ∧ PostS R G W F φ1 H1 (f d st1) D := h.bndF.wf ag
theorem PostS.seq {m : M (Fl × Env)} {f : Fl × Env → M (Fl × Env)} {D' : Ends} (h : PostS R G W F φ H (M.bnd m f st) D)
    (k : ∀ φ1 H1 σ1 st1 q, Step φ H φ1 H1 → RepS R φ1 st1 H1 → Tbs R H1 → RepE R G φ1 H1 q.2 σ1 → Ag F σ1 → PostS R G W F φ1 H1 (f q st1) D → endP R D' φ1 H1 q.1 σ1) : PostS R G W F φ H (m st) D' := by
  unfold M.bnd at h
  cases e : m st with
  | ok d st1 =>
    rw [e] at h
    exact fun φ1 H1 v a b c r ag => k φ1 H1 v st1 d a b c r ag (h.step a)
  | exc c vs st1 =>
    rw [e] at h
    exact h
  | bad =>
    rw [e] at h
    exact h
theorem PostS.ret {q : Fl × Env} (h : PostS R G W F φ H (M.ret q st) D) (S : RepS R φ st H) (T : Tbs R H) (E : RepE R G φ H q.2 σ) (ag : Ag F σ) : endP R D φ H q.1 σ := h φ H σ (Step.refl _ _) S T E ag
structure At (R : Rc) (G : Gm) (F : Fr) (φ : List Addr) (st : Sto) (H : Hp) (ρ : Env) (σ : L2.St) : Prop where
  S : RepS R φ st H
  E : RepE R G φ H ρ σ
  ag : Ag F σ
  T : Tbs R H
theorem endS (f : Fl) (p : At R G F φ st H ρ σ) (h : PostS R G W F φ H (M.ret (f, ρ) st) D) : endP R D φ H f σ := h φ H σ (Step.refl _ _) p.S p.T p.E p.ag
theorem At.to {φ1 : List Addr} {st1 : Sto} {H1 : Hp} (p : At R G F φ st H ρ σ) (s : Step φ H φ1 H1) (S : RepS R φ1 st1 H1) (T : Tbs R H1) : At R G F φ1 st1 H1 ρ σ := ⟨S, p.E.step s, p.ag, T⟩
theorem tS.mk {m : Env → M (Fl × Env)} (p : At R G F φ st H ρ σ) (h : PostS R G W F φ H (m ρ st) D) : tS R G W F m D σ H := ⟨φ, st, ρ, p.S, p.E, p.ag, p.T, h⟩
theorem tS.start {s : Stmt} {t : TS} {m : Env → M (Fl × Env)} (h : PS X s t) (k : ∀ φ st ρ D σ H, At R G F φ st H ρ σ → PostS R G W F φ H (m ρ st) D → t D σ H) : PS X s (tS R G W F m) :=
  h.imp fun D σ H ⟨φ, st, ρ, S, E, ag, T, h⟩ => k φ st ρ D σ H ⟨S, E, ag, T⟩ h
theorem tS.starts {s : List Stmt} {t : TS} {m : Env → M (Fl × Env)} (h : PSs X s t) (k : ∀ φ st ρ D σ H, At R G F φ st H ρ σ → PostS R G W F φ H (m ρ st) D → t D σ H) : PSs X s (tS R G W F m) :=
  h.imp fun D σ H ⟨φ, st, ρ, S, E, ag, T, h⟩ => k φ st ρ D σ H ⟨S, E, ag, T⟩ h
theorem ss_nil : PSs X [] (tS R G W F fun ρ => M.ret (.nx, ρ)) := tS.starts pss_nil fun φ st ρ D σ H p h => endS .nx p h
def seqM (q : Fl × Env) (m : Env → M (Fl × Env)) : M (Fl × Env) := match q.1 with
  | .nx => m q.2
  | f => M.ret (f, q.2)
theorem ss_cons {a : Stmt} {r : List Stmt} {ma mr : Env → M (Fl × Env)} (ha : PS X a (tS R G W F ma)) (hr : PSs X r (tS R G W F mr)) : PSs X (a :: r) (tS R G W F fun ρ => M.bnd (ma ρ) fun q => seqM q mr) :=
  tS.starts (pss_cons ha hr) fun φ st ρ D σ H p h => tS.mk p (PostS.seq h fun φ1 H1 σ1 st1 q s1 S1 T1 E1 ag1 p1 => by
    obtain ⟨f, ρ1⟩ := q
    have q1 : At R G F φ1 st1 H1 ρ1 σ1 := ⟨S1, E1, ag1, T1⟩
    cases f with
    | nx => exact tS.mk q1 p1
    | brk => exact endS (W := W) (D := D) .brk q1 p1
    | cnt => exact endS (W := W) (D := D) .cnt q1 p1
    | ret d => exact endS (W := W) (D := D) (.ret d) q1 p1)
theorem At.tM {me : Env → M PV} {f : PV → M (Fl × Env)} {Q1 : VK} (p : At R G F φ st H ρ σ) (h : PostS R G W F φ H (M.bnd (me ρ) f st) D)
    (k : ∀ φ1 st1 d v H1, Step φ H φ1 H1 → At R G F φ1 st1 H1 ρ σ → RepV R φ1 H1 d v → PostS R G W F φ1 H1 (f d st1) D → Q1 v H1) : tM R G W me σ H Q1 :=
  ⟨φ, st, ρ, p.S, p.E, p.T, Post.mono (PostS.bnd p.ag h) fun v H1 ⟨φ1, st1, d, s1, S1, T1, r1, p1⟩ => k φ1 st1 d v H1 s1 (p.to s1 S1 T1) r1 p1⟩
theorem At.tMT {me : Env → M Bool} {f : Bool → M (Fl × Env)} {Q1 : Bool → Hp → Prop} (p : At R G F φ st H ρ σ) (h : PostS R G W F φ H (M.bnd (me ρ) f st) D)
    (k : ∀ φ1 st1 d H1, Step φ H φ1 H1 → At R G F φ1 st1 H1 ρ σ → PostS R G W F φ1 H1 (f d st1) D → Q1 d H1) : tMT R G W me σ H Q1 :=
  ⟨φ, st, ρ, p.S, p.E, p.T, Post.mono (PostS.bnd (A := AB) p.ag h) fun v H1 ⟨φ1, st1, d, s1, S1, T1, r1, p1⟩ => by
    have r1 : d = v := r1
    subst r1
    exact k φ1 st1 d H1 s1 (p.to s1 S1 T1) p1⟩
theorem st_expr {e : Expr} {pos : Pos} {me : Env → M PV} (he : PE X e (tM R G W me)) (hs : swapsWith e none pos.line X.env = pure false) : PS X (.Expr e pos) (tS R G W F fun ρ => M.bnd (me ρ) fun _ => M.ret (.nx, ρ)) :=
  tS.start (ps_expr he hs) fun φ st ρ D σ H p h => p.tM h fun φ1 st1 d v H1 s1 q1 r1 p1 => endS .nx q1 p1
theorem st_doc {x : Str} {j : Nat} {pos pos' : Pos} : PS X (.Expr (.Constant (.str x) j pos) pos') (tS R G W F fun ρ => M.ret (.nx, ρ)) := tS.start ps_doc fun φ st ρ D σ H p h => endS .nx p h
theorem st_pass {pos : Pos} : PS X (.Pass pos) (tS R G W F fun ρ => M.ret (.nx, ρ)) := tS.start ps_pass fun φ st ρ D σ H p h => endS .nx p h
theorem st_brk {pos : Pos} : PS X (.Break pos) (tS R G W F fun ρ => M.ret (.brk, ρ)) := tS.start ps_break fun φ st ρ D σ H p h => endS .brk p h
theorem st_cnt {pos : Pos} : PS X (.Continue pos) (tS R G W F fun ρ => M.ret (.cnt, ρ)) := tS.start ps_continue fun φ st ρ D σ H p h => endS .cnt p h
theorem st_never {s : Stmt} : PS X s (tS R G W F fun _ => M.bad) := tS.start ps_never fun φ st ρ D σ H p h => h
theorem st_ret {e : Expr} {pos : Pos} {me : Env → M PV} (he : PE X e (tM R G W me)) : PS X (.Return (some e) pos) (tS R G W F fun ρ => M.bnd (me ρ) fun v => M.ret (.ret v, ρ)) :=
  tS.start (ps_ret he) fun φ st ρ D σ H p h => p.tM h fun φ1 st1 d v H1 s1 q1 r1 p1 => endS (W := W) (D := D) (.ret d) q1 p1 v r1
theorem st_retN {pos : Pos} : PS X (.Return none pos) (tS R G W F fun ρ => M.ret (.ret .non, ρ)) := tS.start ps_retN fun φ st ρ D σ H p h => endS (.ret .non) p h .non rfl
theorem st_cond {c : Expr} {a b : List Stmt} {pos : Pos} {mt : Env → M Bool} {ma mb : Env → M (Fl × Env)} (hc : PT X c (tMT R G W mt)) (ha : PSs X a (tS R G W F ma)) (hb : PSs X b (tS R G W F mb)) :
    PS X (.If c a b pos) (tS R G W F fun ρ => M.bnd (mt ρ) fun k => if k then ma ρ else mb ρ) :=
  tS.start (ps_if hc ha hb) fun φ st ρ D σ H p h => p.tMT h fun φ1 st1 k H1 s1 q1 p1 => by
    cases k with
    | true => simp only [if_true] at p1 ⊢; exact tS.mk q1 p1
    | false => simp only [Bool.false_eq_true, if_false] at p1 ⊢; exact tS.mk q1 p1
theorem st_asg {tg e : Expr} {pos : Pos} {me : Env → M PV} {mg : PV → Env → M Env} (he : PE X e (tM R G W me)) (hg : PG X tg (tG R G W F mg)) (hs : swapsWithSole [tg] e pos.line X.env = pure false) (hw : swappedStores [tg] e X.env = pure none) (h1 : (assignEach [tg] X.env).map (·.2) = [assign tg X.env]) :
    PS X (.Assign [tg] e pos) (tS R G W F fun ρ => M.bnd (me ρ) fun v => M.bnd (mg v ρ) fun ρ' => M.ret (.nx, ρ')) :=
  tS.start (ps_asg he hg hs hw h1) fun φ st ρ D σ H p h => p.tM h fun φ1 st1 d v H1 s1 q1 r1 p1 =>
    ⟨φ1, st1, ρ, d, q1.S, q1.E, q1.ag, q1.T, r1, Post.mono (PostS.bndF p1) fun σ2 H2 ⟨φ2, st2, ρ2, s2, S2, T2, r2, p2⟩ => endS .nx ⟨S2, r2.e, r2.ag, T2⟩ p2⟩
theorem st_while {c : Expr} {body : List Stmt} {pos : Pos} {mt : Env → M Bool} {mb : Env → M (Fl × Env)} (hp : PassesOwn (model X.prog X.w) X.A X.env X.xe) (hc : PT X c (tMT R G W mt)) (hb : PSs X body (tS R G W F mb)) (n : Nat) :
    PS X (.While c body [] pos) (tS R G W F fun ρ => whileM mt mb n ρ) :=
  tS.start (ps_while hp hc hb) fun φ st ρ D σ H p h => by
    refine ⟨fun m σ H => ∃ φ st ρ, At R G F φ st H ρ σ ∧ PostS R G W F φ H (whileM mt mb m ρ st) D, ⟨n, φ, st, ρ, p, h⟩, ?_⟩
    rintro m σ H ⟨φ, st, ρ, p, h⟩
    cases m with
    | zero => exact h.elim
    | succ m =>
      refine p.tMT (f := fun k => if k then M.bnd (mb ρ) fun q => (match q.1 with
        | .nx => whileM mt mb m q.2
        | .cnt => whileM mt mb m q.2
        | .brk => M.ret (.nx, q.2)
        | .ret v => M.ret (.ret v, q.2)) else M.ret (.nx, ρ)) h fun φ1 st1 k H1 s1 q1 p1 => ?_
      cases k with
      | false => exact endS .nx q1 p1
      | true =>
        simp only [if_true] at p1 ⊢
        refine ⟨fun σ H => ∃ φ st ρ, At R G F φ st H ρ σ ∧ PostS R G W F φ H (whileM mt mb m ρ st) D, fun σ' H' w => ⟨m, Nat.lt_succ_self m, w⟩, tS.mk q1 (PostS.seq p1 fun φ2 H2 σ2 st2 q s2 S2 T2 E2 ag2 p2 => ?_)⟩
        obtain ⟨f, ρ2⟩ := q
        have q2 : At R G F φ2 st2 H2 ρ2 σ2 := ⟨S2, E2, ag2, T2⟩
        cases f with
        | nx => exact ⟨φ2, st2, ρ2, q2, p2⟩
        | cnt => exact ⟨φ2, st2, ρ2, q2, p2⟩
        | brk => exact endS (W := W) (D := D) .nx q2 p2
        | ret d => exact endS (W := W) (D := D) (.ret d) q2 p2
end
def ItRep (R : Rc) (φ0 : List Addr) (H0 : Hp) (xs : List PV) (ws : Wat) (J : L2.It) : Prop :=
  ∀ (hid : List Addr), Hd R H0 hid → ∀ (i : Nat) (φ : List Addr) (st : Sto) (H : Hp), Step φ0 H0 φ H → RepS (R.h hid) φ st H → Tbs R H → (ws.all fun w => decide (st[w.1]? = some w.2)) = true →
    (xs.length ≤ i → J.stop i H) ∧ ∀ d, xs[i]? = some d → J.go i H ∧ ∀ x H', J.yld i H x H' → Step φ H φ H' ∧ RepS (R.h hid) φ st H' ∧ Tbs R H' ∧ RepV (R.h hid) φ H' d x
def AI (R : Rc) (φ : List Addr) (H : Hp) (a : List PV × Wat) (J : L2.It) : Prop := ItRep R φ H a.1 a.2 J
def tI (R : Rc) (G : Gm) (W : WX) (m : Env → M (List PV × Wat)) : TI := fun σ H Q => ∃ φ st ρ, RepS R φ st H ∧ RepE R G φ H ρ σ ∧ Tbs R H ∧ Post R W σ φ H (AI R) (m ρ st) Q
section
variable {X : Cx} {R : Rc} {G : Gm} {W : WX} {F : Fr}
theorem watch_ok {ws : Wat} {D : Ends} {φ : List Addr} {H : Hp} {st : Sto} {f : Unit → M (Fl × Env)} (h : PostS R G W F φ H (M.bnd (watch ws) f st) D) : (ws.all fun w => decide (st[w.1]? = some w.2)) = true ∧ PostS R G W F φ H (f () st) D := by
  unfold M.bnd watch at h
  cases e : ws.all fun w => decide (st[w.1]? = some w.2) with
  | true => rw [e] at h; exact ⟨rfl, h⟩
  | false => rw [e] at h; exact h.elim
theorem st_for {tg iter : Expr} {body : List Stmt} {pos : Pos} {mi : Env → M (List PV × Wat)} {mg : PV → Env → M Env} {mb : Env → M (Fl × Env)} (hp : PassesOwn (model X.prog X.w) X.A X.env X.xe) (hc : X.calm = true) (hi : PI X tg iter (tI R G W mi)) (hg : PG X tg (tG R G W F mg)) (hb : PSs X body (tS R G W F mb)) (hs : ∀ x, foldedSetIterable iter X.env x = pure x) :
    PS X (.For tg iter body [] pos) (tS R G W F fun ρ => M.bnd (mi ρ) fun xs => loopM xs.2 (fun x ρ => M.bnd (mg x ρ) mb) xs.1 ρ) :=
  tS.start (ps_for hp hc hi hg hb hs) fun φ st ρ D σ H p h => by
    refine ⟨φ, st, ρ, p.S, p.E, p.T, Post.mono (PostS.bnd p.ag h) fun J H1 ⟨φ1, st1, xs, s1, S1, T1, r1, p1⟩ => ?_⟩
    obtain ⟨xs, ws⟩ := xs
    have r1 : ItRep R φ1 H1 xs ws J := r1
    refine ⟨fun i m σ H => i ≤ xs.length ∧ m = xs.length - i ∧ ∃ φ st ρ, Step φ1 H1 φ H ∧ At R G F φ st H ρ σ ∧ PostS R G W F φ H (loopM ws (fun x ρ => M.bnd (mg x ρ) mb) (xs.drop i) ρ st) D,
      ⟨xs.length, Nat.zero_le _, rfl, φ1, st1, ρ, Step.refl _ _, p.to s1 S1 T1, p1⟩, ?_⟩
    rintro i m σ H ⟨hi, rfl, φ, st, ρ, s, q, p⟩
    by_cases hlt : i < xs.length
    · refine .inr ?_
      rw [List.drop_eq_getElem_cons hlt] at p
      obtain ⟨hw, p⟩ := watch_ok p
      obtain ⟨_, g⟩ := r1 R.hid Hd.refl i φ st H s q.S q.T hw
      obtain ⟨g1, g2⟩ := g xs[i] (List.getElem?_eq_getElem hlt)
      refine ⟨g1, fun σ H => ∃ φ st ρ, Step φ1 H1 φ H ∧ At R G F φ st H ρ σ ∧ PostS R G W F φ H (loopM ws (fun x ρ => M.bnd (mg x ρ) mb) (xs.drop (i + 1)) ρ st) D, fun σ' H' w => ⟨xs.length - (i + 1), by omega, hlt, rfl, w⟩, fun x H' y => ?_⟩
      obtain ⟨s2, S2, T2, rv⟩ := g2 x H' y
      have p := p.step s2
      rw [bnd_ret] at p
      refine ⟨φ, st, ρ, xs[i], S2, q.E.step s2, q.ag, T2, rv, Post.mono (PostS.bndF p) fun σ3 H3 ⟨φ3, st3, ρ3, s3, S3, T3, r3, p3⟩ => ?_⟩
      refine tS.mk ⟨S3, r3.e, r3.ag, T3⟩ (PostS.seq p3 fun φ4 H4 σ4 st4 q s4 S4 T4 E4 ag4 p4 => ?_)
      have s4' := ((s.trans s2).trans s3).trans s4
      obtain ⟨f, ρ4⟩ := q
      have q4 : At R G F φ4 st4 H4 ρ4 σ4 := ⟨S4, E4, ag4, T4⟩
      cases f with
      | nx => exact ⟨φ4, st4, ρ4, s4', q4, p4⟩
      | cnt => exact ⟨φ4, st4, ρ4, s4', q4, p4⟩
      | brk => exact endS (W := W) (D := D) .nx q4 p4
      | ret d => exact endS (W := W) (D := D) (.ret d) q4 p4
    · have hi' : xs.length ≤ i := by omega
      rw [List.drop_eq_nil_of_le hi'] at p
      obtain ⟨hw, p⟩ := watch_ok p
      exact .inl ⟨(r1 R.hid Hd.refl i φ st H s q.S q.T hw).1 hi', endS .nx q p⟩
end
end Mp
namespace Mp
open PySem PySem.Spec PyProof.Rows L2
section
variable {X : Cx} {R : Rc} {G : Gm} {W : WX} {F : Fr}
theorem _root_.L2.PGs.imp {e : List Expr} {t t' : TGs} (h : PGs X e t) (k : ∀ v σ H Q, t' v σ H Q → t v σ H Q) : PGs X e t' := ⟨fun pins s σ H v u Q I r q => h.run pins s σ H v u Q I r (k v σ H Q q)⟩
theorem gs_nil : PGs X [] (tGs R G W F nilG) :=
  pgs_nil.imp fun v σ H Q ⟨φ, st, ρ, d, S, E, ag, T, r, h⟩ => by
    cases d with
    | nil => exact ⟨r, h φ H _ (Step.refl _ _) S T ⟨E, ag⟩⟩
    | cons x xs => exact False.elim h
theorem gs_cons {e : Expr} {es : List Expr} {mg : PV → Env → M Env} {ms : List PV → Env → M Env} (h1 : PG X e (tG R G W F mg)) (h2 : PGs X es (tGs R G W F ms))
    (hs : (assignEach (e :: es) X.env).map (·.2) = assign e X.env :: (assignEach es X.env).map (·.2)) : PGs X (e :: es) (tGs R G W F (consG mg ms)) :=
  (pgs_cons h1 h2 hs).imp fun v σ H Q ⟨φ, st, ρ, d, S, E, ag, T, r, h⟩ => by
    cases d with
    | nil => exact False.elim h
    | cons x xs =>
      obtain ⟨y, ys, rfl, r1, r2⟩ := r
      have h : Post R (WF W F) [] φ H (RepT R G F) (M.bnd (mg x ρ) (ms xs) st) Q := h
      refine ⟨y, ys, rfl, φ, st, ρ, x, S, E, ag, T, r1, Post.mono (Post.bnd h) fun σ1 H1 ⟨φ1, st1, ρ1, s1, S1, T1, t1, p1⟩ => ?_⟩
      exact ⟨φ1, st1, ρ1, xs, S1, t1.e, t1.ag, T1, RepL.step s1 _ _ r2, p1⟩
theorem g_tup {es : List Expr} {k : Nat} {pos : Pos} {ms : List PV → Env → M Env} {n : Nat} (hK : R.K = X.K) (hc : X.calm = true) (h : PGs X es (tGs R G W F ms))
    (hn : (assignEach es X.env).length = n) (hst : (assignEach es X.env).findIdx? (·.1) = none) : PG X (.Tuple es k pos) (tG R G W F (tupG n ms)) :=
  (pg_tup hc h hn hst).imp fun v σ H Q ⟨φ, st, ρ, d, S, E, ag, T, r, h⟩ => by
    cases d with
    | tup xs =>
      obtain ⟨a, vs, rfl, t, z, q⟩ := r
      have h : Post R (WF W F) [] φ H (RepT R G F) (M.grd (decide (xs.length = n)) (ms xs ρ) st) Q := h
      unfold M.grd at h
      cases e : decide (xs.length = n) with
      | false => rw [e] at h; exact h.elim
      | true =>
        rw [e] at h
        have hx := of_decide_eq_true e
        exact ⟨a, vs, rfl, by rw [← hK]; exact t.sq, by rw [← q.length]; exact hx, φ, st, ρ, xs, S, E, ag, T, q, h⟩
    | _ => exact False.elim h
def AU (φ : List Addr) (H : Hp) (a b : Unit) : Prop := True
def rSet (R : Rc) (m : PV → PV → PV → M Unit) : TSet := fun o i v H Q => ∃ φ st d e x, RepS R φ st H ∧ Tbs R H ∧ RepV R φ H d o ∧ RepV R φ H e i ∧ RepV R φ H x v ∧ PostN R φ H AU (m d e x st) fun _ H' => Q H'
theorem Tbs.upd {R : Rc} {φ : List Addr} {st : Sto} {H : Hp} {n : Nat} {a : Addr} {o : HO} {m : MO} (h : Tbs R H) (S : RepS R φ st H) (e : st[n]? = some m) (ha : φ[n]? = some a) : Tbs R (upd H a o) := by
  intro p hp
  obtain ⟨ps, h1, h2, h3⟩ := h p hp
  have r := S.at_ n m a e ha
  have dif : ∀ b u, H b = some u → (∀ vs, u ≠ .lst vs) → (∀ vs, u ≠ .dK vs) → (∀ vs, u ≠ .dT vs) → (∀ c x y, u ≠ .ins c x y) → b ≠ a := fun b u hb n1 n2 n3 n4 z => by
    subst z
    cases m with
    | lst ds => obtain ⟨vs, q, _⟩ := r; rw [hb] at q; exact n1 _ (Option.some.inj q)
    | dct kvs =>
      rcases r with ⟨gs, q, _⟩ | ⟨gs, q, _⟩
      · rw [hb] at q; exact n2 _ (Option.some.inj q)
      · rw [hb] at q; exact n3 _ (Option.some.inj q)
    | ins c fs => obtain ⟨dx, gs, q, _⟩ := r; rw [hb] at q; exact n4 _ _ _ (Option.some.inj q)
  refine ⟨ps, ?_, h2, fun p' cv hcv => ?_⟩
  · rw [upd_ne (dif _ _ h1 (fun _ z => by cases z) (fun _ z => by cases z) (fun _ z => by cases z) (fun _ _ _ z => by cases z))]
    exact h1
  · obtain ⟨c0, e1, e2⟩ := h3 p' cv hcv
    refine ⟨c0, e1, ?_⟩
    rw [upd_ne (dif _ _ e2 (fun _ z => by unfold LamX.CodeO at z; cases z) (fun _ z => by unfold LamX.CodeO at z; cases z) (fun _ z => by unfold LamX.CodeO at z; cases z) (fun _ _ _ z => by unfold LamX.CodeO at z; cases z))]
    exact e2
theorem pK_inj {a b : Key} (h : pK a = pK b) : a = b := by
  cases a <;> cases b <;> simp_all [pK]
theorem pKs_inj : ∀ {a b : List Key}, a.map pK = b.map pK → a = b
  | [], [], _ => rfl
  | [], _ :: _, h => by cases h
  | _ :: _, [], h => by cases h
  | x :: a, y :: b, h => by
    rw [List.map_cons, List.map_cons] at h
    obtain ⟨h1, h2⟩ := List.cons.inj h
    rw [pK_inj h1, pKs_inj h2]
theorem pT_inj {a b : List Key} (h : pT a = pT b) : a = b := pKs_inj (PV.tup.inj h)
theorem dct_find {φ : List Addr} {H : Hp} {κ : Type} [DecidableEq κ] {kp : κ → PV} {kr : κ → Prop} (inj : ∀ a b, kp a = kp b → a = b) (k : κ) : ∀ {kvs : List (PV × PV)} {gs : List (κ × V)}, DctG R φ H kp kr kvs gs →
    (kfind kvs (kp k) = none ∧ valV gs k = none) ∨ ∃ d v, kfind kvs (kp k) = some d ∧ valV gs k = some v ∧ RepV R φ H d v
  | [], _, h => by cases h; exact .inl ⟨rfl, rfl⟩
  | (p, d) :: r, _, h => by
    obtain ⟨x, v, s, rfl, rfl, _, h2, h3⟩ := h
    by_cases e : x = k
    · subst e
      refine .inr ⟨d, v, ?_, valV_pos rfl, h2⟩
      unfold kfind
      rw [List.find?_cons_of_pos (by simp)]
      rfl
    · have e' : ¬ kp x = kp k := fun z => e (inj _ _ z)
      rw [valV_neg e]
      have : kfind ((kp x, d) :: r) (kp k) = kfind r (kp k) := by
        unfold kfind
        rw [List.find?_cons_of_neg (by simp [e'])]
      rw [this]
      exact dct_find inj k h3
theorem dct_any {φ : List Addr} {H : Hp} {κ : Type} [DecidableEq κ] {kp : κ → PV} {kr : κ → Prop} (inj : ∀ a b, kp a = kp b → a = b) (k : κ) : ∀ {kvs : List (PV × PV)} {gs : List (κ × V)}, DctG R φ H kp kr kvs gs →
    (kvs.any fun p => decide (p.1 = kp k)) = gs.any fun p => decide (p.1 = k)
  | [], _, h => by cases h; rfl
  | (p, d) :: r, _, h => by
    obtain ⟨x, v, s, rfl, rfl, _, h2, h3⟩ := h
    rw [List.any_cons, List.any_cons, dct_any inj k h3]
    have : decide (kp x = kp k) = decide (x = k) := by
      by_cases e : x = k
      · subst e; simp
      · have e' : ¬ kp x = kp k := fun z => e (inj _ _ z)
        rw [decide_eq_false e, decide_eq_false e']
    rw [this]
theorem dct_map {φ : List Addr} {H : Hp} {κ : Type} [DecidableEq κ] {kp : κ → PV} {kr : κ → Prop} (inj : ∀ a b, kp a = kp b → a = b) (k : κ) {d : PV} {v : V} (rv : RepV R φ H d v) : ∀ {kvs : List (PV × PV)} {gs : List (κ × V)}, DctG R φ H kp kr kvs gs →
    DctG R φ H kp kr (kvs.map fun p => if p.1 = kp k then (p.1, d) else p) (gs.map fun p => if p.1 = k then (p.1, v) else p)
  | [], _, h => by cases h; rfl
  | (p, d0) :: r, _, h => by
    obtain ⟨x, v0, s, rfl, rfl, h1, h2, h3⟩ := h
    rw [List.map_cons, List.map_cons]
    by_cases e : x = k
    · subst e
      simp only [if_true]
      exact ⟨x, v, _, rfl, rfl, h1, rv, dct_map inj x rv h3⟩
    · have e' : ¬ kp x = kp k := fun z => e (inj _ _ z)
      simp only [e, e', if_false]
      exact ⟨x, v0, _, rfl, rfl, h1, h2, dct_map inj k rv h3⟩
theorem dct_snoc {φ : List Addr} {H : Hp} {κ : Type} {kp : κ → PV} {kr : κ → Prop} (k : κ) {d : PV} {v : V} (hk : kr k) (rv : RepV R φ H d v) : ∀ {kvs : List (PV × PV)} {gs : List (κ × V)}, DctG R φ H kp kr kvs gs → DctG R φ H kp kr (kvs ++ [(kp k, d)]) (gs ++ [(k, v)])
  | [], _, h => by cases h; exact ⟨k, v, [], rfl, rfl, hk, rv, rfl⟩
  | (p, d0) :: r, _, h => by
    obtain ⟨x, v0, s, rfl, rfl, h1, h2, h3⟩ := h
    exact ⟨x, v0, _, rfl, rfl, h1, h2, dct_snoc k hk rv h3⟩
theorem dct_put {φ : List Addr} {H : Hp} {κ : Type} [DecidableEq κ] {kp : κ → PV} {kr : κ → Prop} (inj : ∀ a b, kp a = kp b → a = b) (k : κ) {d : PV} {v : V} (hk : kr k) (rv : RepV R φ H d v) {kvs : List (PV × PV)} {gs : List (κ × V)} (h : DctG R φ H kp kr kvs gs) :
    DctG R φ H kp kr (kput kvs (kp k) d) (putK gs k v) := by
  unfold kput putK
  rw [dct_any inj k h]
  by_cases e : (gs.any fun p => decide (p.1 = k)) = true
  · rw [if_pos e, if_pos e]
    exact dct_map inj k rv h
  · rw [if_neg e, if_neg e]
    exact dct_snoc k hk rv h
theorem dct_len {φ : List Addr} {H : Hp} {κ : Type} {kp : κ → PV} {kr : κ → Prop} : ∀ {kvs : List (PV × PV)} {gs : List (κ × V)}, DctG R φ H kp kr kvs gs → kvs.length = gs.length
  | [], _, h => by cases h; rfl
  | (p, d0) :: r, _, h => by
    obtain ⟨x, v0, s, rfl, rfl, h1, h2, h3⟩ := h
    simp [dct_len h3]
theorem isK_of {φ : List Addr} {H : Hp} {k : PV} {v : V} (h : isK k = true) (r : RepV R φ H k v) : ∃ x, k = pK x ∧ KR x ∧ v = kV x := by
  cases k with
  | int i => cases r; exact ⟨.inl i, rfl, trivial, rfl⟩
  | str z => obtain ⟨rfl, q⟩ := r; exact ⟨.inr z, rfl, q, rfl⟩
  | _ => cases h
theorem isKs_of {φ : List Addr} {H : Hp} : ∀ {ks : List PV} {vs : List V}, ks.all isK = true → RepL R φ H ks vs → ∃ xs : List Key, ks = xs.map pK ∧ (∀ x ∈ xs, KR x) ∧ vs = xs.map kV
  | [], _, _, r => by cases r; exact ⟨[], rfl, fun _ h => absurd h (by simp), rfl⟩
  | k :: ks, _, h, r => by
    obtain ⟨v, s, rfl, r1, r2⟩ := r
    rw [List.all_cons, Bool.and_eq_true] at h
    obtain ⟨x, h1, h2, h3⟩ := isK_of h.1 r1
    obtain ⟨xs, g1, g2, g3⟩ := isKs_of h.2 r2
    refine ⟨x :: xs, by rw [h1, g1]; rfl, fun y hy => ?_, by rw [h3, g3]; rfl⟩
    rcases List.mem_cons.mp hy with z | z
    · rw [z]; exact h2
    · exact g2 y z
theorem isKT_of {φ : List Addr} {H : Hp} {k : PV} {v : V} (h : isKT k = true) (hc : R.cts.contains k = false) (r : RepV R φ H k v) : ∃ xs b, k = pT xs ∧ KRs xs ∧ v = .ref b ∧ Own R φ H b (.tup (xs.map kV)) := by
  cases k with
  | tup ks =>
    obtain ⟨a, vs, rfl, t, z, q⟩ := r
    obtain ⟨xs, g1, g2, g3⟩ := isKs_of (by unfold isKT at h; exact h) q
    subst g3
    refine ⟨xs, a, by rw [g1]; rfl, ⟨by rw [List.length_map] at z; exact z, g2⟩, rfl, ?_⟩
    rcases t with t | ⟨t, _⟩
    · exact t
    · have m := t h
      rw [List.contains_eq_mem] at hc
      exact absurd m (of_decide_eq_false hc)
  | _ => cases h
theorem dct_allK {φ : List Addr} {H : Hp} : ∀ {kvs : List (PV × PV)} {gs : List (List Key × V)}, DctG R φ H pT KRs kvs gs → (kvs.all fun p => isK p.1) = true → kvs = [] ∧ gs = []
  | [], _, h, _ => by cases h; exact ⟨rfl, rfl⟩
  | (p, d0) :: r, _, h, q => by
    obtain ⟨x, v0, s, rfl, rfl, h1, h2, h3⟩ := h
    rw [List.all_cons, Bool.and_eq_true] at q
    cases q.1
theorem dct_allT {φ : List Addr} {H : Hp} : ∀ {kvs : List (PV × PV)} {gs : List (Key × V)}, DctG R φ H pK KR kvs gs → (kvs.all fun p => isKT p.1) = true → kvs = [] ∧ gs = []
  | [], _, h, _ => by cases h; exact ⟨rfl, rfl⟩
  | (p, d0) :: r, _, h, q => by
    obtain ⟨x, v0, s, rfl, rfl, h1, h2, h3⟩ := h
    rw [List.all_cons, Bool.and_eq_true] at q
    cases x <;> cases q.1
theorem Inv.emptyT {pins : List (Addr × Obj)} {σ : L2.St} {H : Hp} {s : Shared} {a : Addr} (I : Inv X pins σ H s) (h : H a = some (.dK [])) : Inv X pins σ (upd H a (.dT [])) s := by
  obtain ⟨z, hd, vs, rel, dd⟩ := dk_of I.hok h
  obtain ⟨o, es, ep, h1, h2, h3, h4, h5, _⟩ := dd
  cases rel
  have e : es.toList = [] := by
    generalize es.toList = l at h5
    cases h5
    rfl
  exact d_write I (by rw [h]; trivial) (h' := s.heap) (t' := s.toks) ⟨rfl, fun b _ => rfl⟩ ⟨o, h1⟩ ⟨Nat.zero_le _, hd, [], .nil, o, es, ep, h1, h2, h3, by simpa using e, by simp⟩
theorem Inv.emptyK {pins : List (Addr × Obj)} {σ : L2.St} {H : Hp} {s : Shared} {a : Addr} (I : Inv X pins σ H s) (h : H a = some (.dT [])) : Inv X pins σ (upd H a (.dK [])) s := by
  obtain ⟨z, hd, xs, rel, o, es, ep, h1, h2, h3, h4, h5⟩ := I.hok a _ h
  cases rel
  exact d_write I (by rw [h]; trivial) (h' := s.heap) (t' := s.toks) ⟨rfl, fun b _ => rfl⟩ ⟨o, h1⟩ (dk_new (Nat.zero_le _) hd .nil ⟨o, es, ep, h1, h2, h3, by
    have e : es = #[] := by simpa using h4
    subst e
    exact ⟨fun e he => absurd he (by simp), .nil, by simp⟩⟩)
theorem set_at {α : Type} : ∀ {l : List α} {n : Nat} {x : α}, l[n]? = some x → l.set n x = l
  | [], _, _, h => by simp at h
  | a :: l, 0, x, h => by simp at h; subst h; rfl
  | a :: l, n + 1, x, h => by
    rw [List.set_cons_succ, set_at (by simpa using h)]
theorem kOk_split {cts : List PV} {kvs : List (PV × PV)} {k : PV} (h : kOk cts kvs k = true) : (isK k = true ∧ (kvs.all fun p => isK p.1) = true) ∨ isKT k = true ∧ cts.contains k = false ∧ (kvs.all fun p => isKT p.1) = true := by
  unfold kOk at h
  simp only [Bool.or_eq_true, Bool.and_eq_true, Bool.not_eq_true'] at h
  rcases h with h | h
  · exact .inl h
  · exact .inr ⟨h.1.1, h.1.2, h.2⟩
theorem dct_kind {pins : List (Addr × Obj)} {σ : L2.St} {H : Hp} {s : Shared} {φ : List Addr} {st : Sto} {n : Nat} {a : Addr} {kvs : List (PV × PV)} {k : PV} {v : V} (I : Inv X pins σ H s) (S : RepS R φ st H) (T : Tbs R H) (e : st[n]? = some (.dct kvs)) (ha : φ[n]? = some a) (hk : kOk R.cts kvs k = true) (rk : RepV R φ H k v) :
    ∃ H', Inv X pins σ H' s ∧ Step φ H φ H' ∧ RepS R φ st H' ∧ Tbs R H' ∧ (∀ b u, b ≠ a → H b = some u → H' b = some u) ∧
      ((∃ gs x, H' a = some (.dK gs) ∧ gs.length ≤ SZ ∧ DctG R φ H' pK KR kvs gs ∧ k = pK x ∧ KR x ∧ v = kV x) ∨
        ∃ gs xs b, H' a = some (.dT gs) ∧ gs.length ≤ SZ ∧ DctG R φ H' pT KRs kvs gs ∧ k = pT xs ∧ KRs xs ∧ v = .ref b ∧ H' b = some (.tup (xs.map kV))) := by
  have ma := List.mem_of_getElem? ha
  rcases kOk_split hk with ⟨h1, h2⟩ | ⟨h1, hc, h2⟩
  · obtain ⟨x, g1, g2, g3⟩ := isK_of h1 rk
    rcases S.at_ n _ a e ha with ⟨gs, q1, q2, q3⟩ | ⟨gs, q1, q2, q3⟩
    · exact ⟨H, I, Step.refl _ _, S, T, fun _ _ _ h => h, .inl ⟨gs, x, q1, q2, q3, g1, g2, g3⟩⟩
    · obtain ⟨rfl, rfl⟩ := dct_allK q3 h2
      have S' : RepS R φ (st.set n (.dct [])) (upd H a (.dK [])) := S.write ha (.inl ⟨[], upd_same, Nat.zero_le _, rfl⟩)
      rw [set_at e] at S'
      exact ⟨_, Inv.emptyK I q1, step_wr ma, S', T.upd S e ha, fun b u hb h => by rw [upd_ne hb]; exact h, .inl ⟨[], x, upd_same, q2, rfl, g1, g2, g3⟩⟩
  · obtain ⟨xs, b, g1, g2, g3, g4⟩ := isKT_of h1 hc rk
    have nb : b ≠ a := fun z => g4.2.1.1 (by rw [z]; exact ma)
    rcases S.at_ n _ a e ha with ⟨gs, q1, q2, q3⟩ | ⟨gs, q1, q2, q3⟩
    · obtain ⟨rfl, rfl⟩ := dct_allT q3 h2
      have S' : RepS R φ (st.set n (.dct [])) (upd H a (.dT [])) := S.write ha (.inr ⟨[], upd_same, Nat.zero_le _, rfl⟩)
      rw [set_at e] at S'
      exact ⟨_, Inv.emptyT I q1, step_wr ma, S', T.upd S e ha, fun b u hb h => by rw [upd_ne hb]; exact h, .inr ⟨[], xs, b, upd_same, q2, rfl, g1, g2, g3, by rw [upd_ne nb]; exact g4.1⟩⟩
    · exact ⟨H, I, Step.refl _ _, S, T, fun _ _ _ h => h, .inr ⟨gs, xs, b, q1, q2, q3, g1, g2, g3, g4.1⟩⟩
theorem set_ok (hu : X.A.units + 1 < cLine) : PSet X (rSet R (setV R.cts)) := by
  intro pins s σ H o i v ov iv u Q I ro ri rv ⟨φ, st, d, e, x, S, T, rd, re, rx, p⟩
  cases d with
  | loc n =>
    obtain ⟨a, ha, rfl⟩ := rd
    cases q : st[n]? with
    | none =>
      have p : PostN R φ H AU (match st[n]? with | some (.lst xs) => _ | some (.dct kvs) => _ | _ => Out.bad) _ := p
      rw [q] at p
      exact p.elim
    | some m =>
      unfold setV at p
      simp only [q] at p
      cases m with
      | lst xs =>
        simp only at p
        cases e with
        | int k =>
          simp only at p
          cases q2 : L2.ixN xs.length k with
          | none => rw [q2] at p; exact p.elim
          | some j =>
            rw [q2] at p
            obtain ⟨vs, h1, h2, h3⟩ := S.at_ n _ a q ha
            have ma := List.mem_of_getElem? ha
            refine set_list pins s σ H _ i v ov iv u Q I ro ri rv ⟨a, vs, k, j, rfl, re, h1, by rw [← h3.length]; exact q2, ?_⟩
            exact p φ _ () (step_wr ma) (S.write ha ⟨_, upd_same, by rw [List.length_set]; exact h2, RepL.set (rx.step (step_wr ma)) j (RepL.step (step_wr ma) _ _ h3)⟩) (T.upd S q ha) trivial
        | _ => exact False.elim p
      | dct kvs =>
        simp only at p
        by_cases hk : (kOk R.cts kvs e && decide (kvs.length < SZ)) = true
        · rw [if_pos hk] at p
          rw [Bool.and_eq_true] at hk
          obtain ⟨hk, hl⟩ := hk
          have hl := of_decide_eq_true hl
          have ma := List.mem_of_getElem? ha
          obtain ⟨H', I', s', S', T', _, g⟩ := dct_kind I S T q ha hk re
          rcases g with ⟨gs, y, g1, g2, g3, rfl, g5, rfl⟩ | ⟨gs, ys, b, g1, g2, g3, rfl, g5, rfl, g7⟩
          · have hz : gs.length < sizeLine := by rw [sz_eq, ← dct_len g3]; exact hl
            refine set_dict hu pins s σ H' _ _ v ov iv u Q I' ro ri rv ⟨a, _, rfl, DPut.k g1 hz, ?_⟩
            exact p φ _ () (s'.trans (step_wr ma)) (S'.write ha (.inl ⟨_, upd_same, by
              have := length_putK gs y v
              rw [sz_eq] at hz
              omega, dct_put (fun _ _ z => pK_inj z) y g5 (rx.step (s'.trans (step_wr ma))) (g3.step (step_wr ma))⟩)) (T'.upd S' q ha) trivial
          · have hz : gs.length < sizeLine := by rw [sz_eq, ← dct_len g3]; exact hl
            refine set_dict hu pins s σ H' _ _ v ov iv u Q I' ro ri rv ⟨a, _, rfl, DPut.t g1 g7 hz, ?_⟩
            exact p φ _ () (s'.trans (step_wr ma)) (S'.write ha (.inr ⟨_, upd_same, by
              have := length_putK gs ys v
              rw [sz_eq] at hz
              omega, dct_put (fun _ _ z => pT_inj z) ys g5 (rx.step (s'.trans (step_wr ma))) (g3.step (step_wr ma))⟩)) (T'.upd S' q ha) trivial
        · rw [if_neg hk] at p
          exact p.elim
      | ins c fs => exact False.elim p
  | _ => exact False.elim p
theorem NoX.setV {cts : List PV} {x y v : PV} : NoX (setV cts x y v) := fun st c w s e => by
  unfold Mp.setV at e
  repeat' (first | (cases e; done) | split at e)
theorem g_sub {o i : Expr} {pos : Pos} {mo mi : Env → M PV} (hu : X.A.units + 1 < cLine) (ho : PE X o (tM R G W mo)) (hi : PE X i (tM R G W mi))
    (ha : ∀ v, assign (.Subscript o i pos) X.env v = (do
      let ov ← holding [v] (eval o X.env)
      let iv ← holding [v, ov] (eval i X.env)
      standAt pos
      holding [v, ov, iv] (setItem ov iv v)
      release [v, ov, iv] [])) : PG X (.Subscript o i pos) (tG R G W F fun v ρ => M.bnd (mo ρ) fun x => M.bnd (mi ρ) fun y => M.bnd (setV R.cts x y v) fun _ => M.ret ρ) :=
  (pg_sub ho hi (set_ok (R := R) hu) ha).imp fun v σ H Q ⟨φ, st, ρ, d, S, E, ag, T, r, h⟩ =>
    ⟨φ, st, ρ, S, E, T, Post.mono ((Post.bnd h).wf ag) fun ov H1 ⟨φ1, st1, x, s1, S1, T1, r1, p1⟩ =>
      ⟨φ1, st1, ρ, S1, E.step s1, T1, Post.mono ((Post.bnd p1).wf ag) fun iv H2 ⟨φ2, st2, y, s2, S2, T2, r2, p2⟩ =>
        ⟨φ2, st2, x, y, d, S2, T2, r1.step s2, r2, (r.step s1).step s2, PostN.mono (Post.n (Post.bnd (A := AU) p2) NoX.setV) fun _ H3 ⟨φ3, st3, _, s3, S3, T3, _, p3⟩ =>
          p3 φ3 H3 _ (Step.refl _ _) S3 T3 ⟨((E.step s1).step s2).step s3, ag⟩⟩⟩⟩
structure ClsOk (R : Rc) (fl : List (Nat × List Nat)) : Prop where
  cls : ∀ c f, isFld fl c f = true → Cls R.K (R.cad c) ∧ NoAttr R.K (R.cad c) (R.fnm f) ∧ R.fld.lookup f = some (R.fnm f)
  inj : ∀ f g x, R.fld.lookup f = some x → R.fld.lookup g = some x → f = g
theorem fld_get {φ : List Addr} {H : Hp} (inj : ∀ f g x, R.fld.lookup f = some x → R.fld.lookup g = some x → f = g) {f : Nat} {x : Str} (hx : R.fld.lookup f = some x) : ∀ {fs : List (Nat × PV)} {gs : List (Str × V)} {d : PV}, FldL R φ H fs gs → fs.lookup f = some d → ∃ v, gs.lookup x = some v ∧ RepV R φ H d v
  | [], _, _, _, e => by cases e
  | (g, d0) :: fs, _, d, h, e => by
    obtain ⟨y, v, r, rfl, h1, h2, h3⟩ := h
    by_cases q : f = g
    · subst q
      rw [List.lookup_cons, beq_self_eq_true] at e
      cases e
      rw [h1] at hx
      cases hx
      exact ⟨v, by rw [List.lookup_cons, beq_self_eq_true], h2⟩
    · have q1 : (f == g) = false := by simpa using q
      have q2 : (x == y) = false := by
        cases z : x == y with
        | false => rfl
        | true =>
          have z : x = y := eq_of_beq z
          subst z
          exact absurd (inj f g x hx h1) q
      rw [List.lookup_cons, q1] at e
      obtain ⟨w, w1, w2⟩ := fld_get inj hx h3 e
      exact ⟨w, by rw [List.lookup_cons, q2]; exact w1, w2⟩
theorem fld_put {φ : List Addr} {H : Hp} (inj : ∀ f g x, R.fld.lookup f = some x → R.fld.lookup g = some x → f = g) {f : Nat} {x : Str} (hx : R.fld.lookup f = some x) {d : PV} {v : V} (rv : RepV R φ H d v) : ∀ {fs : List (Nat × PV)} {gs : List (Str × V)}, FldL R φ H fs gs → FldL R φ H (fput f d fs) (putF x v gs)
  | [], _, h => by cases h; exact ⟨x, v, [], rfl, hx, rv, rfl⟩
  | (g, d0) :: fs, _, h => by
    obtain ⟨y, v0, r, rfl, h1, h2, h3⟩ := h
    unfold fput putF
    by_cases q : g = f
    · subst q
      rw [h1] at hx
      cases hx
      rw [if_pos rfl, if_pos rfl]
      exact ⟨_, v, r, rfl, h1, rv, h3⟩
    · have q2 : ¬ y = x := fun z => by subst z; exact q (inj g f _ h1 hx)
      rw [if_neg q, if_neg q2]
      exact ⟨y, v0, _, rfl, h1, h2, fld_put inj hx rv h3⟩
theorem FldL.length {φ : List Addr} {H : Hp} : ∀ {fs : List (Nat × PV)} {gs : List (Str × V)}, FldL R φ H fs gs → fs.length = gs.length
  | [], _, h => by cases h; rfl
  | (g, d0) :: fs, _, h => by
    obtain ⟨y, v0, r, rfl, h1, h2, h3⟩ := h
    simp [FldL.length h3]
theorem st_fld {o e : Expr} {f : Nat} {pos pos' : Pos} {fl : List (Nat × List Nat)} {me mo : Env → M PV} (hK : R.K = X.K) (cl : ClsOk R fl) (he : PE X e (tM R G W me)) (ho : PE X o (tM R G W mo)) (hs : swapsWith e (some (.Attribute o (R.fnm f) pos')) pos.line X.env = pure false) :
    PS X (.Assign [.Attribute o (R.fnm f) pos'] e pos) (tS R G W F fun ρ => M.bnd (me ρ) fun v => M.bnd (M.bnd (mo ρ) fun x => M.bnd (setF fl x f v) fun _ => M.ret ρ) fun ρ' => M.ret (.nx, ρ')) :=
  tS.start (ps_fld ho he hs) fun φ st ρ D σ H p h => p.tM h fun φ1 st1 d v H1 s1 q1 r1 p1 => by
    rw [bnd_ret] at p1
    refine q1.tM p1 fun φ2 st2 x ov H2 s2 q2 r2 p2 => ?_
    rw [bnd_ret] at p2
    unfold M.bnd setF at p2
    cases x with
    | loc n =>
      obtain ⟨a, ha, rfl⟩ := r2
      cases q : st2[n]? with
      | none => simp only [q] at p2; exact p2.elim
      | some m =>
        simp only [q] at p2
        cases m with
        | ins c fs =>
          simp only at p2
          by_cases hk : (isFld fl c f && decide (fs.length < 900)) = true
          · rw [if_pos hk] at p2
            rw [Bool.and_eq_true] at hk
            obtain ⟨k1, k2⟩ := hk
            have k2 := of_decide_eq_true k2
            obtain ⟨c1, c2, c3⟩ := cl.cls c f k1
            obtain ⟨dx, gs, g1, g2⟩ := q2.S.at_ n _ a q ha
            have ma := List.mem_of_getElem? ha
            have st' := step_wr (H := H2) (o := .ins (R.cad c) dx (putF (R.fnm f) v gs)) ma
            refine ⟨a, R.cad c, dx, gs, rfl, g1, by rw [← hK]; exact c1, by rw [← hK]; exact c2, by rw [← g2.length]; omega, ?_⟩
            exact endS .nx (q2.to st' (q2.S.write (m := .ins c (fput f d fs)) ha ⟨dx, _, upd_same, fld_put cl.inj c3 ((r1.step s2).step st') (g2.step st')⟩) (q2.T.upd q2.S q ha)) (p2.step st')
          · rw [if_neg hk] at p2
            exact p2.elim
        | _ => exact False.elim p2
    | _ => exact False.elim p2
theorem st_par {i j : Nat} {x y : Str} {a b : Expr} {px py pt pos : Pos} {kt k2 : Nat} {pt2 : Pos} {ms : Env → M (List PV)} (vi : i ∈ F.vs) (vj : j ∈ F.vs) (hc : X.calm = true) (hN : X.N.Nodup) (hi : X.N[i]? = some x) (hj : X.N[j]? = some y) (hij : i ≠ j)
    (hx : X.env.scope.names.lookup x = some .local) (hy : X.env.scope.names.lookup y = some .local) (ha : PA X [a, b] (tMA' R G W ms))
    (hw : swappedStores [.Tuple [.Name x px, .Name y py] kt pt] (.Tuple [a, b] k2 pt2) X.env = pure (some [x, y])) :
    PS X (.Assign [.Tuple [.Name x px, .Name y py] kt pt] (.Tuple [a, b] k2 pt2) pos) (tS R G W F fun ρ => M.bnd (M.bnd (ms ρ) newT) fun v => M.bnd (tupG 2 (consG (fun v ρ => M.ret (ρ.set i (some v))) (consG (fun v ρ => M.ret (ρ.set j (some v))) nilG)) v ρ) fun ρ' => M.ret (.nx, ρ')) :=
  tS.start (ps_par hc hN hi hj hij hx hy ha hw rfl) fun φ st ρ D σ H p h => by
    rw [bnd_ret] at h
    refine ⟨φ, st, ρ, p.S, p.E, p.T, Post.mono (PostS.bnd (A := RepL R) p.ag h) fun vs H1 ⟨φ1, st1, ds, s1, S1, T1, r1, p1⟩ => ?_⟩
    have q1 := p.to s1 S1 T1
    unfold newT M.bnd M.grd M.ret at p1
    cases hz : decide (ds.length ≤ SZ) with
    | false => rw [hz] at p1; exact p1.elim
    | true =>
      rw [hz] at p1
      match ds, vs, r1, p1 with
      | [], _, _, p1 => exact p1.elim
      | [_], _, _, p1 => exact p1.elim
      | [d, e], vs, r1, p1 =>
        obtain ⟨v, r, rfl, g1, w, r', rfl, g2, rfl⟩ := r1
        exact ⟨v, w, rfl, endS .nx ⟨S1, (q1.E.set i g1.x).set j g2.x, (q1.ag.set vi _).set vj _, T1⟩ p1⟩
      | _ :: _ :: _ :: _, _, _, p1 => exact p1.elim
theorem st_par3 {i j l : Nat} {x y z : Str} {a b c : Expr} {px py pz pt pos : Pos} {kt k2 : Nat} {pt2 : Pos} {ms : Env → M (List PV)} (vi : i ∈ F.vs) (vj : j ∈ F.vs) (vl : l ∈ F.vs) (h0 : PS X (.Assign [.Tuple [.Name x px, .Name y py, .Name z pz] kt pt] (.Tuple [a, b, c] k2 pt2) pos) (tPar3 i j l (tMA' R G W ms))) :
    PS X (.Assign [.Tuple [.Name x px, .Name y py, .Name z pz] kt pt] (.Tuple [a, b, c] k2 pt2) pos) (tS R G W F fun ρ => M.bnd (M.bnd (ms ρ) newT) fun v => M.bnd (tupG 3 (consG (fun v ρ => M.ret (ρ.set i (some v))) (consG (fun v ρ => M.ret (ρ.set j (some v))) (consG (fun v ρ => M.ret (ρ.set l (some v))) nilG))) v ρ) fun ρ' => M.ret (.nx, ρ')) :=
  tS.start h0 fun φ st ρ D σ H p h => by
    rw [bnd_ret] at h
    refine ⟨φ, st, ρ, p.S, p.E, p.T, Post.mono (PostS.bnd (A := RepL R) p.ag h) fun vs H1 ⟨φ1, st1, ds, s1, S1, T1, r1, p1⟩ => ?_⟩
    have q1 := p.to s1 S1 T1
    unfold newT M.bnd M.grd M.ret at p1
    cases hz : decide (ds.length ≤ SZ) with
    | false => rw [hz] at p1; exact p1.elim
    | true =>
      rw [hz] at p1
      match ds, vs, r1, p1 with
      | [], _, _, p1 => exact p1.elim
      | [_], _, _, p1 => exact p1.elim
      | [_, _], _, _, p1 => exact p1.elim
      | [d, e, f], vs, r1, p1 =>
        obtain ⟨v, r, rfl, g1, w, r', rfl, g2, u, r'', rfl, g3, rfl⟩ := r1
        exact ⟨v, w, u, rfl, endS .nx ⟨S1, ((q1.E.set i g1.x).set j g2.x).set l g3.x, ((q1.ag.set vi _).set vj _).set vl _, T1⟩ p1⟩
      | _ :: _ :: _ :: _ :: _, _, _, p1 => exact p1.elim
end
end Mp
namespace Mp
open PySem PySem.Spec PyProof.Rows L2
section
variable {X : Cx} {R : Rc} {G : Gm} {W : WX} {tg : Expr}
theorem _root_.L2.PI.imp {e : Expr} {t t' : TI} (h : PI X tg e t) (k : ∀ σ H Q, t' σ H Q → t σ H Q) : PI X tg e t' := ⟨fun pins s σ H Q I q => h.run pins s σ H Q I (k σ H Q q)⟩
def SqA (K : PySem.W.Frag) (b : Bool) (H : Hp) (a : Addr) (vs : List V) : Prop := match b with
  | true => SqT K H a vs
  | false => SqL K H a vs
def Stands (R : Rc) (φ0 : List Addr) (H0 : Hp) (b : Bool) (a : Addr) (ds : List PV) (ws : Wat) : Prop :=
  ∀ hid, Hd R H0 hid → ∀ φ st H, Step φ0 H0 φ H → RepS (R.h hid) φ st H → (ws.all fun w => decide (st[w.1]? = some w.2)) = true → ∃ vs, SqA R.K b H a vs ∧ RepL (R.h hid) φ H ds vs
theorem asS_stands {φ : List Addr} {st : Sto} {H : Hp} {d : PV} {x : V} {ds : List PV} {ws : Wat} (S : RepS R φ st H) (r : RepV R φ H d x) (e : asS d st = .ok ds st) (ew : watOf d st = .ok ws st) : ∃ a b, x = .ref a ∧ Stands R φ H b a ds ws ∧ ∃ vs, SqA R.K b H a vs ∧ RepL R φ H ds vs := by
  cases d with
  | tup xs =>
    cases e
    cases ew
    obtain ⟨a, vs, rfl, t, z, q⟩ := r
    exact ⟨a, true, rfl, fun hid hd φ' st' H' s S' _ => ⟨vs, (t.hide s hd).sq, RepL.hide s hd _ _ q⟩, vs, t.sq, q⟩
  | scr ns =>
    cases e
    cases ew
    obtain ⟨a, o, rfl, t, z⟩ := r
    exact ⟨a, false, rfl, fun hid hd φ' st' H' s S' _ => ⟨_, (t.step s).sq, RepL.ints⟩, _, t.sq, RepL.ints⟩
  | lst xs =>
    cases e
    cases ew
    obtain ⟨a, vs, rfl, t, z, q⟩ := r
    exact ⟨a, false, rfl, fun hid hd φ' st' H' s S' _ => ⟨vs, .inl (.inl (t.step s).1), RepL.hide s hd _ _ q⟩, vs, .inl (.inl t.1), q⟩
  | loc n =>
    obtain ⟨a, ha, rfl⟩ := r
    cases q : st[n]? with
    | none => unfold asS at e; simp only [q] at e; cases e
    | some m =>
      unfold asS at e
      unfold watOf at ew
      simp only [q] at e ew
      cases m with
      | lst xs =>
        cases e
        cases ew
        obtain ⟨vs, h1, h2, h3⟩ := S.at_ n _ a q ha
        refine ⟨a, false, rfl, fun hid hd φ' st' H' s S' hw => ?_, vs, .inl (.inl h1), h3⟩
        simp only [List.all_cons, List.all_nil, Bool.and_true, decide_eq_true_eq] at hw
        obtain ⟨vs', g1, g2, g3⟩ := S'.at_ n _ a hw (get_pre s.pre ha)
        exact ⟨vs', .inl (.inl g1), g3⟩
      | _ => cases e
  | _ => cases e
def ItA (K : PySem.W.Frag) (b : Bool) (a : Addr) : L2.It := match b with
  | true => Itt K a
  | false => Itl K a
theorem sqA_inj {pins : List (Addr × Obj)} {K : PySem.W.Frag} {b : Bool} {H : Hp} {a : Addr} {vs ws : List V} (h : SqA K b H a vs) (g : SqA K b H a ws) : vs.length = ws.length → True := fun _ => trivial
theorem stands_it {φ0 : List Addr} {H0 : Hp} {b : Bool} {a : Addr} {ds : List PV} {ws : Wat} (h : Stands R φ0 H0 b a ds ws) : ItRep R φ0 H0 ds ws (ItA R.K b a) := fun hid hd i φ st H s S T hw => by
  obtain ⟨vs, h1, h2⟩ := h hid hd φ st H s S hw
  have hl := h2.length
  cases b with
  | true =>
    refine ⟨fun hi => ⟨vs, h1, by omega⟩, fun d hd => ?_⟩
    obtain ⟨v, g1, g2⟩ := h2.get hd
    refine ⟨⟨vs, v, h1, g1⟩, fun x H' y => ?_⟩
    obtain ⟨rfl, y⟩ := y
    have q := y vs h1
    rw [g1] at q
    cases q
    exact ⟨Step.refl _ _, S, T, g2⟩
  | false =>
    refine ⟨fun hi => ⟨vs, h1, by omega⟩, fun d hd => ?_⟩
    obtain ⟨v, g1, g2⟩ := h2.get hd
    refine ⟨⟨vs, v, h1, g1⟩, fun x H' y => ?_⟩
    obtain ⟨rfl, y⟩ := y
    have q := y vs h1
    rw [g1] at q
    cases q
    exact ⟨Step.refl _ _, S, T, g2⟩
theorem it_go {pins : List (Addr × Obj)} {σ : L2.St} {H : Hp} {s : Shared} {b : Bool} {a : Addr} {vs : List V} {Q : L2.It → Hp → Prop} {E : Value → Shared → Prop} (I : Inv X pins σ H s) (h : SqA X.K b H a vs) (q : Q (ItA X.K b a) H) : wpAny (model X.prog X.w) X.A (pyIter (.ref a)) (PIE X pins σ tg Q) E s := by
  have fp : ∀ c ∈ [s.heap.objs.size], FpOk X pins H c := fun c hc => by
    rw [List.mem_singleton.mp hc]
    exact I.fpOk (Nat.le_refl _) (I.hok.fresh (Nat.le_refl _))
  cases b with
  | true =>
    obtain ⟨its, rv, p, hz⟩ := I.tuple h
    exact wpAny_pyIter_tuple (show s.heap.IsTuple a its.toArray from p) ⟨_, [s.heap.objs.size], _, _, H, rfl, I.kept (t' := s.toks) fun c o e => Heap.get?_push_of_some _ e, turn_tuple a _, ⟨_, Heap.get?_push_size _ rfl, rfl, rfl⟩, fp, q⟩
  | false =>
    obtain ⟨its, rv, p, hz⟩ := I.list h
    exact wpAny_pyIter_list p.isList ⟨_, [s.heap.objs.size], _, _, H, rfl, I.kept (t' := s.toks) fun c o e => Heap.get?_push_of_some _ e, turn_list a _, ⟨_, Heap.get?_push_size _ rfl, rfl, rfl⟩, fp, q⟩
theorem NoX.watOf {x : PV} : NoX (watOf x) := fun st c v s e => by
  unfold Mp.watOf at e
  repeat' (first | (cases e; done) | split at e)
theorem NoX.itemsOf {x : PV} : NoX (itemsOf x) := fun st c v s e => by
  unfold Mp.itemsOf at e
  split at e
  · cases e
  · exact NoX.asS _ _ _ _ e
theorem asS_same {x : PV} {st st' : Sto} {ds : List PV} (e : asS x st = .ok ds st') : st' = st := by
  unfold asS at e
  split at e
  · cases e; rfl
  · cases e; rfl
  · cases e; rfl
  · split at e
    · cases e; rfl
    · cases e
  · cases e
theorem watOf_same {x : PV} {st st' : Sto} {ws : Wat} (e : watOf x st = .ok ws st') : st' = st := by
  unfold watOf at e
  split at e
  · split at e
    · cases e; rfl
    · cases e
  · cases e; rfl
theorem Post.look {α γ δ : Type} {A : List Addr → Hp → γ → δ → Prop} {m : M α} {f : α → M γ} {φ : List Addr} {H : Hp} {σ : L2.St} {st : Sto} {Q : δ → Hp → Prop} (n : NoX m) (same : ∀ a s, m st = .ok a s → s = st) (h : Post R W σ φ H A (M.bnd m f st) Q) :
    ∃ a, m st = .ok a st ∧ Post R W σ φ H A (f a st) Q := by
  unfold M.bnd at h
  cases e : m st with
  | ok a s =>
    rw [e] at h
    have := same a s e
    subst this
    exact ⟨a, rfl, h⟩
  | exc c v s => exact (n _ _ _ _ e).elim
  | bad => rw [e] at h; exact h.elim
theorem str_it {φ0 : List Addr} {H0 : Hp} {z : Str} (hz : okS z = true) : ItRep R φ0 H0 (chars z) [] (Its z) := fun hid hd i φ st H s S T hw => by
  have hl : (chars z).length = z.cps.size := by unfold chars; rw [List.length_map]; simp
  refine ⟨fun hi => by rw [hl] at hi; exact hi, fun d hd => ?_⟩
  unfold chars at hd
  rw [List.getElem?_map] at hd
  cases q : z.cps.toList[i]? with
  | none => rw [q] at hd; cases hd
  | some c =>
    rw [q] at hd
    cases hd
    have hi : i < z.cps.size := by
      obtain ⟨hi, _⟩ := List.getElem?_eq_some_iff.mp q
      simpa using hi
    refine ⟨hi, fun x H' y => ?_⟩
    obtain ⟨rfl, c', h1, rfl⟩ := y
    have h2 : z.cps[i]? = some c := by simpa using q
    rw [h2] at h1
    cases h1
    refine ⟨Step.refl _ _, S, T, rfl, ?_⟩
    have all := okS_cps hz
    unfold okS
    rw [Bool.and_eq_true]
    refine ⟨by show decide (1 ≤ SZ) = true; decide, ?_⟩
    have := Array.all_eq_true.mp all i hi
    obtain ⟨hi', he⟩ := Array.getElem?_eq_some_iff.mp h2
    rw [he] at this
    simp only [List.all_toArray, List.all_cons, List.all_nil, Bool.and_true]
    exact this
theorem i_of {e : Expr} {me : Env → M PV} (hK : R.K = X.K) (he : PE X e (tM R G W me)) : PI X tg e (tI R G W fun ρ => M.bnd (me ρ) fun x => M.bnd (itemsOf x) fun xs => M.bnd (watOf x) fun w => M.ret (xs, w)) := by
  refine ⟨fun pins s σ H Q I ⟨φ, st, ρ, S, E, T, h⟩ => ?_⟩
  refine thn (he.run pins s σ H (fun x H1 => ∃ φ1 st1 d, Step φ H φ1 H1 ∧ RepS R φ1 st1 H1 ∧ Tbs R H1 ∧ RepV R φ1 H1 d x ∧ Post R W σ φ1 H1 (AI R) (M.bnd (itemsOf d) (fun xs => M.bnd (watOf d) fun w => M.ret (xs, w)) st1) Q) I ⟨φ, st, ρ, S, E, T, Post.bnd h⟩) fun u s1 ⟨x, H1, I1, ru, φ1, st1, d, s1', S1, T1, r1, p1⟩ => ?_
  have same : ∀ xs s', itemsOf d st1 = .ok xs s' → s' = st1 := fun xs s' e => by
    unfold itemsOf at e
    split at e
    · cases e; rfl
    · exact asS_same e
  obtain ⟨xs, e1, p1⟩ := Post.look NoX.itemsOf same p1
  obtain ⟨ws, e2, p1⟩ := Post.look NoX.watOf (fun _ _ e => watOf_same e) p1
  have seq : asS d st1 = .ok xs st1 → wpAny (model X.prog X.w) X.A (pyIter u) (PIE X pins σ tg Q) X.xe s1 := fun e1 => by
    obtain ⟨a, b, rfl, h1, vs, h2, h3⟩ := asS_stands S1 r1 e1 e2
    obtain rfl : u = Value.ref a := ru
    rw [hK] at h2
    refine it_go I1 h2 ?_
    rw [← hK]
    exact p1 φ1 H1 _ (Step.refl _ _) S1 T1 (stands_it h1)
  cases d with
  | str z =>
    cases e1
    cases e2
    obtain ⟨rfl, r1⟩ := r1
    obtain ⟨t, rfl⟩ := ru
    have q := p1 φ1 H1 (Its z) (Step.refl _ _) S1 T1 (str_it r1)
    cases hb : z.cps.all (· < 128) with
    | false => exact wpAny_pyIter_wide hb (pi_one (tk := s1.toks) I1 _ (turn_str _ z t "str_iterator" (.inr rfl)) ⟨_, Heap.get?_push_size _ rfl, rfl, rfl⟩ q)
    | true => exact wpAny_pyIter_ascii hb (pi_one (tk := s1.toks) I1 _ (turn_str _ z t "str_ascii_iterator" (.inl rfl)) ⟨_, Heap.get?_push_size _ rfl, rfl, rfl⟩ q)
  | _ => exact seq e1
theorem rng_it {φ0 : List Addr} {H0 : Hp} (i j : Int) : ItRep R φ0 H0 (rngL i j) [] (Itr i (j - i).toNat) := fun hid hd k φ st H s S T hw => by
  have hl : (rngL i j).length = (j - i).toNat := by unfold rngL; simp
  refine ⟨fun hi => by rw [hl] at hi; exact hi, fun d hd => ?_⟩
  unfold rngL at hd
  rw [List.getElem?_map] at hd
  cases q : (List.range (j - i).toNat)[k]? with
  | none => rw [q] at hd; cases hd
  | some c =>
    rw [q] at hd
    cases hd
    obtain ⟨hk, e⟩ := List.getElem?_eq_some_iff.mp q
    rw [List.getElem_range] at e
    subst e
    rw [List.length_range] at hk
    refine ⟨hk, fun x H' y => ?_⟩
    obtain ⟨rfl, rfl⟩ := y
    exact ⟨Step.refl _ _, S, T, rfl⟩
def rngM (x : PV) : M (List PV × Wat) := match x with
  | .int j => M.grd (in62 j) (M.ret (rngL 0 j, []))
  | _ => M.bad
def rng2M (x y : PV) : M (List PV × Wat) := match x, y with
  | .int i, .int j => M.grd (in62 i && in62 j) (M.ret (rngL i j, []))
  | _, _ => M.bad
theorem in62_ok {i : Int} (h : in62 i = true) : -(2 ^ 62) ≤ i ∧ i < 2 ^ 62 := by
  unfold in62 at h
  simp only [Bool.and_eq_true, decide_eq_true_eq] at h
  exact h
theorem i_rng {a : Expr} {ma : Env → M PV} {p pos : Pos} (hg : Gl X "range") (hm : X.mg "range" = none) (ha : PA X [a] (tMA' R G W fun ρ => M.bnd (ma ρ) fun x => M.bnd (M.ret []) fun xs => M.ret (x :: xs))) (hs : starEach [a] X.env = [(false, eval a X.env)]) :
    PI X tg (.Call (.Name "range" p) [a] [] pos) (tI R G W fun ρ => M.bnd (ma ρ) rngM) :=
  (pi_range1 hg hm ha hs).imp fun σ H Q ⟨φ, st, ρ, S, E, T, h⟩ => by
    have h' : Post R W σ φ H (AI R) (M.bnd (M.bnd (ma ρ) fun x => M.bnd (M.ret []) fun xs => M.ret (x :: xs)) (fun xs => match xs with
      | [x] => rngM x
      | _ => M.bad) st) Q := by
      rw [bnd_ret]
      exact h
    refine ⟨φ, st, ρ, S, E, T, Post.mono (Post.bnd (A := RepL R) h') fun vs H1 ⟨φ1, st1, ds, s1, S1, T1, r1, p1⟩ => ?_⟩
    match ds, vs, r1, p1 with
    | [], _, _, p1 => exact p1.elim
    | [d], vs, r1, p1 =>
      obtain ⟨v, r, rfl, g1, rfl⟩ := r1
      cases d with
      | int j =>
        have p1 : Post R W σ φ1 H1 (AI R) (M.grd (in62 j) (M.ret (rngL 0 j, [])) st1) Q := p1
        unfold M.grd at p1
        cases q : in62 j with
        | false => rw [q] at p1; exact p1.elim
        | true =>
          rw [q] at p1
          obtain ⟨b1, b2⟩ := in62_ok q
          have := rng_it (R := R) (φ0 := φ1) (H0 := H1) 0 j
          rw [Int.sub_zero] at this
          exact ⟨j, by rw [show v = V.int j from g1], b1, b2, p1 φ1 H1 _ (Step.refl _ _) S1 T1 this⟩
      | _ => exact False.elim p1
    | _ :: _ :: _, _, _, p1 => exact p1.elim
theorem i_rng2 {a b : Expr} {ma mb : Env → M PV} {p pos : Pos} (hg : Gl X "range") (hm : X.mg "range" = none) (ha : PA X [a, b] (tMA' R G W fun ρ => M.bnd (ma ρ) fun x => M.bnd (M.bnd (mb ρ) fun x => M.bnd (M.ret []) fun xs => M.ret (x :: xs)) fun xs => M.ret (x :: xs)))
    (hs : starEach [a, b] X.env = [(false, eval a X.env), (false, eval b X.env)]) (hs2 : starEach [b] X.env = [(false, eval b X.env)]) :
    PI X tg (.Call (.Name "range" p) [a, b] [] pos) (tI R G W fun ρ => M.bnd (ma ρ) fun x => M.bnd (mb ρ) fun y => rng2M x y) :=
  (pi_range2 hg hm ha hs hs2).imp fun σ H Q ⟨φ, st, ρ, S, E, T, h⟩ => by
    have h' : Post R W σ φ H (AI R) (M.bnd (M.bnd (ma ρ) fun x => M.bnd (M.bnd (mb ρ) fun x => M.bnd (M.ret []) fun xs => M.ret (x :: xs)) fun xs => M.ret (x :: xs)) (fun xs => match xs with
      | [x, y] => rng2M x y
      | _ => M.bad) st) Q := by
      rw [bnd_ret]
      simp only [bnd_ret]
      exact h
    refine ⟨φ, st, ρ, S, E, T, Post.mono (Post.bnd (A := RepL R) h') fun vs H1 ⟨φ1, st1, ds, s1, S1, T1, r1, p1⟩ => ?_⟩
    match ds, vs, r1, p1 with
    | [], _, _, p1 => exact p1.elim
    | [_], _, _, p1 => exact p1.elim
    | [d, e], vs, r1, p1 =>
      obtain ⟨v, r, rfl, g1, w, r', rfl, g2, rfl⟩ := r1
      cases d with
      | int i =>
        cases e with
        | int j =>
          have p1 : Post R W σ φ1 H1 (AI R) (M.grd (in62 i && in62 j) (M.ret (rngL i j, [])) st1) Q := p1
          unfold M.grd at p1
          cases q : in62 i && in62 j with
          | false => rw [q] at p1; exact p1.elim
          | true =>
            rw [q] at p1
            rw [Bool.and_eq_true] at q
            obtain ⟨b1, b2⟩ := in62_ok q.1
            obtain ⟨b3, b4⟩ := in62_ok q.2
            exact ⟨i, j, by rw [show v = V.int i from g1, show w = V.int j from g2], ⟨b1, b2, b3, b4⟩, p1 φ1 H1 _ (Step.refl _ _) S1 T1 (rng_it i j)⟩
        | _ => exact False.elim p1
      | _ => cases e <;> exact False.elim p1
    | _ :: _ :: _ :: _, _, _, p1 => exact p1.elim
end
end Mp
namespace PySem
open Sem (wp)
open AutoSeq1 (wpAny_loadPart')
set_option maxHeartbeats 1000000 in
theorem mp_meets_enum {v : Value} {o : Obj} {H : Heap → Prop} (B : Begins v o H) :
    Meets (Builtin.«enumerate.__new__» ⟨[.type "enumerate", v], []⟩) (fun _ R s => H s.heap ∧
      R (.ok (.ret (.ref (s.heap.push o).objs.size))) { s with heap := (s.heap.push o).push { cls := .type "enumerate", data := .fields #[.none, .bool false, .ref s.heap.objs.size, rawInt 0, .none, .none] } }) :=
  .of_wp fun prog w A R s h => by
    obtain ⟨hp, g, d, tk, os⟩ := s
    obtain ⟨h1, h⟩ := h
    have hsub := sub_enumerate
    have q1 : ∀ {A' : Around} {E : Value → Shared → Prop} {Q : Value → Shared → Prop}, Q (.ref hp.objs.size) ⟨hp.push o, g, d, tk, os⟩ → wpAny (model prog w) A' (pyIter v) Q E ⟨hp, g, d, tk, os⟩ := fun q => B.iter prog w _ _ ⟨hp, g, d, tk, os⟩ _ h1 q
    wp_walk using q1
    refine wpAny_stack_any fun st => wpAny_pure ?_
    split
    · rename_i c _ _ _ _ _
      cases (c == Value.type "enumerate")
      · wp_walk using q1
        exact ⟨_, rfl, h⟩
      · wp_walk using q1
        exact ⟨_, rfl, h⟩
    · wp_walk using q1
      exact ⟨_, rfl, h⟩
section
variable {prog : Program} {w : World} {A : Around} {E : Value → Shared → Prop} {s : Shared}
theorem mp_enum_begins {v : Value} {o : Obj} {H : Heap → Prop} {Q : Value → Shared → Prop} (B : Begins v o H) (h1 : H s.heap)
    (h : ∀ h', IsEnum h' (s.heap.objs.size + 1) s.heap.objs.size 0 .none → h'.get? s.heap.objs.size = some o → (∀ b o, s.heap.get? b = some o → h'.get? b = some o) → Q (.ref (s.heap.objs.size + 1)) { s with heap := h' }) :
    wpAny (model prog w) A (call (.type "enumerate") [v]) Q E s := by
  refine callType_new F.called_enumerate (by decide) (F.typeCall_enumerate_1 _) (F.newCall_enumerate_1 _) (fun obj => F.args_object_init_2 obj _) F.entry_enumerate_new (mp_meets_enum B) ⟨h1, ?_⟩
  have hz : (s.heap.push o).objs.size = s.heap.objs.size + 1 := Heap.size_push ..
  have he : IsEnum ((s.heap.push o).push { cls := .type "enumerate", data := .fields #[.none, .bool false, .ref s.heap.objs.size, rawInt 0, .none, .none] }) (s.heap.objs.size + 1) s.heap.objs.size 0 .none := by
    have q := Heap.get?_push_size (s.heap.push o) (o := { cls := .type "enumerate", data := .fields #[.none, .bool false, .ref s.heap.objs.size, rawInt 0, .none, .none] }) rfl
    rw [hz] at q
    exact q
  show _ ∧ _
  rw [hz]
  exact ⟨⟨_, he, rfl⟩, h _ he (Heap.get?_push_of_some _ (Heap.get?_push_size _ B.free)) fun b o x => Heap.get?_push_of_some _ (Heap.get?_push_of_some _ x)⟩
end
end PySem
namespace Mp
open PySem PySem.Spec PyProof.Rows L2
def ItE (K : PySem.W.Frag) (b : Bool) (a : Addr) : L2.It :=
  ⟨fun i H => ∃ (vs : List V) (x : V), SqA K b H a vs ∧ vs[i]? = some x,
    fun i H v H' => ∃ T x, v = .ref T ∧ H T = none ∧ H' = upd H T (.tup [.int (i : Nat), x]) ∧ ∀ vs, SqA K b H a vs → vs[i]? = some x, fun i H => ∃ vs : List V, SqA K b H a vs ∧ vs.length ≤ i⟩
def IsItA (b : Bool) (h : Heap) (it a : Addr) (i : Nat) : Prop := match b with
  | true => h.IsTupleIter it a i
  | false => h.IsListIter it a i
def IsSqA (b : Bool) (h : Heap) (a : Addr) (its : Array Value) : Prop := match b with
  | true => h.IsTuple a its
  | false => h.IsList a its
theorem drawsA {prog : Program} {w : World} {A : Around} (hh : A.handled = none) (it a : Addr) (hne : a ≠ it) (its : Array Value) (b : Bool) : Draws prog w A it [it, a] its.size (fun i v => its[i]? = some v) (fun i h => IsItA b h it a i ∧ IsSqA b h a its) := by
  cases b with
  | true => exact Draws.tuple hh it a hne its
  | false => exact Draws.list hh it a hne its
theorem isItA_at {b : Bool} {h h' : Heap} {it a : Addr} {i : Nat} (x : IsItA b h it a i) (k : ∀ o, h.get? it = some o → h'.get? it = some o) : IsItA b h' it a i := by
  cases b with
  | true => exact Heap.IsTupleIter.at x k
  | false => exact Heap.IsListIter.at x k
theorem isItA_obj {b : Bool} {h : Heap} {it a : Addr} {i : Nat} (x : IsItA b h it a i) : ∃ o, h.get? it = some o ∧ ∀ v, o.data ≠ .cell v := by
  cases b with
  | true => obtain ⟨o, ho, hc, hd⟩ := x; exact ⟨o, ho, fun v q => by rw [hd] at q; cases q⟩
  | false => obtain ⟨o, ho, hc, hd⟩ := x; exact ⟨o, ho, fun v q => by rw [hd] at q; cases q⟩
section
variable {X : Cx} {R : Rc} {G : Gm} {W : WX}
theorem sqA_at {pins : List (Addr × Obj)} {σ : L2.St} {H : Hp} {s : Shared} {b : Bool} {a : Addr} {vs : List V} (I : Inv X pins σ H s) (h : SqA X.K b H a vs) : ∃ its : List Value, Vals vs its ∧ IsSqA b s.heap a its.toArray := by
  cases b with
  | true => obtain ⟨its, rv, p, _⟩ := I.tuple h; exact ⟨its, rv, p⟩
  | false => obtain ⟨its, rv, p, _⟩ := I.list h; exact ⟨its, rv, p.isList⟩
theorem sqA_same {pins : List (Addr × Obj)} {σ : L2.St} {H : Hp} {s : Shared} {b : Bool} {a : Addr} {vs ws : List V} (I : Inv X pins σ H s) (h : SqA X.K b H a vs) (g : SqA X.K b H a ws) : vs = ws := by
  cases b with
  | true => exact I.tuple_inj h g
  | false => exact I.list_inj h g
theorem turn_enumA {P : Program} {w : World} {K : PySem.W.Frag} {elts : List Expr} {kk : Nat} {tpos : Pos} (b : Bool) (a e it : Addr) (ha : a ≠ it) (hae : a ≠ e) :
    Turn P w K (.Tuple elts kk tpos) (ItE K b a) [e, it] e (fun i h => (∃ old, IsEnum h e it ((i : Nat) : Int) old) ∧ IsItA b h it a i ∧ e ≠ it) where
  mem := by simp
  obj := fun i h st c hc => by
    obtain ⟨⟨old, he⟩, hi, _⟩ := st
    rcases (show c = e ∨ c = it by simpa using hc) with z | z
    · rw [z]; exact ⟨_, he, fun v q => nomatch q⟩
    · rw [z]; exact isItA_obj hi
  keep := fun i h h' st k => ⟨⟨st.1.choose, k e (by simp) _ st.1.choose_spec⟩, isItA_at st.2.1 fun o q => k it (by simp) o q, st.2.2⟩
  item := by
    intro X hP hw hK hc i pins s σ H E I hf st hg
    subst hP hw hK
    obtain ⟨⟨old, he⟩, hit, hne⟩ := st
    obtain ⟨xs, x, hq, hx⟩ := hg
    obtain ⟨its, rv, p⟩ := sqA_at I hq
    obtain ⟨u, hu, ru⟩ := rv.get hx
    have hel : e < s.heap.objs.size := Heap.lt_size he
    have hil : it < s.heap.objs.size := by obtain ⟨_, q, _⟩ := isItA_obj hit; exact Heap.lt_size q
    have D := drawsA (prog := X.prog) (w := X.w) (A := X.A.in1) (I.ok.hd hc) it a ha its.toArray b
    refine wpAny_pyNext_enum_itemD D he ⟨hit, p⟩ (i := i) (by
      obtain ⟨z, _⟩ := List.getElem?_eq_some_iff.mp hu
      simpa using z) hne (by simp only [List.mem_cons, List.not_mem_nil, or_false, not_or]; exact ⟨hne, fun z => hae z.symm⟩) fun u' h' tk hu' ho hit' hT hsz hk => ?_
    have hu2 : its.toArray[i]? = some u := by simpa using hu
    rw [hu2] at hu'
    cases hu'
    refine ⟨_, rfl, wpAny_letOwnedTupleGo_enum (s := { s with heap := h', toks := tk + 1 }) ho fun h'' he' sb => ?_⟩
    have hT2 : h''.get? s.heap.objs.size = some { cls := .type "tuple", data := .seq #[.int i tk, u] } := (sb.2 _ (Nat.ne_of_gt hel)).trans hT
    have new : ObjOk X.prog X.w (upd H s.heap.objs.size (.tup [.int (i : Nat), x])) h'' s.heap.objs.size (.tup [.int (i : Nat), x]) := ⟨by show 2 ≤ sizeLine; decide, [.int i tk, u], .cons ⟨_, rfl⟩ (.cons ru .nil), ⟨_, hT2, rfl, _, rfl⟩⟩
    have I1 : Inv X pins σ (upd H s.heap.objs.size (.tup [.int (i : Nat), x])) { s with heap := h'', toks := tk + 1 } :=
      I.turnedNew (ch := [e, it]) (fun c ob hb q => (sb.2 c (fun z => hb (by simp [z]))).trans (hk c ob (fun z => hb (by simp [z])) (fun z => hb (by simp [z])) q)) hf (Nat.le_refl _) new
    refine ⟨.ref s.heap.objs.size, _, I1, rfl, ⟨_, x, rfl, I.hok.fresh (Nat.le_refl _), rfl, fun ys hy => by rw [sqA_same I hy hq]; exact hx⟩, ⟨⟨u, ?_⟩, isItA_at hit'.1 fun o q => (sb.2 it (Ne.symm hne)).trans q, hne⟩, fun c hb => ?_⟩
    · rw [show ((i + 1 : Nat) : Int) = (i : Int) + 1 by omega]
      exact he'
    · have hb' : c < s.heap.objs.size := by
        rcases (show c = e ∨ c = it by simpa using hb) with z | z
        · rw [z]; exact hel
        · rw [z]; exact hil
      rw [upd_ne (Nat.ne_of_lt hb')]
      exact (hf c hb).1
  done := by
    intro X hP hw hK hc i pins s σ H E I hf st hg
    subst hP hw hK
    obtain ⟨⟨old, he⟩, hit, hne⟩ := st
    obtain ⟨xs, hq, hx⟩ := hg
    obtain ⟨its, rv, p⟩ := sqA_at I hq
    obtain ⟨f0, f1, f2, f3, f4, f5⟩ := hf it (by simp)
    have hl := rv.length
    cases b with
    | true => exact wpAny_pyNext_enum_endD (A := X.A) (n := i) (P := fun _ _ => False) (St := fun k h => k = i ∧ IsItA true h it a i ∧ IsSqA true h a its.toArray) (it := it) (fp := [it, a]) ⟨fun k h z => (isItA_obj z.2.1).imp fun o q => q.1, fun k h h' z kk => ⟨z.1, isItA_at z.2.1 fun o q => kk it (by simp) o q, Heap.IsTuple.at z.2.2 fun o q => kk a (by simp) o q⟩, fun k s' Q' E' hlt z => absurd z.1 (Nat.ne_of_lt hlt), fun s' Q' E' z hE => wpAny_nextOf_tuple_end (I.ok.hd hc) z.2.1 z.2.2 (by simp; omega) hE⟩ he ⟨rfl, hit, p⟩ fun h' eb => ⟨rfl, I.turned (t' := s.toks) (fun c o hb q => eb c o hb q) f0 f1 f3 f4 f5⟩
    | false => exact wpAny_pyNext_enum_end (I.ok.hd hc) he hit p (by simp; omega) fun h' eb => ⟨rfl, I.turned (t' := s.toks) (fun c o hb q => eb c o hb q) f0 f1 f3 f4 f5⟩
  self := fun A i s Q E st h => wpAny_pyIter_enum st.1.choose_spec h
theorem enu_it {φ0 : List Addr} {H0 : Hp} {b : Bool} {a : Addr} {ds : List PV} {ws : Wat} (h : Stands R φ0 H0 b a ds ws) : ItRep R φ0 H0 (ds.zipIdx.map fun p => .tup [.int p.2, p.1]) ws (ItE R.K b a) := fun hid hd i φ st H s S T hw => by
  obtain ⟨vs, h1, h2⟩ := h hid hd φ st H s S hw
  have hl := h2.length
  refine ⟨fun hi => ⟨vs, h1, by simpa [hl] using hi⟩, fun d hd => ?_⟩
  rw [List.getElem?_map, List.getElem?_zipIdx] at hd
  cases q : ds[i]? with
  | none => rw [q] at hd; cases hd
  | some d0 =>
    rw [q] at hd
    cases hd
    obtain ⟨v, g1, g2⟩ := h2.get q
    refine ⟨⟨vs, v, h1, g1⟩, fun x H' y => ?_⟩
    obtain ⟨T', x', rfl, hT, rfl, y⟩ := y
    have e := y vs h1
    rw [g1] at e
    cases e
    refine ⟨step_new hT, S.new hT, T.new hT, T', _, rfl, .inl ⟨upd_same, S.fresh hT, fun ps z => by cases z⟩, by show 2 ≤ SZ; decide, _, _, rfl, ?_, _, _, rfl, g2.step (step_new hT), rfl⟩
    show V.int ((i : Nat) : Int) = V.int ((0 + i : Nat) : Int)
    rw [Nat.zero_add]
theorem sqA_rd {pins : List (Addr × Obj)} {σ : L2.St} {H : Hp} {s : Shared} {b : Bool} {a : Addr} {vs : List V} (I : Inv X pins σ H s) (h : SqA X.K b H a vs) : a < s.heap.objs.size := by
  obtain ⟨its, _, p⟩ := sqA_at I h
  cases b with
  | true => obtain ⟨o, ho, _⟩ := p; exact Heap.lt_size ho
  | false => obtain ⟨o, ho, _⟩ := p; exact Heap.lt_size ho
theorem i_enu {e : Expr} {me : Env → M PV} {p pos tpos : Pos} {elts : List Expr} {kk : Nat} (hK : R.K = X.K) (hg : Gl X "enumerate") (hm : X.mg "enumerate" = none) (he : PE X e (tM R G W me)) (hs0 : starEach [e] X.env = (false, eval e X.env) :: starEach [] X.env) (hs : starEach [e] X.env = [(false, eval e X.env)]) :
    PI X (.Tuple elts kk tpos) (.Call (.Name "enumerate" p) [e] [] pos) (tI R G W fun ρ => M.bnd (me ρ) fun x => M.bnd (asS x) fun xs => M.bnd (watOf x) fun w => M.ret (xs.zipIdx.map fun p => .tup [.int p.2, p.1], w)) := by
  refine ⟨fun pins s σ H Q I ⟨φ, st, ρ, S, E, T, h⟩ => ?_⟩
  refine Call_ (ld_blt I hg hm boot_enumerate (PyProof.Rows.callWith_type1 (thn ((pa_cons he pa_nil hs0).run pos pins s σ H (fun vs H1 => ∃ x, vs = [x] ∧ ∃ φ1 st1 d, Step φ H φ1 H1 ∧ RepS R φ1 st1 H1 ∧ Tbs R H1 ∧ RepV R φ1 H1 d x ∧ Post R W σ φ1 H1 (AI R) (M.bnd (asS d) (fun xs => M.bnd (watOf d) fun w => M.ret (xs.zipIdx.map fun p => .tup [.int p.2, p.1], w)) st1) Q) I
    ⟨φ, st, ρ, S, E, T, Post.mono (Post.bnd h) fun v H1 q => ⟨v, rfl, q⟩⟩) fun us s1 ⟨vs, H1, I1, ru, q1⟩ => ?_) hs rfl))
  obtain ⟨x, rfl, φ1, st1, d, s1', S1, T1, r1, p1⟩ := q1
  obtain ⟨xs, e1, p1⟩ := Post.look NoX.asS (fun _ _ e => asS_same e) p1
  obtain ⟨ws, e2, p1⟩ := Post.look NoX.watOf (fun _ _ e => watOf_same e) p1
  obtain ⟨a, b, rfl, h1, vs, h2, h3⟩ := asS_stands S1 r1 e1 e2
  have q := p1 φ1 H1 _ (Step.refl _ _) S1 T1 (enu_it h1)
  rw [hK] at h2 q
  have hlt := sqA_rd I1 h2
  cases ru with
  | cons r rr =>
    cases rr
    cases r
    have fin : ∀ h', IsEnum h' (s1.heap.objs.size + 1) s1.heap.objs.size 0 .none → IsItA b h' s1.heap.objs.size a 0 → (∀ c o, s1.heap.get? c = some o → h'.get? c = some o) → wpAny (model X.prog X.w) X.A (pyIter (.ref (s1.heap.objs.size + 1))) (PIE X pins σ (.Tuple elts kk tpos) Q) X.xe { s1 with heap := h' } := fun h' he hit hk => by
      refine wpAny_pyIter_enum he ?_
      refine ⟨s1.heap.objs.size + 1, [s1.heap.objs.size + 1, s1.heap.objs.size], _, _, H1, rfl, I1.kept (t' := s1.toks) hk, turn_enumA b a (s1.heap.objs.size + 1) s1.heap.objs.size (Nat.ne_of_lt hlt) (Nat.ne_of_lt (Nat.lt_succ_of_lt hlt)), ⟨⟨.none, he⟩, hit, Nat.succ_ne_self _⟩, fun c hc => ?_, q⟩
      have hle : s1.heap.objs.size ≤ c := by
        rcases (show c = s1.heap.objs.size + 1 ∨ c = s1.heap.objs.size by simpa using hc) with z | z
        · rw [z]; exact Nat.le_add_right _ _
        · rw [z]; exact Nat.le_refl _
      exact I1.fpOk hle (I1.hok.fresh hle)
    obtain ⟨its, rv, p'⟩ := sqA_at I1 h2
    cases b with
    | true => exact mp_enum_begins (begins_tuple a its.toArray) p' fun h' he ho hk => fin h' he ⟨_, ho, rfl, rfl⟩ hk
    | false => exact mp_enum_begins (begins_list a its.toArray) p' fun h' he ho hk => fin h' he ⟨_, ho, rfl, rfl⟩ hk
theorem zip_itL {φ0 : List Addr} {H0 : Hp} {a a' : Addr} {ds es : List PV} {ws ws' : Wat} (h : Stands R φ0 H0 false a ds ws) (h' : Stands R φ0 H0 false a' es ws') : ItRep R φ0 H0 ((ds.zip es).map fun p => .tup [p.1, p.2]) (ws ++ ws') (Itz R.K a a') := fun hid hd i φ st H s S T hw => by
  rw [List.all_append, Bool.and_eq_true] at hw
  obtain ⟨vs, h1, h2⟩ := h hid hd φ st H s S hw.1
  obtain ⟨us, k1, k2⟩ := h' hid hd φ st H s S hw.2
  have hl := h2.length
  have kl := k2.length
  refine ⟨fun hi => ⟨vs, us, h1, k1, by simp only [List.length_map, List.length_zip] at hi; omega⟩, fun d hd => ?_⟩
  rw [List.getElem?_map] at hd
  cases q : (ds.zip es)[i]? with
  | none => rw [q] at hd; cases hd
  | some d0 =>
    rw [q] at hd
    cases hd
    obtain ⟨q1, q2⟩ := List.getElem?_zip_eq_some.mp q
    obtain ⟨v, g1, g2⟩ := h2.get q1
    obtain ⟨u, m1, m2⟩ := k2.get q2
    refine ⟨⟨vs, us, v, u, h1, k1, g1, m1⟩, fun x H' y => ?_⟩
    obtain ⟨T', x', y', rfl, hT, rfl, y1, y2⟩ := y
    have e := y1 vs h1
    rw [g1] at e
    cases e
    have e := y2 us k1
    rw [m1] at e
    cases e
    exact ⟨step_new hT, S.new hT, T.new hT, T', _, rfl, .inl ⟨upd_same, S.fresh hT, fun ps z => by cases z⟩, by show 2 ≤ SZ; decide, _, _, rfl, g2.step (step_new hT), _, _, rfl, m2.step (step_new hT), rfl⟩
theorem zip_itT {φ0 : List Addr} {H0 : Hp} {a a' : Addr} {ds es : List PV} {ws ws' : Wat} (h : Stands R φ0 H0 true a ds ws) (h' : Stands R φ0 H0 true a' es ws') : ItRep R φ0 H0 ((ds.zip es).map fun p => .tup [p.1, p.2]) (ws ++ ws') (RZ.ItzT R.K a a') := fun hid hd i φ st H s S T hw => by
  rw [List.all_append, Bool.and_eq_true] at hw
  obtain ⟨vs, h1, h2⟩ := h hid hd φ st H s S hw.1
  obtain ⟨us, k1, k2⟩ := h' hid hd φ st H s S hw.2
  have hl := h2.length
  have kl := k2.length
  refine ⟨fun hi => ⟨vs, us, h1, k1, by simp only [List.length_map, List.length_zip] at hi; omega⟩, fun d hd => ?_⟩
  rw [List.getElem?_map] at hd
  cases q : (ds.zip es)[i]? with
  | none => rw [q] at hd; cases hd
  | some d0 =>
    rw [q] at hd
    cases hd
    obtain ⟨q1, q2⟩ := List.getElem?_zip_eq_some.mp q
    obtain ⟨v, g1, g2⟩ := h2.get q1
    obtain ⟨u, m1, m2⟩ := k2.get q2
    refine ⟨⟨vs, us, v, u, h1, k1, g1, m1⟩, fun x H' y => ?_⟩
    obtain ⟨T', x', y', rfl, hT, rfl, y1, y2⟩ := y
    have e := y1 vs h1
    rw [g1] at e
    cases e
    have e := y2 us k1
    rw [m1] at e
    cases e
    exact ⟨step_new hT, S.new hT, T.new hT, T', _, rfl, .inl ⟨upd_same, S.fresh hT, fun ps z => by cases z⟩, by show 2 ≤ SZ; decide, _, _, rfl, g2.step (step_new hT), _, _, rfl, m2.step (step_new hT), rfl⟩
theorem stands_kind {φ : List Addr} {st : Sto} {H : Hp} {d : PV} {x : V} {ds : List PV} {ws : Wat} (S : RepS R φ st H) (r : RepV R φ H d x) (e : asS d st = .ok ds st) (ew : watOf d st = .ok ws st) : ∃ a, x = .ref a ∧ Stands R φ H (isTupB d) a ds ws ∧ ∃ vs, SqA R.K (isTupB d) H a vs ∧ RepL R φ H ds vs := by
  cases d with
  | tup xs =>
    cases e
    cases ew
    obtain ⟨a, vs, rfl, t, z, q⟩ := r
    exact ⟨a, rfl, fun hid hd φ' st' H' s S' _ => ⟨vs, (t.hide s hd).sq, RepL.hide s hd _ _ q⟩, vs, t.sq, q⟩
  | scr ns =>
    cases e
    cases ew
    obtain ⟨a, o, rfl, t, z⟩ := r
    exact ⟨a, rfl, fun hid hd φ' st' H' s S' _ => ⟨_, (t.step s).sq, RepL.ints⟩, _, t.sq, RepL.ints⟩
  | lst xs =>
    cases e
    cases ew
    obtain ⟨a, vs, rfl, t, z, q⟩ := r
    exact ⟨a, rfl, fun hid hd φ' st' H' s S' _ => ⟨vs, .inl (.inl (t.step s).1), RepL.hide s hd _ _ q⟩, vs, .inl (.inl t.1), q⟩
  | loc n =>
    obtain ⟨a, ha, rfl⟩ := r
    cases q : st[n]? with
    | none => unfold asS at e; simp only [q] at e; cases e
    | some m =>
      unfold asS at e
      unfold watOf at ew
      simp only [q] at e ew
      cases m with
      | lst xs =>
        cases e
        cases ew
        obtain ⟨vs, h1, h2, h3⟩ := S.at_ n _ a q ha
        refine ⟨a, rfl, fun hid hd φ' st' H' s S' hw => ?_, vs, .inl (.inl h1), h3⟩
        simp only [List.all_cons, List.all_nil, Bool.and_true, decide_eq_true_eq] at hw
        obtain ⟨vs', g1, g2, g3⟩ := S'.at_ n _ a hw (get_pre s.pre ha)
        exact ⟨vs', .inl (.inl g1), g3⟩
      | _ => cases e
  | _ => cases e
def zipM (x y : PV) : M (List PV × Wat) := M.grd (isTupB x == isTupB y) <| M.bnd (asS x) fun xs => M.bnd (asS y) fun ys => M.bnd (watOf x) fun w => M.bnd (watOf y) fun w' => M.ret ((xs.zip ys).map fun p => .tup [p.1, p.2], w ++ w')
theorem i_zip {e e2 : Expr} {me m2 : Env → M PV} {p pos tpos : Pos} {elts : List Expr} {kk : Nat} (hK : R.K = X.K) (hg : Gl X "zip") (hm : X.mg "zip" = none) (ha : PA X [e, e2] (tMA' R G W fun ρ => M.bnd (me ρ) fun x => M.bnd (M.bnd (m2 ρ) fun x => M.bnd (M.ret []) fun xs => M.ret (x :: xs)) fun xs => M.ret (x :: xs)))
    (hs : starEach [e, e2] X.env = (false, eval e X.env) :: starEach [e2] X.env) (hpl : (backTo pos (starEach [e2] X.env)).any (·.1) = false) :
    PI X (.Tuple elts kk tpos) (.Call (.Name "zip" p) [e, e2] [] pos) (tI R G W fun ρ => M.bnd (me ρ) fun x => M.bnd (m2 ρ) fun y => zipM x y) :=
  (RZ.pi_zipA hg hm ha hs hpl).imp fun σ H Q ⟨φ, st, ρ, S, E, T, h⟩ => by
    have h' : Post R W σ φ H (AI R) (M.bnd (M.bnd (me ρ) fun x => M.bnd (M.bnd (m2 ρ) fun x => M.bnd (M.ret []) fun xs => M.ret (x :: xs)) fun xs => M.ret (x :: xs)) (fun xs => match xs with
      | [x, y] => zipM x y
      | _ => M.bad) st) Q := by
      rw [bnd_ret]
      simp only [bnd_ret]
      exact h
    refine ⟨φ, st, ρ, S, E, T, Post.mono (Post.bnd (A := RepL R) h') fun vs H1 ⟨φ1, st1, ds, s1, S1, T1, r1, p1⟩ => ?_⟩
    match ds, vs, r1, p1 with
    | [], _, _, p1 => exact p1.elim
    | [_], _, _, p1 => exact p1.elim
    | [d, e], vs, r1, p1 =>
      obtain ⟨v, r, rfl, g1, w, r', rfl, g2, rfl⟩ := r1
      have p1 : Post R W σ φ1 H1 (AI R) (zipM d e st1) Q := p1
      unfold zipM M.grd at p1
      cases q : isTupB d == isTupB e with
      | false => rw [q] at p1; exact p1.elim
      | true =>
        rw [q] at p1
        obtain ⟨xs, e1, p1⟩ := Post.look NoX.asS (fun _ _ e => asS_same e) p1
        obtain ⟨ys, e2, p1⟩ := Post.look NoX.asS (fun _ _ e => asS_same e) p1
        obtain ⟨ws, e3, p1⟩ := Post.look NoX.watOf (fun _ _ e => watOf_same e) p1
        obtain ⟨ws', e4, p1⟩ := Post.look NoX.watOf (fun _ _ e => watOf_same e) p1
        obtain ⟨a, rfl, h1, vs, h2, _⟩ := stands_kind S1 g1 e1 e3
        obtain ⟨a', rfl, k1, us, k2, _⟩ := stands_kind S1 g2 e2 e4
        refine ⟨a, a', vs, us, rfl, ?_⟩
        have q := eq_of_beq q
        rw [← q] at k1 k2
        rw [hK] at h2 k2
        cases hb : isTupB d with
        | false =>
          rw [hb] at h1 h2 k1 k2
          have z := zip_itL h1 k1
          rw [hK] at z
          exact .inl ⟨h2, k2, p1 φ1 H1 _ (Step.refl _ _) S1 T1 z⟩
        | true =>
          rw [hb] at h1 h2 k1 k2
          have z := zip_itT h1 k1
          rw [hK] at z
          exact .inr ⟨h2, k2, p1 φ1 H1 _ (Step.refl _ _) S1 T1 z⟩
    | _ :: _ :: _ :: _, _, _, p1 => exact p1.elim
end
end Mp
namespace Mp
open PySem PySem.Spec PyProof.Rows L2
theorem okS_char {z : Str} {c : Nat} (h : okS z = true) (m : c ∈ z.cps.toList) : okS ⟨#[c]⟩ = true := by
  have all := okS_cps h
  unfold okS
  rw [Bool.and_eq_true]
  refine ⟨by show decide (1 ≤ SZ) = true; decide, ?_⟩
  have q := Array.all_eq_true_iff_forall_mem.mp all c (by simpa using m)
  simp only [List.all_toArray, List.all_cons, List.all_nil, Bool.and_true]
  exact q
theorem okS_sub {z : Str} {l : List Nat} (h : okS z = true) (hs : ∀ c ∈ l, c ∈ z.cps.toList) (hl : l.length ≤ z.cps.toList.length) : okS ⟨l.toArray⟩ = true := by
  have all := okS_cps h
  have len := okS_len h
  unfold okS
  rw [Bool.and_eq_true]
  refine ⟨decide_eq_true ?_, ?_⟩
  · show l.toArray.size ≤ SZ
    rw [List.size_toArray]
    have : z.length = z.cps.toList.length := by simp [Str.length]
    omega
  · rw [Array.all_eq_true_iff_forall_mem]
    intro c hc
    exact Array.all_eq_true_iff_forall_mem.mp all c (by simpa using hs c (by simpa using hc))
theorem sIx_ht {n d : Nat} {o : Option Int} : HT.sIx n d o = HT.sIx n d o := by
  cases o <;> rfl
section
variable {X : Cx} {R : Rc} {G : Gm} {W : WX}
theorem _root_.L2.IxR.imp {r r' : R2} (h : IxR X r) (k : ∀ x y H Q, r' x y H Q → r x y H Q) : IxR X r' := fun value slice pins s σ H x y v u Q I rx ry q hs => h value slice pins s σ H x y v u Q I rx ry (k x y H Q q) hs
theorem RepL.atI {φ : List Addr} {H : Hp} {ds : List PV} {vs : List V} {k : Int} {d : PV} (h : RepL R φ H ds vs) (e : L2.atI ds k = some d) : ∃ v, L2.atI vs k = some v ∧ RepV R φ H d v := by
  unfold L2.atI at e
  cases q : L2.ixN ds.length k with
  | none => rw [q] at e; cases e
  | some j =>
    rw [q] at e
    obtain ⟨v, h1, h2⟩ := h.get (i := j) e
    refine ⟨v, ?_, h2⟩
    rw [h.length] at q
    show (L2.ixN vs.length k).bind (fun j => vs[j]?) = some v
    rw [q]
    exact h1
theorem optV_ok {φ : List Addr} {H : Hp} {st : Sto} {o : Option PV} {Q : VK} (p : PostN R φ H (RepV R) (M.opt o st) Q) : ∃ d, o = some d ∧ PostN R φ H (RepV R) (M.ret d st) Q := by
  cases o with
  | none => exact p.elim
  | some d => exact ⟨d, rfl, p⟩
theorem NoX.ixV {x y : PV} : NoX (ixV x y) := by
  unfold Mp.ixV
  split
  · intro st c v s e
    split at e
    · exact NoX.opt _ _ _ _ e
    · exact (NoX.bnd NoX.asS fun _ => NoX.opt) _ _ _ _ e
  · exact NoX.bad
theorem ix_ok (hK : R.K = X.K) : IxR X (rM R ixV) := ix_seq.imp fun x y H Q ⟨φ, st, d, e, S, T, rd, re, p⟩ => by
  cases e with
  | int k =>
    have seq : PostN R φ H (RepV R) (M.bnd (asS d) (fun xs => M.opt (L2.atI xs k)) st) Q → rIx X.K x y H Q := fun p => by
      obtain ⟨a, ds, vs, rfl, hs, hz, rl, p⟩ := bndS_ok S rd p
      obtain ⟨d0, e0, p⟩ := optV_ok p
      obtain ⟨v, h1, h2⟩ := rl.atI e0
      rw [hK] at hs
      rcases hs with hs | hs
      · exact .inl ⟨a, vs, k, v, rfl, re, hs, h1, p.here S T h2⟩
      · exact .inr (.inl ⟨a, vs, k, v, rfl, re, hs, h1, p.here S T h2⟩)
    cases d with
    | str z =>
      have p : PostN R φ H (RepV R) (M.opt ((L2.atI z.cps.toList k).map fun c => PV.str ⟨#[c]⟩) st) Q := p
      obtain ⟨d0, e0, p⟩ := optV_ok p
      cases q : L2.atI z.cps.toList k with
      | none => rw [q] at e0; cases e0
      | some c =>
        rw [q] at e0
        cases e0
        refine .inr (.inr ⟨z, k, c, rd.1, re, by rw [sz_eq]; exact okS_len rd.2, q, p.here S T ⟨rfl, okS_char rd.2 ?_⟩⟩)
        unfold L2.atI at q
        cases q2 : L2.ixN z.cps.toList.length k with
        | none => rw [q2] at q; cases q
        | some j => rw [q2] at q; exact List.mem_of_getElem? q
    | _ => exact seq p
  | _ => exact False.elim p
theorem s_ix {a b : Expr} {pos : Pos} {ma mb : Env → M PV} (hK : R.K = X.K) (ha : PE X a (tM R G W ma)) (hb : PE X b (tM R G W mb)) (hs : PlainIx b) : PE X (.Subscript a b pos) (tM R G W fun ρ => M.bnd (ma ρ) fun x => M.bnd (mb ρ) fun y => ixV x y) :=
  (pe_ix (ix_ok hK) ha hb hs).imp fun σ H Q ⟨φ, st, ρ, S, E, T, h⟩ => tM.then (f := fun ρ x => M.bnd (mb ρ) fun y => ixV x y) S E T h fun φ1 st1 d v H1 s1 S1 E1 T1 r1 p1 =>
    tM.then (f := fun ρ y => ixV d y) S1 E1 T1 p1 fun φ2 st2 e u H2 s2 S2 E2 T2 r2 p2 => ⟨φ2, st2, d, e, S2, T2, r1.step s2, r2, p2.n NoX.ixV⟩
theorem asDct_ok {α β : Type} {A : List Addr → Hp → α → β → Prop} {φ : List Addr} {H : Hp} {st : Sto} {d : PV} {x : V} {f : List (PV × PV) → M α} {Q : β → Hp → Prop} (r : RepV R φ H d x) (p : PostN R φ H A (M.bnd (asDct d) f st) Q) :
    ∃ n a kvs, d = .loc n ∧ φ[n]? = some a ∧ x = .ref a ∧ st[n]? = some (.dct kvs) ∧ PostN R φ H A (f kvs st) Q := by
  unfold M.bnd asDct at p
  cases d with
  | loc n =>
    obtain ⟨a, ha, rfl⟩ := r
    cases q : st[n]? with
    | none => simp only [q] at p; exact p.elim
    | some m =>
      simp only [q] at p
      cases m with
      | dct kvs => exact ⟨n, a, kvs, rfl, ha, rfl, q, p⟩
      | _ => exact False.elim p
  | _ => exact False.elim p
theorem NoX.asDct {x : PV} : NoX (asDct x) := fun st c v s e => by
  unfold Mp.asDct at e
  repeat' (first | (cases e; done) | split at e)
theorem NoX.dgetV {cts : List PV} {x y : PV} : NoX (dgetV cts x y) := NoX.bnd NoX.asDct fun _ => NoX.grd NoX.opt
theorem dct_found {φ : List Addr} {H : Hp} {st : Sto} {n : Nat} {a : Addr} {kvs : List (PV × PV)} {k d : PV} {v : V} (S : RepS R φ st H) (e : st[n]? = some (.dct kvs)) (ha : φ[n]? = some a) (hk : kOk R.cts kvs k = true) (rk : RepV R φ H k v) (hf : kfind kvs k = some d) :
    ∃ u, DGet H a v (some u) ∧ RepV R φ H d u := by
  have ne : kvs ≠ [] := fun z => by rw [z] at hf; cases hf
  rcases kOk_split hk with ⟨h1, h2⟩ | ⟨h1, hc, h2⟩
  · obtain ⟨x, rfl, g2, rfl⟩ := isK_of h1 rk
    rcases S.at_ n _ a e ha with ⟨gs, q1, q2, q3⟩ | ⟨gs, q1, q2, q3⟩
    · rcases dct_find (fun _ _ z => pK_inj z) x q3 with ⟨z, _⟩ | ⟨d', u, z, w1, w2⟩
      · rw [hf] at z; cases z
      · rw [hf] at z
        cases z
        exact ⟨u, by have := DGet.k (k := x) q1; rw [w1] at this; exact this, w2⟩
    · exact absurd (dct_allK q3 h2).1 ne
  · obtain ⟨xs, b, rfl, g2, rfl, g4⟩ := isKT_of h1 hc rk
    rcases S.at_ n _ a e ha with ⟨gs, q1, q2, q3⟩ | ⟨gs, q1, q2, q3⟩
    · exact absurd (dct_allT q3 h2).1 ne
    · rcases dct_find (fun _ _ z => pT_inj z) xs q3 with ⟨z, _⟩ | ⟨d', u, z, w1, w2⟩
      · rw [hf] at z; cases z
      · rw [hf] at z
        cases z
        exact ⟨u, by have := DGet.t (k := xs) q1 g4.1; rw [w1] at this; exact this, w2⟩
theorem s_dget {o i : Expr} {pos : Pos} {mo mi : Env → M PV} (hu : X.A.units + 1 < cLine) (ho : PE X o (tM R G W mo)) (hi : PE X i (tM R G W mi)) (hs : NoSl i) : PE X (.Subscript o i pos) (tM R G W fun ρ => M.bnd (mo ρ) fun x => M.bnd (mi ρ) fun y => dgetV R.cts x y) :=
  (pe_dget hu ho hi hs).imp fun σ H Q ⟨φ, st, ρ, S, E, T, h⟩ => tM.then (f := fun ρ x => M.bnd (mi ρ) fun y => dgetV R.cts x y) S E T h fun φ1 st1 d v H1 s1 S1 E1 T1 r1 p1 =>
    tM.then (f := fun ρ y => dgetV R.cts d y) S1 E1 T1 p1 fun φ2 st2 e u H2 s2 S2 E2 T2 r2 p2 => by
      obtain ⟨n, a, kvs, rfl, ha, rfl, q, p3⟩ := asDct_ok (r1.step s2) (p2.n NoX.dgetV)
      obtain ⟨hk, p3⟩ := grd_ok p3
      obtain ⟨d0, hf, p3⟩ := optV_ok p3
      obtain ⟨w, g1, g2⟩ := dct_found S2 q ha hk r2 hf
      exact ⟨a, w, rfl, g1, p3.here S2 T2 g2⟩
theorem dct_has {pins : List (Addr × Obj)} {σ : L2.St} {H : Hp} {s : Shared} {φ : List Addr} {st : Sto} {n : Nat} {a : Addr} {kvs : List (PV × PV)} {k : PV} {v : V} (I : Inv X pins σ H s) (S : RepS R φ st H) (T : Tbs R H) (e : st[n]? = some (.dct kvs)) (ha : φ[n]? = some a) (hk : kOk R.cts kvs k = true) (rk : RepV R φ H k v) :
    ∃ H' o, Inv X pins σ H' s ∧ Step φ H φ H' ∧ RepS R φ st H' ∧ Tbs R H' ∧ DGet H' a v o ∧ ((kfind kvs k = none ∧ o = none) ∨ ∃ d u, kfind kvs k = some d ∧ o = some u ∧ RepV R φ H' d u) := by
  obtain ⟨H', I', s', S', T', _, g⟩ := dct_kind I S T e ha hk rk
  rcases g with ⟨gs, x, q1, q2, q3, rfl, q5, rfl⟩ | ⟨gs, xs, b, q1, q2, q3, rfl, q5, rfl, q7⟩
  · refine ⟨H', _, I', s', S', T', DGet.k q1, ?_⟩
    rcases dct_find (fun _ _ z => pK_inj z) x q3 with ⟨z, w⟩ | ⟨d', u, z, w1, w2⟩
    · exact .inl ⟨z, w⟩
    · exact .inr ⟨d', u, z, w1, w2⟩
  · refine ⟨H', _, I', s', S', T', DGet.t q1 q7, ?_⟩
    rcases dct_find (fun _ _ z => pT_inj z) xs q3 with ⟨z, w⟩ | ⟨d', u, z, w1, w2⟩
    · exact .inl ⟨z, w⟩
    · exact .inr ⟨d', u, z, w1, w2⟩
def tMO (R : Rc) (G : Gm) (W : WX) (m : Env → M (Option Int)) : TO := fun σ H Q => ∃ φ st ρ, RepS R φ st H ∧ RepE R G φ H ρ σ ∧ Tbs R H ∧ Post R W σ φ H (fun _ _ (a b : Option Int) => a = b) (m ρ st) Q
theorem _root_.L2.PO.imp {e : Option Expr} {t t' : TO} (h : PO X e t) (k : ∀ σ H Q, t' σ H Q → t σ H Q) : PO X e t' := ⟨fun pins s σ H Q I q => h.run pins s σ H Q I (k σ H Q q)⟩
theorem o_none : PO X none (tMO R G W fun _ => M.ret none) := po_none.imp fun σ H Q ⟨φ, st, ρ, S, E, T, h⟩ => h φ H none (Step.refl _ _) S T rfl
def partM (x : PV) : M (Option Int) := match x with
  | .int i => M.ret (some i)
  | _ => M.bad
theorem o_some {e : Expr} {me : Env → M PV} (he : PE X e (tM R G W me)) : PO X (some e) (tMO R G W fun ρ => M.bnd (me ρ) partM) :=
  (po_some he).imp fun σ H Q ⟨φ, st, ρ, S, E, T, h⟩ => ⟨φ, st, ρ, S, E, T, Post.mono (Post.bnd h) fun v H1 ⟨φ1, st1, d, s1, S1, T1, r1, p1⟩ => by
    cases d with
    | int i => exact ⟨i, r1, p1 φ1 H1 _ (Step.refl _ _) S1 T1 rfl⟩
    | _ => exact False.elim p1⟩
theorem NoX.asL2 {x : PV} : NoX (asL2 x) := by
  unfold Mp.asL2
  split
  · exact NoX.ret _
  · exact NoX.asL
theorem NoX.slcV {m : Bool} {x : PV} {lo hi : Option Int} : NoX (slcV m x lo hi) := by
  unfold Mp.slcV
  split
  · exact NoX.ret _
  · exact NoX.ret _
  · exact NoX.bnd NoX.asL2 fun _ => NoX.newL
theorem asL2_ok {φ : List Addr} {H : Hp} {st : Sto} {d : PV} {x : V} {f : List PV → M PV} {Q : VK} (S : RepS R φ st H) (r : RepV R φ H d x) (p : PostN R φ H (RepV R) (M.bnd (asL2 d) f st) Q) :
    ∃ a ds vs, x = .ref a ∧ SqL R.K H a vs ∧ vs.length ≤ SZ ∧ RepL R φ H ds vs ∧ PostN R φ H (RepV R) (f ds st) Q := by
  have norm : PostN R φ H (RepV R) (M.bnd (asL d) f st) Q → ∃ a ds vs, x = .ref a ∧ SqL R.K H a vs ∧ vs.length ≤ SZ ∧ RepL R φ H ds vs ∧ PostN R φ H (RepV R) (f ds st) Q := fun p => by
    obtain ⟨a, ds, vs, h1, h2, h3, h4, h5⟩ := bndL_ok S r p
    exact ⟨a, ds, vs, h1, .inl (.inl h2), h3, h4, h5⟩
  cases d with
  | scr ns =>
    obtain ⟨a, o, rfl, t, z⟩ := r
    exact ⟨a, _, _, rfl, t.sq, by rw [List.length_map]; exact z, RepL.ints, p⟩
  | _ => exact norm p
theorem RepL.cut {φ : List Addr} {H : Hp} {ds : List PV} {vs : List V} {lo hi : Option Int} (h : RepL R φ H ds vs) : RepL R φ H (Mp.cut ds lo hi) (cutV vs lo hi) := by
  unfold Mp.cut cutV
  rw [h.length]
  exact (h.drop _).take _
theorem cut_all {ds : List PV} {vs : List V} {lo hi : Option Int} (hl : ds.length = vs.length) (h : HT.sIx vs.length 0 lo = 0 ∧ HT.sIx vs.length vs.length hi = vs.length) : Mp.cut ds lo hi = ds := by
  unfold Mp.cut
  rw [hl, h.1, h.2, List.drop_zero, Nat.sub_zero, ← hl, List.take_length]
theorem cut_mem {α : Type} {xs : List α} {lo hi : Option Int} {x : α} (h : x ∈ Mp.cut xs lo hi) : x ∈ xs := List.mem_of_mem_drop (List.mem_of_mem_take h)
theorem cut_len {α : Type} {xs : List α} {lo hi : Option Int} : (Mp.cut xs lo hi).length ≤ xs.length := by
  unfold Mp.cut
  rw [List.length_take, List.length_drop]
  omega
theorem slc_ok (hK : R.K = X.K) (m : Bool) : SlR X fun x lo hi H Q => ∃ φ st d, RepS R φ st H ∧ Tbs R H ∧ RepV R φ H d x ∧ PostN R φ H (RepV R) (slcV m d lo hi st) Q := by
  intro pins s σ H x v vl vu lo hi sl Q I rx hs pl pu ⟨φ, st, d, S, T, rd, p⟩
  have lists : PostN R φ H (RepV R) (M.bnd (asL2 d) (fun xs => newL m (Mp.cut xs lo hi)) st) Q → ∃ T id, typeLookup (.type T) "__getitem__" = pure (some (.builtin id)) ∧ s.TypeIs v T ∧ wpAny (model X.prog X.w) X.A (getItem v (.ref sl)) (EP X pins σ Q) X.xe s := fun p => by
    obtain ⟨a, ds, vs, rfl, h1, h2, h3, p⟩ := asL2_ok S rd p
    obtain ⟨_, q⟩ := newL_ok S T h3.cut p
    rw [hK] at h1
    exact sl_list pins s σ H _ v vl vu lo hi sl Q I rx hs pl pu ⟨a, vs, rfl, h1, q⟩
  cases d with
  | str z =>
    obtain ⟨rfl, hz⟩ := rd
    refine sl_str pins s σ H _ v vl vu lo hi sl Q I rx hs pl pu ⟨z, rfl, by rw [sz_eq]; exact okS_len hz, ?_⟩
    have e : cutS z lo hi = (⟨(Mp.cut z.cps.toList lo hi).toArray⟩ : Str) := by
      unfold Mp.cut cutS
      skip
      have : z.cps.toList.length = z.length := by simp [Str.length]
      rw [this]
    rw [e]
    exact p φ H _ (Step.refl _ _) S T ⟨rfl, okS_sub hz (fun c hc => cut_mem hc) cut_len⟩
  | tup xs =>
    have rd0 := rd
    obtain ⟨a, vs, rfl, t, z, q⟩ := rd
    refine sl_tupA pins s σ H _ v vl vu lo hi sl Q I rx hs pl pu ⟨a, vs, rfl, by rw [← hK]; exact t.sq, fun e => ?_, fun e b hb => ?_⟩
    · have e2 := cut_all (ds := xs) q.length e
      have p : PostN R φ H (RepV R) (M.ret (.tup (Mp.cut xs lo hi)) st) Q := p
      rw [e2] at p
      exact p.here S T rd0
    · refine p φ _ _ (step_new hb) (S.new hb) (T.new hb) ⟨b, _, rfl, .inl ⟨upd_same, S.fresh hb, fun ps z => by cases z⟩, Nat.le_trans (cutV_length vs lo hi) z, ?_⟩
      exact (RepL.step (step_new hb) _ _ q).cut
  | _ => exact lists p
theorem s_slc {m : Bool} {e : Expr} {lo hi : Option Expr} {pos p2 : Pos} {me : Env → M PV} {ml mh : Env → M (Option Int)} (hK : R.K = X.K) (he : PE X e (tM R G W me)) (hl : PO X lo (tMO R G W ml)) (hh : PO X hi (tMO R G W mh)) :
    PE X (.Subscript e (.Slice lo hi none p2) pos) (tM R G W fun ρ => M.bnd (me ρ) fun x => M.bnd (ml ρ) fun l => M.bnd (mh ρ) fun h => slcV m x l h) :=
  (pe_slice (slc_ok (R := R) hK m) he hl hh).imp fun σ H Q ⟨φ, st, ρ, S, E, T, h⟩ => tM.then (f := fun ρ x => M.bnd (ml ρ) fun l => M.bnd (mh ρ) fun h => slcV m x l h) S E T h fun φ1 st1 d v H1 s1 S1 E1 T1 r1 p1 =>
    ⟨φ1, st1, ρ, S1, E1, T1, Post.mono (Post.bnd p1) fun l H2 ⟨φ2, st2, l', s2, S2, T2, r2, p2⟩ => by
      have r2 : l' = l := r2
      subst r2
      exact ⟨φ2, st2, ρ, S2, E1.step s2, T2, Post.mono (Post.bnd p2) fun h H3 ⟨φ3, st3, h', s3, S3, T3, r3, p3⟩ => by
        have r3 : h' = h := r3
        subst r3
        exact ⟨φ3, st3, d, S3, T3, (r1.step s2).step s3, p3.n NoX.slcV⟩⟩⟩
end
end Mp
namespace Mp
open PySem PySem.Spec PyProof.Rows L2
section
variable {X : Cx} {R : Rc}
theorem inD_ok {φ : List Addr} {H : Hp} {st : Sto} {d e : PV} {x y : V} {Q : Bool → Hp → Prop} (S : RepS R φ st H) (T : Tbs R H) (rd : RepV R φ H d x) (re : RepV R φ H e y) (p : PostN R φ H AB (inD d e st) Q) :
    ∃ (C D : PyData) (es : List PyData), Dp R.K H y C ∧ C.canLay0 = true ∧ Dp R.K H x D ∧ D.canLay0 = true ∧ D.depth ≤ 60 ∧ (C = .list es ∨ C = .tuple es) ∧ Q (es.any fun e => PyData.eqv e D) H := by
  unfold inD at p
  obtain ⟨C, h1, h2, p⟩ := bndD_ok S re p
  obtain ⟨D, g1, g2, p⟩ := bndD_ok S rd p
  obtain ⟨hd, p⟩ := grdB_ok p
  have hd := of_decide_eq_true hd
  cases C with
  | list es => exact ⟨_, D, es, h1, h2, g1, g2, hd, .inl rfl, p.hereB S T⟩
  | tuple es => exact ⟨_, D, es, h1, h2, g1, g2, hd, .inr rfl, p.hereB S T⟩
  | _ => exact False.elim p
theorem dct0 {pins : List (Addr × Obj)} {σ : L2.St} {H : Hp} {s : Shared} {φ : List Addr} {st : Sto} {d : PV} {x : V} (I : Inv X pins σ H s) (S : RepS R φ st H) (T : Tbs R H) (r : RepV R φ H d x) (h : isD0 st d = true) :
    ∃ H' a, x = .ref a ∧ Inv X pins σ H' s ∧ Step φ H φ H' ∧ RepS R φ st H' ∧ Tbs R H' ∧ (∀ b, H b = some (.dK []) → H' b = some (.dK [])) ∧ H' a = some (.dK []) := by
  cases d with
  | loc n =>
    unfold isD0 at h
    obtain ⟨a, ha, rfl⟩ := r
    cases e : st[n]? with
    | none => simp [e] at h
    | some m =>
      cases m with
      | dct kvs =>
        cases kvs with
        | nil =>
          rcases S.at_ n _ a e ha with ⟨gs, q1, q2, q3⟩ | ⟨gs, q1, q2, q3⟩
          · obtain rfl : gs = [] := q3
            exact ⟨H, a, rfl, I, Step.refl _ _, S, T, fun _ h => h, q1⟩
          · obtain rfl : gs = [] := q3
            have S' : RepS R φ (st.set n (.dct [])) (upd H a (.dK [])) := S.write ha (.inl ⟨[], upd_same, Nat.zero_le _, rfl⟩)
            rw [set_at e] at S'
            refine ⟨_, a, rfl, Inv.emptyK I q1, step_wr (List.mem_of_getElem? ha), S', T.upd S e ha, fun b h => ?_, upd_same⟩
            by_cases hb : b = a
            · rw [hb, upd_same]
            · rw [upd_ne hb]; exact h
        | cons _ _ => simp [e] at h
      | _ => simp [e] at h
  | _ => cases h
theorem eq_ok {cts : List PV} (hK : R.K = X.K) (hu : X.A.units + 64 < cLine) : OpR X (compareOp .Eq) (rMB R (cmpV cts .eq)) := by
  intro pins s σ H x y v u Q I rx ry ⟨φ, st, d, e, S, T, rd, re, p⟩
  unfold cmpV at p
  simp only at p
  by_cases hz : (isD0 st d && isD0 st e) = true
  · rw [if_pos hz] at p
    rw [Bool.and_eq_true] at hz
    obtain ⟨H1, a, rfl, I1, s1, S1, T1, k1, q1⟩ := dct0 I S T rd hz.1
    obtain ⟨H2, b, rfl, I2, s2, S2, T2, k2, q2⟩ := dct0 I1 S1 T1 (RepV.step s1 e y re) hz.2
    exact op_eq_dictA (by omega) pins s σ H2 _ _ v u Q I2 rx ry ⟨a, b, [], [], rfl, rfl, k2 a q1, q2, rfl, fun p hp => absurd hp (by simp), p φ H2 _ (s1.trans s2) S2 T2 rfl⟩
  · rw [if_neg hz] at p
    exact eqv_ok hK hu pins s σ H x y v u Q I rx ry ⟨φ, st, d, e, S, T, rd, re, p⟩
theorem min_le {a b n : Nat} (h : b ≤ n) : min a b ≤ n := Nat.le_trans (Nat.min_le_right _ _) h
theorem in_ok (hK : R.K = X.K) (hu : X.A.units + 64 < cLine) : OpR X (compareOp .In) (rMB R (inV R.cts)) := by
  intro pins s σ H x y v u Q I rx ry ⟨φ, st, d, e, S, T, rd, re, p⟩
  have data : PostN R φ H AB (inD d e st) (fun k H' => Q (.bl k) H') → wpAny (model X.prog X.w) X.A (compareOp .In v u) (EP X pins σ Q) X.xe s := fun p => by
    obtain ⟨C, D, es, h1, h2, g1, g2, hd, hc, q⟩ := inD_ok S T rd re p
    rw [hK] at h1 g1
    obtain ⟨as, r1⟩ := Dp.reads I C y u h1 ry
    obtain ⟨bs, r2⟩ := Dp.reads I D x v g1 rx
    rcases hc with rfl | rfl
    · exact SeqAt.in_list_reads r1 r2 h2 g2 (by have := min_le (a := PyData.depthAll es) hd; omega) ⟨.bl _, H, I, rfl, q⟩
    · exact SeqAt.in_tuple_reads r1 r2 h2 g2 (by have := min_le (a := PyData.depthAll es) hd; omega) ⟨.bl _, H, I, rfl, q⟩
  cases e with
  | str z =>
    have p : PostN R φ H AB (inT z d st) fun k H' => Q (.bl k) H' := p
    unfold inT at p
    split at p
    · rename_i c _
      exact op_in_sign pins s σ H x y v u Q I rx ry ⟨c, z, rd.1, re.1, p.hereB S T⟩
    · exact p.elim
  | loc n =>
    have p : PostN R φ H AB ((match st[n]? with
      | some (.dct kvs) => M.grd (kOk R.cts kvs d) (M.ret (kfind kvs d).isSome) st
      | _ => inD d (.loc n) st)) fun k H' => Q (.bl k) H' := p
    split at p
    · rename_i kvs q
      obtain ⟨hk, p⟩ := grdB_ok p
      obtain ⟨a, ha, rfl⟩ := re
      obtain ⟨H', o, I', s', S', T', dg, g⟩ := dct_has I S T q ha hk rd
      have hu2 : X.A.units + 1 < cLine := by omega
      obtain rfl : u = Value.ref a := ry
      refine d_in hu2 I' dg rx fun s2 I2 => ⟨.bl o.isSome, H', I2, rfl, ?_⟩
      have e : (kfind kvs d).isSome = o.isSome := by
        rcases g with ⟨g1, g2⟩ | ⟨_, _, g1, g2, _⟩
        · rw [g1, g2]
          rfl
        · rw [g1, g2]
          rfl
      rw [← e]
      exact p φ H' _ s' S' T' rfl
    · exact data p
  | _ => exact data p
theorem notin_ok (hK : R.K = X.K) (hu : X.A.units + 64 < cLine) : OpR X (compareOp .NotIn) (rMB R fun x y => M.bnd (inV R.cts x y) fun b => M.ret (!b)) := by
  intro pins s σ H x y v u Q I rx ry ⟨φ, st, d, e, S, T, rd, re, p⟩
  have p : PostN R φ H AB (inV R.cts d e st) fun k H' => Q (.bl (!k)) H' := by
    have p : PostN R φ H AB ((M.bnd (inV R.cts d e) fun b => M.ret (!b)) st) fun k H' => Q (.bl k) H' := p
    unfold M.bnd at p
    cases q : inV R.cts d e st with
    | ok k st' =>
      rw [q] at p
      intro φ' H' k' a b c r
      have r : k = k' := r
      subst r
      exact p φ' H' _ a b c rfl
    | exc c vs st' => exact (NoX.inV _ _ _ _ q).elim
    | bad => rw [q] at p; exact p.elim
  have data : PostN R φ H AB (inD d e st) (fun k H' => Q (.bl (!k)) H') → wpAny (model X.prog X.w) X.A (compareOp .NotIn v u) (EP X pins σ Q) X.xe s := fun p => by
    obtain ⟨C, D, es, h1, h2, g1, g2, hd, hc, q⟩ := inD_ok S T rd re p
    rw [hK] at h1 g1
    obtain ⟨as, r1⟩ := Dp.reads I C y u h1 ry
    obtain ⟨bs, r2⟩ := Dp.reads I D x v g1 rx
    rcases hc with rfl | rfl
    · exact SeqAt.notIn_list_reads r1 r2 h2 g2 (by have := min_le (a := PyData.depthAll es) hd; omega) ⟨.bl _, H, I, rfl, q⟩
    · exact SeqAt.notIn_tuple_reads r1 r2 h2 g2 (by have := min_le (a := PyData.depthAll es) hd; omega) ⟨.bl _, H, I, rfl, q⟩
  cases e with
  | str z =>
    have p : PostN R φ H AB (inT z d st) fun k H' => Q (.bl (!k)) H' := p
    unfold inT at p
    split at p
    · rename_i c _ _
      exact op_notIn_sign pins s σ H x y v u Q I rx ry ⟨c, z, rd.1, re.1, p.hereB S T⟩
    · exact p.elim
  | loc n =>
    have p : PostN R φ H AB ((match st[n]? with
      | some (.dct kvs) => M.grd (kOk R.cts kvs d) (M.ret (kfind kvs d).isSome) st
      | _ => inD d (.loc n) st)) fun k H' => Q (.bl (!k)) H' := p
    split at p
    · rename_i kvs q
      obtain ⟨hk, p⟩ := grdB_ok p
      obtain ⟨a, ha, rfl⟩ := re
      obtain ⟨H', o, I', s', S', T', dg, g⟩ := dct_has I S T q ha hk rd
      have hu2 : X.A.units + 1 < cLine := by omega
      obtain rfl : u = Value.ref a := ry
      refine d_notIn hu2 I' dg rx fun s2 I2 => ⟨.bl (!o.isSome), H', I2, rfl, ?_⟩
      have e : (kfind kvs d).isSome = o.isSome := by
        rcases g with ⟨g1, g2⟩ | ⟨_, _, g1, g2, _⟩
        · rw [g1, g2]
          rfl
        · rw [g1, g2]
          rfl
      rw [← e]
      exact p φ H' _ s' S' T' rfl
    · exact data p
  | _ => exact data p
theorem lt_ok {cts : List PV} (hK : R.K = X.K) (hu : X.A.units + 64 < cLine) : OpR X (compareOp .Lt) (rMB R (cmpV cts .lt)) := by
  intro pins s σ H x y v u Q I rx ry ⟨φ, st, d, e, S, T, rd, re, p⟩
  have data : PostN R φ H AB (M.bnd (asD d) (fun d => M.bnd (asD e) fun e => M.opt (lt2 d e)) st) (fun k H' => Q (.bl k) H') → wpAny (model X.prog X.w) X.A (compareOp .Lt v u) (EP X pins σ Q) X.xe s := fun p => by
    obtain ⟨D, h1, h2, p⟩ := bndD_ok S rd p
    obtain ⟨E, g1, g2, p⟩ := bndD_ok S re p
    rw [hK] at h1 g1
    obtain ⟨as, r1⟩ := Dp.reads I D x v h1 rx
    obtain ⟨bs, r2⟩ := Dp.reads I E y u g1 ry
    unfold lt2 at p
    by_cases hc : (PySem.W.alike D E && decide (min D.depth E.depth ≤ 60)) = true
    · rw [if_pos hc] at p
      rw [Bool.and_eq_true] at hc
      have hd := of_decide_eq_true hc.2
      have go : D ≠ .none → PostN R φ H AB (M.ret (PySem.W.dataLt D E) st) (fun k H' => Q (.bl k) H') → wpAny (model X.prog X.w) X.A (compareOp .Lt v u) (EP X pins σ Q) X.xe s := fun hn p => by
        exact PySem.W.rcLt_alike D E X.A s v u as bs r1 r2 hc.1 hn (by omega) X.prog X.w X.xe _ ⟨.bl _, H, I, rfl, p.hereB S T⟩
      cases D with
      | none => exact False.elim p
      | _ => exact go (fun z => by cases z) p
    · rw [if_neg hc] at p
      exact False.elim p
  cases d with
  | int i =>
    cases e with
    | int j => exact op_lt pins s σ H x y v u Q I rx ry ⟨i, j, rd, re, PostN.hereB S T p⟩
    | _ => exact data p
  | _ => cases e <;> exact data p
end
end Mp
namespace Mp
open PySem PySem.Spec PyProof.Rows L2
def rBF (R : Rc) (m : List PV → M PV) : List V → Hp → VK → Prop := fun xs H Q => ∃ φ st ds, RepS R φ st H ∧ Tbs R H ∧ RepL R φ H ds xs ∧ PostN R φ H (RepV R) (m ds st) Q
section
variable {X : Cx} {R : Rc} {G : Gm} {W : WX}
theorem _root_.L2.CallR.imp {f : Value} {r r' : List V → Hp → VK → Prop} (h : CallR X f r) (k : ∀ xs H Q, r' xs H Q → r xs H Q) : CallR X f r' := fun pins s σ H xs us Q I rx q => h pins s σ H xs us Q I rx (k xs H Q q)
theorem rBF.one {m : PV → M PV} {n : List PV → M PV} (hn : ∀ ds, n ds = match ds with
    | [d] => m d
    | _ => M.bad) {xs : List V} {H : Hp} {Q : VK} (h : rBF R n xs H Q) : ∃ φ st d x, xs = [x] ∧ RepS R φ st H ∧ Tbs R H ∧ RepV R φ H d x ∧ PostN R φ H (RepV R) (m d st) Q := by
  obtain ⟨φ, st, ds, S, T, r, p⟩ := h
  rw [hn] at p
  match ds, xs, r, p with
  | [], _, _, p => exact p.elim
  | [d], xs, r, p =>
    obtain ⟨v, r, rfl, g1, rfl⟩ := r
    exact ⟨φ, st, d, v, rfl, S, T, g1, p⟩
  | _ :: _ :: _, _, _, p => exact p.elim
theorem rBF.two {m : PV → PV → M PV} {n : List PV → M PV} (hn : ∀ ds, n ds = match ds with
    | [d, e] => m d e
    | _ => M.bad) {xs : List V} {H : Hp} {Q : VK} (h : rBF R n xs H Q) : ∃ φ st d e x y, xs = [x, y] ∧ RepS R φ st H ∧ Tbs R H ∧ RepV R φ H d x ∧ RepV R φ H e y ∧ PostN R φ H (RepV R) (m d e st) Q := by
  obtain ⟨φ, st, ds, S, T, r, p⟩ := h
  rw [hn] at p
  match ds, xs, r, p with
  | [], _, _, p => exact p.elim
  | [_], _, _, p => exact p.elim
  | [d, e], xs, r, p =>
    obtain ⟨v, r, rfl, g1, w, r', rfl, g2, rfl⟩ := r
    exact ⟨φ, st, d, e, v, w, rfl, S, T, g1, g2, p⟩
  | _ :: _ :: _ :: _, _, _, p => exact p.elim
theorem f_abs {m : Bool} : CallR X (.builtin "abs") (rBF R (bfV .abs m)) := call_abs.imp fun xs H Q h => by
  obtain ⟨φ, st, d, x, rfl, S, T, r, p⟩ := rBF.one (m := absV) (fun ds => by rcases ds with _ | ⟨d, _ | ⟨e, r⟩⟩ <;> rfl) h
  cases d with
  | int i => exact ⟨i, by rw [show x = V.int i from r], PostN.here S T p rfl⟩
  | _ => exact False.elim p
theorem f_int {m : Bool} : CallR X (.type "int") (rBF R (bfV .int m)) := call_int1.imp fun xs H Q h => by
  obtain ⟨φ, st, d, x, rfl, S, T, r, p⟩ := rBF.one (m := intV) (fun ds => by rcases ds with _ | ⟨d, _ | ⟨e, r⟩⟩ <;> rfl) h
  cases d with
  | int i => exact .inl ⟨i, by rw [show x = V.int i from r], PostN.here S T p rfl⟩
  | bl k => exact .inr ⟨k, by rw [show x = V.bl k from r], PostN.here S T p rfl⟩
  | _ => exact False.elim p
theorem two_ok {f : Int → Int → M PV} {φ : List Addr} {H : Hp} {st : Sto} {d e : PV} {Q : VK} (p : PostN R φ H (RepV R) (two f d e st) Q) : ∃ i j, d = .int i ∧ e = .int j ∧ PostN R φ H (RepV R) (f i j st) Q := by
  cases d with
  | int i =>
    cases e with
    | int j => exact ⟨i, j, rfl, rfl, p⟩
    | _ => exact False.elim p
  | _ => cases e <;> exact False.elim p
theorem f_min2 {m : Bool} (hc : X.calm = true) : CallR X (.builtin "min") (rBF R (bfV .min2 m)) := (call_min2 hc).imp fun xs H Q h => by
  obtain ⟨φ, st, d, e, x, y, rfl, S, T, r, r', p⟩ := rBF.two (m := two fun i j => M.ret (.int (if j < i then j else i))) (fun ds => by rcases ds with _ | ⟨d, _ | ⟨e, _ | ⟨f, r⟩⟩⟩ <;> rfl) h
  obtain ⟨i, j, rfl, rfl, p⟩ := two_ok p
  exact ⟨i, j, by rw [show x = V.int i from r, show y = V.int j from r'], PostN.here S T p rfl⟩
theorem f_max2 {m : Bool} (hc : X.calm = true) : CallR X (.builtin "max") (rBF R (bfV .max2 m)) := (call_max2 hc).imp fun xs H Q h => by
  obtain ⟨φ, st, d, e, x, y, rfl, S, T, r, r', p⟩ := rBF.two (m := two fun i j => M.ret (.int (if j > i then j else i))) (fun ds => by rcases ds with _ | ⟨d, _ | ⟨e, _ | ⟨f, r⟩⟩⟩ <;> rfl) h
  obtain ⟨i, j, rfl, rfl, p⟩ := two_ok p
  exact ⟨i, j, by rw [show x = V.int i from r, show y = V.int j from r'], PostN.here S T p rfl⟩
theorem f_divmod {m : Bool} : CallR X (.builtin "divmod") (rBF R (bfV .divmod m)) := call_divmod.imp fun xs H Q h => by
  obtain ⟨φ, st, d, e, x, y, rfl, S, T, r, r', p⟩ := rBF.two (m := two divmodV) (fun ds => by rcases ds with _ | ⟨d, _ | ⟨e, _ | ⟨f, r⟩⟩⟩ <;> rfl) h
  obtain ⟨i, j, rfl, rfl, p⟩ := two_ok p
  obtain ⟨hk, p⟩ := grd_ok p
  simp only [Bool.and_eq_true, decide_eq_true_eq] at hk
  refine ⟨i, j, by rw [show x = V.int i from r, show y = V.int j from r'], ⟨hk.1, by omega⟩, fun a ha => ?_⟩
  refine p φ _ _ (step_new ha) (S.new ha) (T.new ha) ⟨a, _, rfl, .inl ⟨upd_same, S.fresh ha, fun ps z => by cases z⟩, by show 2 ≤ SZ; decide, _, _, rfl, ?_, _, _, rfl, ?_, rfl⟩
  · show V.int (i / j) = V.int (i.fdiv j)
    rw [Int.fdiv_eq_ediv_of_nonneg _ (by omega)]
  · show V.int (i % j) = V.int (i.fmod j)
    rw [Int.fmod_eq_emod_of_nonneg _ (by omega)]
theorem loc_or {n : Nat} {st : Sto} {f g : Out PV} {φ : List Addr} {H : Hp} {Q : VK} (kk : List (PV × PV) → Out PV) (p : PostN R φ H (RepV R) (match st[n]? with
    | some (.dct kvs) => kk kvs
    | _ => g) Q) : (∃ kvs, st[n]? = some (.dct kvs) ∧ PostN R φ H (RepV R) (kk kvs) Q) ∨ PostN R φ H (RepV R) g Q := by
  cases q : st[n]? with
  | none => rw [q] at p; exact .inr p
  | some m =>
    rw [q] at p
    cases m with
    | dct kvs => exact .inl ⟨kvs, rfl, p⟩
    | lst xs => exact .inr p
    | ins c fs => exact .inr p
theorem f_len {m : Bool} (hK : R.K = X.K) : CallR X (.builtin "len") (rBF R (bfV .len m)) := by
  intro pins s σ H xs us Q I rx h
  obtain ⟨φ, st, d, x, rfl, S, T, r, p⟩ := rBF.one (m := lenV) (fun ds => by rcases ds with _ | ⟨d, _ | ⟨e, r⟩⟩ <;> rfl) h
  have seq : PostN R φ H (RepV R) (M.bnd (asS d) (fun ys => M.ret (.int ys.length)) st) Q → wpAny (model X.prog X.w) X.A (call (.builtin "len") us) (EP X pins σ Q) X.xe s := fun p => by
    obtain ⟨a, ds, vs, rfl, h1, h2, h3, p⟩ := bndS_ok S r p
    rw [hK] at h1
    refine call_len_seq pins s σ H _ us Q I rx ⟨a, vs, rfl, h1, ?_⟩
    rw [← h3.length]
    exact PostN.here S T p rfl
  cases d with
  | str z => exact call_len_str pins s σ H _ us Q I rx ⟨z, by rw [r.1], by rw [sz_eq]; exact okS_len r.2, PostN.here S T p rfl⟩
  | loc n =>
    rcases loc_or (f := .bad) (fun kvs => .ok (.int kvs.length) st) p with ⟨kvs, q, p⟩ | p
    · obtain ⟨a, ha, rfl⟩ := r
      rcases S.at_ n _ a q ha with ⟨gs, q1, q2, q3⟩ | ⟨gs, q1, q2, q3⟩
      · exact call_lenD pins s σ H _ us Q I rx ⟨a, gs, rfl, q1, by rw [← dct_len q3]; exact p φ H _ (Step.refl _ _) S T rfl⟩
      · exact call_len_dT pins s σ H _ us Q I rx ⟨a, gs, rfl, q1, by rw [← dct_len q3]; exact p φ H _ (Step.refl _ _) S T rfl⟩
    · exact seq p
  | _ => exact seq p
theorem ints_of {φ : List Addr} {H : Hp} : ∀ {ds : List PV} {vs : List V} {ns : List Int}, RepL R φ H ds vs → asInts ds = some ns → vs = ns.map V.int
  | [], _, _, r, e => by cases r; cases e; rfl
  | d :: ds, _, ns, r, e => by
    obtain ⟨v, r, rfl, g1, g2⟩ := r
    cases d with
    | int i =>
      unfold asInts at e
      cases q : asInts ds with
      | none => rw [q] at e; cases e
      | some ms =>
        rw [q] at e
        cases e
        rw [ints_of g2 q, show v = V.int i from g1]
        rfl
    | _ => cases e
theorem bls_of {φ : List Addr} {H : Hp} : ∀ {ds : List PV} {vs : List V} {ns : List Bool}, RepL R φ H ds vs → asBls ds = some ns → vs = ns.map V.bl
  | [], _, _, r, e => by cases r; cases e; rfl
  | d :: ds, _, ns, r, e => by
    obtain ⟨v, r, rfl, g1, g2⟩ := r
    cases d with
    | bl i =>
      unfold asBls at e
      cases q : asBls ds with
      | none => rw [q] at e; cases e
      | some ms =>
        rw [q] at e
        cases e
        rw [bls_of g2 q, show v = V.bl i from g1]
        rfl
    | _ => cases e
theorem opt_ok {α β γ : Type} {A : List Addr → Hp → α → β → Prop} {φ : List Addr} {H : Hp} {st : Sto} {o : Option γ} {f : γ → M α} {Q : β → Hp → Prop} (p : PostN R φ H A (M.bnd (M.opt o) f st) Q) : ∃ d, o = some d ∧ PostN R φ H A (f d st) Q := by
  cases o with
  | none => exact p.elim
  | some d => exact ⟨d, rfl, p⟩
theorem f_sum {m : Bool} (hK : R.K = X.K) (hc : X.calm = true) : CallR X (.builtin "sum") (rBF R (bfV .sum m)) := (cr_sum hc).imp fun xs H Q h => by
  obtain ⟨φ, st, d, x, rfl, S, T, r, p⟩ := rBF.one (m := fun x => M.bnd (asL2 x) fun ys => M.bnd (M.opt (asInts ys)) fun ns => M.ret (.int ns.sum)) (fun ds => by rcases ds with _ | ⟨d, _ | ⟨e, r⟩⟩ <;> rfl) h
  obtain ⟨a, ds, vs, rfl, h1, h2, h3, p⟩ := asL2_ok S r p
  obtain ⟨ns, e, p⟩ := opt_ok p
  rw [hK, ints_of h3 e] at h1
  exact ⟨a, ns, rfl, h1, PostN.here S T p rfl⟩
theorem f_all {m : Bool} (hK : R.K = X.K) (hc : X.calm = true) : CallR X (.builtin "all") (rBF R (bfV .all m)) := (cr_all hc).imp fun xs H Q h => by
  obtain ⟨φ, st, d, x, rfl, S, T, r, p⟩ := rBF.one (m := fun x => M.bnd (asL2 x) fun ys => M.bnd (M.opt (asBls ys)) fun ns => M.ret (.bl (ns.all id))) (fun ds => by rcases ds with _ | ⟨d, _ | ⟨e, r⟩⟩ <;> rfl) h
  obtain ⟨a, ds, vs, rfl, h1, h2, h3, p⟩ := asL2_ok S r p
  obtain ⟨ns, e, p⟩ := opt_ok p
  rw [hK, bls_of h3 e] at h1
  exact ⟨a, ns, rfl, h1, PostN.here S T p rfl⟩
theorem f_any {m : Bool} (hK : R.K = X.K) (hc : X.calm = true) : CallR X (.builtin "any") (rBF R (bfV .any m)) := (cr_any hc).imp fun xs H Q h => by
  obtain ⟨φ, st, d, x, rfl, S, T, r, p⟩ := rBF.one (m := fun x => M.bnd (asL2 x) fun ys => M.bnd (M.opt (asBls ys)) fun ns => M.ret (.bl (ns.any id))) (fun ds => by rcases ds with _ | ⟨d, _ | ⟨e, r⟩⟩ <;> rfl) h
  obtain ⟨a, ds, vs, rfl, h1, h2, h3, p⟩ := asL2_ok S r p
  obtain ⟨ns, e, p⟩ := opt_ok p
  rw [hK, bls_of h3 e] at h1
  exact ⟨a, ns, rfl, h1, PostN.here S T p rfl⟩
theorem minF {l : List Int} : ∀ (i : Int), (l.foldl (fun a b => if b < a then b else a) i ∈ i :: l) ∧ ∀ y ∈ i :: l, l.foldl (fun a b => if b < a then b else a) i ≤ y := by
  induction l with
  | nil => intro i; simp
  | cons b l ih =>
    intro i
    rw [List.foldl_cons]
    obtain ⟨h1, h2⟩ := ih (if b < i then b else i)
    by_cases hb : b < i
    · rw [if_pos hb] at h1 h2 ⊢
      refine ⟨List.mem_cons_of_mem _ h1, fun y hy => ?_⟩
      rcases List.mem_cons.mp hy with rfl | hy
      · exact Int.le_trans (h2 b (List.mem_cons_self ..)) (Int.le_of_lt hb)
      · exact h2 y hy
    · rw [if_neg hb] at h1 h2 ⊢
      refine ⟨?_, fun y hy => ?_⟩
      · rcases List.mem_cons.mp h1 with z | z
        · rw [z]; exact List.mem_cons_self ..
        · exact List.mem_cons_of_mem _ (List.mem_cons_of_mem _ z)
      · rcases List.mem_cons.mp hy with rfl | hy
        · exact h2 y (List.mem_cons_self ..)
        · rcases List.mem_cons.mp hy with rfl | hy
          · exact Int.le_trans (h2 i (List.mem_cons_self ..)) (Int.not_lt.mp hb)
          · exact h2 y (List.mem_cons_of_mem _ hy)
theorem maxF {l : List Int} : ∀ (i : Int), (l.foldl (fun a b => if b > a then b else a) i ∈ i :: l) ∧ ∀ y ∈ i :: l, y ≤ l.foldl (fun a b => if b > a then b else a) i := by
  induction l with
  | nil => intro i; simp
  | cons b l ih =>
    intro i
    rw [List.foldl_cons]
    obtain ⟨h1, h2⟩ := ih (if b > i then b else i)
    by_cases hb : b > i
    · rw [if_pos hb] at h1 h2 ⊢
      refine ⟨List.mem_cons_of_mem _ h1, fun y hy => ?_⟩
      rcases List.mem_cons.mp hy with rfl | hy
      · exact Int.le_trans (Int.le_of_lt hb) (h2 b (List.mem_cons_self ..))
      · exact h2 y hy
    · rw [if_neg hb] at h1 h2 ⊢
      refine ⟨?_, fun y hy => ?_⟩
      · rcases List.mem_cons.mp h1 with z | z
        · rw [z]; exact List.mem_cons_self ..
        · exact List.mem_cons_of_mem _ (List.mem_cons_of_mem _ z)
      · rcases List.mem_cons.mp hy with rfl | hy
        · exact h2 y (List.mem_cons_self ..)
        · rcases List.mem_cons.mp hy with rfl | hy
          · exact Int.le_trans (Int.not_lt.mp hb) (h2 i (List.mem_cons_self ..))
          · exact h2 y (List.mem_cons_of_mem _ hy)
theorem f_minL {m : Bool} (hK : R.K = X.K) (hc : X.calm = true) : CallR X (.builtin "min") (rBF R (bfV .minL m)) := (cr_min hc).imp fun xs H Q h => by
  obtain ⟨φ, st, d, x, rfl, S, T, r, p⟩ := rBF.one (m := fun x => M.bnd (asL2 x) fun ys => M.bnd (M.opt ((asInts ys).bind minI)) fun i => M.ret (.int i)) (fun ds => by rcases ds with _ | ⟨d, _ | ⟨e, r⟩⟩ <;> rfl) h
  obtain ⟨a, ds, vs, rfl, h1, h2, h3, p⟩ := asL2_ok S r p
  obtain ⟨i, e, p⟩ := opt_ok p
  cases q : asInts ds with
  | none => rw [q] at e; cases e
  | some ns =>
    rw [q] at e
    rw [hK, ints_of h3 q] at h1
    cases ns with
    | nil => cases e
    | cons n ns =>
      cases e
      obtain ⟨g1, g2⟩ := minF (l := ns) n
      refine ⟨a, n :: ns, rfl, h1, Nat.succ_pos _, fun k hk1 hk2 => ?_⟩
      have : k = ns.foldl (fun a b => if b < a then b else a) n := Int.le_antisymm (hk2 _ g1) (g2 k hk1)
      rw [this]
      exact PostN.here S T p rfl
theorem f_maxL {m : Bool} (hK : R.K = X.K) (hc : X.calm = true) : CallR X (.builtin "max") (rBF R (bfV .maxL m)) := (cr_max hc).imp fun xs H Q h => by
  obtain ⟨φ, st, d, x, rfl, S, T, r, p⟩ := rBF.one (m := fun x => M.bnd (asL2 x) fun ys => M.bnd (M.opt ((asInts ys).bind maxI)) fun i => M.ret (.int i)) (fun ds => by rcases ds with _ | ⟨d, _ | ⟨e, r⟩⟩ <;> rfl) h
  obtain ⟨a, ds, vs, rfl, h1, h2, h3, p⟩ := asL2_ok S r p
  obtain ⟨i, e, p⟩ := opt_ok p
  cases q : asInts ds with
  | none => rw [q] at e; cases e
  | some ns =>
    rw [q] at e
    rw [hK, ints_of h3 q] at h1
    cases ns with
    | nil => cases e
    | cons n ns =>
      cases e
      obtain ⟨g1, g2⟩ := maxF (l := ns) n
      refine ⟨a, n :: ns, rfl, h1, Nat.succ_pos _, fun k hk1 hk2 => ?_⟩
      have : k = ns.foldl (fun a b => if b > a then b else a) n := Int.le_antisymm (g2 k hk1) (hk2 _ g1)
      rw [this]
      exact PostN.here S T p rfl
theorem f_tuple {m : Bool} (hK : R.K = X.K) : CallR X (.type "tuple") (rBF R (bfV .tuple m)) := call_tuple_of.imp fun xs H Q h => by
  obtain ⟨φ, st, d, x, rfl, S, T, r, p⟩ := rBF.one (m := fun x => M.bnd (asS x) fun ys => M.ret (.tup ys)) (fun ds => by rcases ds with _ | ⟨d, _ | ⟨e, r⟩⟩ <;> rfl) h
  have new : ∀ {a : Addr} {ds : List PV} {vs : List V}, vs.length ≤ SZ → RepL R φ H ds vs → PostN R φ H (RepV R) (M.ret (.tup ds) st) Q → ∀ l, H l = none → Q (.ref l) (upd H l (.tup vs)) := fun {a ds vs} hz hl p l hn =>
    p φ _ _ (step_new hn) (S.new hn) (T.new hn) ⟨l, vs, rfl, .inl ⟨upd_same, S.fresh hn, fun ps z => by cases z⟩, hz, RepL.step (step_new hn) _ _ hl⟩
  cases d with
  | tup xs =>
    have r0 := r
    obtain ⟨a, vs, rfl, t, z, q⟩ := r
    exact ⟨a, vs, rfl, .inr ⟨by rw [← hK]; exact t.sq, PostN.here S T p r0⟩⟩
  | scr ns =>
    obtain ⟨a, o, rfl, t, z⟩ := r
    exact ⟨a, _, rfl, .inl ⟨by rw [← hK]; exact t.sq, new (a := a) (by rw [List.length_map]; exact z) RepL.ints p⟩⟩
  | lst xs =>
    obtain ⟨a, vs, rfl, t, z, q⟩ := r
    exact ⟨a, vs, rfl, .inl ⟨.inl (.inl t.1), new (a := a) z q p⟩⟩
  | loc n =>
    obtain ⟨a, ha, rfl⟩ := r
    have p : PostN R φ H (RepV R) (M.bnd (asS (.loc n)) (fun ys => M.ret (.tup ys)) st) Q := p
    cases q : st[n]? with
    | none =>
      unfold M.bnd asS at p
      simp only [q] at p
      exact p.elim
    | some m =>
      unfold M.bnd asS at p
      simp only [q] at p
      cases m with
      | lst xs =>
        obtain ⟨vs, h1, h2, h3⟩ := S.at_ n _ a q ha
        exact ⟨a, vs, rfl, .inl ⟨.inl (.inl h1), new (a := a) h2 h3 p⟩⟩
      | _ => exact False.elim p
  | _ => exact False.elim p
end
end Mp
namespace Mp
open PySem PySem.Spec PyProof.Rows L2
section
variable {X : Cx} {R : Rc} {G : Gm} {W : WX}
theorem keysK {φ : List Addr} {H : Hp} : ∀ {kvs : List (PV × PV)} {gs : List (Key × V)}, DctG R φ H pK KR kvs gs → RepL R φ H (kvs.map (·.1)) (gs.map fun kv => kV kv.1)
  | [], _, h => by cases h; rfl
  | (p, d) :: r, _, h => by
    obtain ⟨x, v, s, rfl, rfl, h1, h2, h3⟩ := h
    refine ⟨_, _, rfl, ?_, keysK h3⟩
    cases x with
    | inl i => exact rfl
    | inr z => exact ⟨rfl, h1⟩
theorem keysT {φ : List Addr} {H : Hp} : ∀ {kvs : List (PV × PV)} {gs : List (List Key × V)} {bs : List Addr}, (∀ b ∈ bs, Off R φ b) → DctG R φ H pT KRs kvs gs → IsKeys H gs bs → RepL R φ H (kvs.map (·.1)) (bs.map V.ref)
  | [], _, bs, _, h, k => by
    cases h
    cases k
    rfl
  | (p, d) :: r, _, bs, hn, h, k => by
    obtain ⟨x, v, s, rfl, rfl, h1, h2, h3⟩ := h
    cases k with
    | cons k1 k2 =>
      rename_i b bs
      refine ⟨_, _, rfl, ⟨b, x.map kV, rfl, .inl ⟨k1, hn b (List.mem_cons_self ..), fun ps z => by cases z⟩, by rw [List.length_map]; exact h1.1, ?_⟩, keysT (fun c hc => hn c (List.mem_cons_of_mem _ hc)) h3 k2⟩
      have : ∀ {ys : List Key}, (∀ y ∈ ys, KR y) → RepL R φ H (ys.map pK) (ys.map kV) := fun {ys} => by
        induction ys with
        | nil => intro _; rfl
        | cons y ys ih =>
          intro hy
          refine ⟨_, _, rfl, ?_, ih fun z hz => hy z (List.mem_cons_of_mem _ hz)⟩
          cases y with
          | inl i => exact rfl
          | inr z => exact ⟨rfl, hy _ (List.mem_cons_self ..)⟩
      exact this h1.2
theorem RepO.notup {φ : List Addr} {H : Hp} {a : Addr} {m : MO} {xs : List V} (r : RepO R φ H a m) : H a ≠ some (.tup xs) := fun e => by
  cases m with
  | lst ds => obtain ⟨vs, h, _⟩ := r; rw [e] at h; cases h
  | dct kvs => rcases r with ⟨gs, h, _⟩ | ⟨gs, h, _⟩ <;> (rw [e] at h; cases h)
  | ins c fs => obtain ⟨dx, gs, h, _⟩ := r; rw [e] at h; cases h
theorem RepS.notup {φ : List Addr} {st : Sto} {H : Hp} {a : Addr} {xs : List V} (S : RepS R φ st H) (e : H a = some (.tup xs)) : Off R φ a := by
  refine ⟨fun m => ?_, fun m => ?_⟩
  · obtain ⟨n, hn⟩ := List.mem_iff_getElem?.mp m
    obtain ⟨hl, _⟩ := List.getElem?_eq_some_iff.mp hn
    have hl2 := S.len
    exact (S.at_ n st[n] a (List.getElem?_eq_getElem (by omega)) hn).notup e
  · obtain ⟨_, vs, z⟩ := S.hd a m
    rw [e] at z
    cases z
theorem isKeys_mem {H : Hp} : ∀ {gs : List (List Key × V)} {bs : List Addr}, IsKeys H gs bs → ∀ b ∈ bs, ∃ xs, H b = some (.tup xs)
  | _, _, .nil, _, h => absurd h (by simp)
  | _, _, .cons k r, b, h => by
    rcases List.mem_cons.mp h with rfl | h
    · exact ⟨_, k⟩
    · exact isKeys_mem r b h
theorem isKeys_len {H : Hp} {gs : List (List Key × V)} {bs : List Addr} (h : IsKeys H gs bs) : gs.length = bs.length := Paired.length h
theorem f_list {m : Bool} (hK : R.K = X.K) (hc : X.calm = true) : CallR X (.type "list") (rBF R (bfV .list m)) := by
  intro pins s σ H xs us Q I rx h
  obtain ⟨φ, st, d, x, rfl, S, T, r, p⟩ := rBF.one (m := listV m) (fun ds => by rcases ds with _ | ⟨d, _ | ⟨e, r⟩⟩ <;> rfl) h
  have seq : PostN R φ H (RepV R) (M.bnd (asS d) (newL m) st) Q → wpAny (model X.prog X.w) X.A (call (.type "list") us) (EP X pins σ Q) X.xe s := fun p => by
    obtain ⟨a, ds, vs, rfl, h1, h2, h3, p⟩ := bndS_ok S r p
    rw [hK] at h1
    exact call_list_of pins s σ H _ us Q I rx ⟨a, vs, rfl, h1, (newL_ok S T h3 p).2⟩
  cases d with
  | loc n =>
    rcases loc_or (f := .bad) (fun kvs => newL m (kvs.map (·.1)) st) p with ⟨kvs, q, p⟩ | p
    · obtain ⟨a, ha, rfl⟩ := r
      rcases S.at_ n _ a q ha with ⟨gs, q1, q2, q3⟩ | ⟨gs, q1, q2, q3⟩
      · exact call_listD hc pins s σ H _ us Q I rx ⟨a, gs, rfl, .inl q1, (newL_ok S T (keysK q3) p).2⟩
      · refine call_list_dT hc pins s σ H _ us Q I rx ⟨a, gs, rfl, .inl q1, fun l bs hl hb => (newL_ok S T (keysT (fun b hb' => ?_) q3 hb) p).2 l hl⟩
        obtain ⟨xs, e⟩ := isKeys_mem hb b hb'
        exact S.notup e
    · exact seq p
  | _ => exact seq p
theorem toDs_len : ∀ {ys : List PV} {ds : List PyData}, PV.toDs ys = some ds → ys.length = ds.length
  | [], _, e => by cases e; rfl
  | y :: ys, ds, e => by
    unfold PV.toDs at e
    cases q1 : y.toD with
    | none => rw [q1] at e; cases e
    | some D =>
      cases q2 : PV.toDs ys with
      | none => rw [q1, q2] at e; cases e
      | some Ds =>
        rw [q1, q2] at e
        cases e
        simp [toDs_len q2]
theorem sort_each {φ : List Addr} {H : Hp} : ∀ {ys : List PV} {ds : List PyData} {vs : List V} {us : List Value}, PV.toDs ys = some ds → RepL R φ H ys vs → Vals vs us → PySem.W.EachIs (fun u (b : PV × PyData) => ∃ x, RelV x u ∧ RepV R φ H b.1 x ∧ b.1.toD = some b.2) us (ys.zip ds)
  | [], _, _, _, e, r, rv => by
    cases e
    cases r
    cases rv
    exact .nil
  | y :: ys, ds, _, _, e, r, rv => by
    obtain ⟨v, s, rfl, g1, g2⟩ := r
    unfold PV.toDs at e
    cases q1 : y.toD with
    | none => rw [q1] at e; cases e
    | some D =>
      cases q2 : PV.toDs ys with
      | none => rw [q1, q2] at e; cases e
      | some Ds =>
        rw [q1, q2] at e
        cases e
        cases rv with
        | cons r1 r2 => exact .cons ⟨v, r1, g1, q1⟩ (sort_each q2 g2 r2)
theorem each_back {φ : List Addr} {H : Hp} : ∀ {bs : List (PV × PyData)} {us : List Value}, PySem.W.EachIs (fun u (b : PV × PyData) => ∃ x, RelV x u ∧ RepV R φ H b.1 x ∧ b.1.toD = some b.2) us bs → ∃ vs, RepL R φ H (bs.map (·.1)) vs ∧ Vals vs us
  | [], _, h => by cases h; exact ⟨[], rfl, .nil⟩
  | b :: bs, _, h => by
    cases h with
    | cons h1 h2 =>
      obtain ⟨x, r1, r2, _⟩ := h1
      obtain ⟨vs, g1, g2⟩ := each_back h2
      exact ⟨x :: vs, ⟨x, vs, rfl, r2, g1⟩, .cons r1 g2⟩
theorem zip_snd {ys : List PV} {ds : List PyData} (h : ys.length = ds.length) : (ys.zip ds).map (·.2) = ds := by
  rw [List.map_snd_zip (by omega)]
theorem sortable_ok {ds : List PyData} (h : sortable ds = true) : PySem.W.AllAlike ds ∧ PySem.W.Sortable ds ∧ ∀ d ∈ ds, d.depth ≤ 60 := by
  unfold sortable at h
  simp only [Bool.and_eq_true, Bool.or_eq_true, List.all_eq_true, decide_eq_true_eq] at h
  obtain ⟨⟨h1, h2⟩, h3⟩ := h
  refine ⟨h1, ?_, h2⟩
  rcases h3 with h3 | h3
  · refine .inl fun d hd => ?_
    have := h3 d hd
    cases d with
    | tuple xs =>
      cases xs with
      | nil => cases this
      | cons x r => exact ⟨x, r, rfl⟩
    | _ => cases this
  · refine .inr fun d hd => ?_
    have := h3 d hd
    cases d with
    | none => cases this
    | tuple xs => cases this
    | _ => exact ⟨fun z => (by cases z), fun xs z => (by cases z)⟩
theorem f_sorted {m : Bool} (hK : R.K = X.K) (hu : X.A.units + 64 < cLine) : CallR X (.builtin "sorted") (rBF R (bfV .sorted m)) := by
  intro pins s σ H xs us Q I rx h
  obtain ⟨φ, st, d, x, rfl, S, T, r, p⟩ := rBF.one (m := sortedV m) (fun ds => by rcases ds with _ | ⟨d, _ | ⟨e, r⟩⟩ <;> rfl) h
  obtain ⟨a, ys, vs, rfl, h1, h2, h3, p⟩ := bndL_ok S r p
  obtain ⟨ds, e, p⟩ := opt_ok p
  obtain ⟨hs, p⟩ := grd_ok p
  obtain ⟨al, so, dp⟩ := sortable_ok hs
  have hl := toDs_len e
  obtain ⟨its, rv, hL, hz⟩ := I.list (.inl (.inl h1))
  rw [Vals.ref1 rx]
  have e1 := sort_each e h3 rv
  have zs := zip_snd hl
  have lz : (ys.zip ds).length = ys.length := by rw [List.length_zip, ← hl, Nat.min_self]
  have er : PySem.W.EachIs (fun u (b : PV × PyData) => ∃ as, Reads s.heap u b.2 as) its (ys.zip ds) := e1.mono fun u b ⟨x, r1, r2, r3⟩ => by
    obtain ⟨g1, _⟩ := rep_dp _ _ _ r2 r3
    rw [hK] at g1
    exact Dp.reads I _ _ _ g1 r1
  refine PySem.W.sorted_data (enc := fun b : PV × PyData => b.2) hL.isList e1 er (by rw [zs]; exact al) (by rw [zs]; exact so) (by rw [lz, h3.length, sz_eq]; exact h2) (fun b hb => ?_) fun out ho eo => ?_
  · have := dp b.2 (by rw [← zs]; exact List.mem_map_of_mem hb)
    omega
  · obtain ⟨ws, g1, g2⟩ := each_back eo
    obtain ⟨ep, he'⟩ := sortedAll_at s.heap its out.toArray
    obtain ⟨hzz, q⟩ := newL_ok S T g1 p
    exact ⟨.ref _, upd H (s.heap.objs.size + 1) (.lst ws), I.laid (t' := s.toks) (fun _ _ => sortedAll_old) (Nat.le_succ _) ⟨by rw [sz_eq]; exact hzz, out, ep, g2, he'⟩, rfl, q _ (I.hok.fresh (Nat.le_succ _))⟩
theorem s_bf {f : Bf} {m : Bool} {id : String} {x : Str} {p pos : Pos} {e : Expr} {es : List Expr} {ms : Env → M (List PV)} (hf : CallR X (.builtin id) (rBF R (bfV f m))) (n : ∀ xs, NoX (bfV f m xs)) (hg : Gl X x) (hm : X.mg x = none) (hv : bootBuiltins x = some (.builtin id)) (ha : PA X (e :: es) (tMA' R G W ms))
    (hn : x ≠ "__name__") (hdb : (x == ("__debug__" : Str)) = false) (he : starEach (e :: es) X.env = (false, eval e X.env) :: starEach es X.env) (hpl : (backTo pos (starEach es X.env)).any (·.1) = false) :
    PE X (.Call (.Name x p) (e :: es) [] pos) (tM R G W fun ρ => M.bnd (ms ρ) (bfV f m)) :=
  (pe_callB hf hg hm hv ha hn hdb he hpl).imp fun σ H Q ⟨φ, st, ρ, S, E, T, h⟩ => ⟨φ, st, ρ, S, E, T, Post.mono (Post.bnd (A := RepL R) h) fun vs H1 ⟨φ1, st1, ds, s1, S1, T1, r1, p1⟩ => ⟨φ1, st1, ds, S1, T1, r1, p1.n (n ds)⟩⟩
theorem s_bfT {f : Bf} {m : Bool} {id : String} {x : Str} {p pos : Pos} {e : Expr} {es : List Expr} {ms : Env → M (List PV)} (hf : CallR X (.type id) (rBF R (bfV f m))) (n : ∀ xs, NoX (bfV f m xs)) (hg : Gl X x) (hm : X.mg x = none) (hv : bootBuiltins x = some (.type id)) (ha : PA X (e :: es) (tMA' R G W ms))
    (hn : x ≠ "__name__") (hdb : (x == ("__debug__" : Str)) = false) (he : starEach (e :: es) X.env = (false, eval e X.env) :: starEach es X.env) (hpl : (backTo pos (starEach es X.env)).any (·.1) = false) :
    PE X (.Call (.Name x p) (e :: es) [] pos) (tM R G W fun ρ => M.bnd (ms ρ) (bfV f m)) :=
  (pe_callTy hf hg hm hv ha hn hdb he hpl).imp fun σ H Q ⟨φ, st, ρ, S, E, T, h⟩ => ⟨φ, st, ρ, S, E, T, Post.mono (Post.bnd (A := RepL R) h) fun vs H1 ⟨φ1, st1, ds, s1, S1, T1, r1, p1⟩ => ⟨φ1, st1, ds, S1, T1, r1, p1.n (n ds)⟩⟩
theorem NoX.loc {n : Nat} {kk : List (PV × PV) → M PV} {g : M PV} (h1 : ∀ kvs, NoX (kk kvs)) (h2 : NoX g) : NoX fun s => match s[n]? with
    | some (.dct kvs) => kk kvs s
    | _ => g s := fun st c v s e => by
  dsimp only at e
  split at e
  · exact h1 _ _ _ _ _ e
  · exact h2 _ _ _ _ e
theorem NoX.two {f : Int → Int → M PV} (h : ∀ i j, NoX (f i j)) {x y : PV} : NoX (two f x y) := by
  unfold Mp.two
  split
  · exact h _ _
  · exact NoX.bad
theorem NoX.bfV {f : Bf} {m : Bool} {xs : List PV} : NoX (bfV f m xs) := by
  unfold Mp.bfV
  split
  · unfold Mp.lenV
    split
    · exact NoX.ret _
    · exact NoX.loc (kk := fun kvs => M.ret (.int kvs.length)) (fun kvs => NoX.ret _) (NoX.bnd NoX.asS fun _ => NoX.ret _)
    · exact NoX.bnd NoX.asS fun _ => NoX.ret _
  · unfold Mp.absV
    split <;> first | exact NoX.ret _ | exact NoX.bad
  · unfold Mp.intV
    split <;> first | exact NoX.ret _ | exact NoX.bad
  · exact NoX.two fun i j => NoX.grd (NoX.ret _)
  · exact NoX.two fun i j => NoX.ret _
  · exact NoX.two fun i j => NoX.ret _
  · exact NoX.bnd NoX.asL2 fun _ => NoX.bnd NoX.opt fun _ => NoX.ret _
  · exact NoX.bnd NoX.asL2 fun _ => NoX.bnd NoX.opt fun _ => NoX.ret _
  · exact NoX.bnd NoX.asL2 fun _ => NoX.bnd NoX.opt fun _ => NoX.ret _
  · exact NoX.bnd NoX.asL2 fun _ => NoX.bnd NoX.opt fun _ => NoX.ret _
  · exact NoX.bnd NoX.asL2 fun _ => NoX.bnd NoX.opt fun _ => NoX.ret _
  · exact NoX.bnd NoX.asL fun _ => NoX.bnd NoX.opt fun _ => NoX.grd NoX.newL
  · unfold Mp.listV
    split
    · exact NoX.loc (kk := fun kvs => Mp.newL m (kvs.map (·.1))) (fun kvs => NoX.newL) (NoX.bnd NoX.asS fun _ => NoX.newL)
    · exact NoX.bnd NoX.asS fun _ => NoX.newL
  · exact NoX.bnd NoX.asS fun _ => NoX.ret _
  · exact NoX.bad
end
end Mp
namespace Mp
open PySem PySem.Spec PyProof.Rows L2
def tyAns (t : Ty) (n : String) : Bool := match t with
  | .bool => n == "bool"
  | .int => n == "bool" || n == "int"
  | .str => n == "str"
  | .tup => n == "tuple"
  | .lst => n == "list"
  | .dct => n == "dict"
  | .own _ => false
  | .xc _ => false
structure ClsI (K : PySem.W.Frag) (C : Addr) : Prop where
  cl : Cls K C
  ha : PySem.W.findIn K (.ref C) "__class__" = some (some (.builtin "object.__class__"))
  hn : PySem.W.specialIn K (.builtin "object.__class__") "__get__" = some (some (.builtin "getset_descriptor.__get__"))
  htk : PySem.W.takesIn K (.builtin "object.__class__") = some true
  hm : PySem.W.mroIn K C (.type "object") = some true
structure XcF (K : PySem.W.Frag) (C : Addr) : Prop where
  ox : OexC K C
  xf : XfC K C
  ec : ExcC K C
def XclOk (R : Rc) : Prop := ∀ c ∈ R.xcl, XcF R.K (R.cad c)
structure IsaF (R : Rc) (cl : List (Nat × Nat)) (t : Ty) (u : Value) : Prop where
  ty : ∀ n ∈ ["NoneType", "bool", "int", "str", "tuple", "list", "dict"], PySem.W.kitOne R.K (.type n) u = some (tyAns t n)
  ins : ∀ c, (cl.lookup c).isSome = true → ClsI R.K (R.cad c) ∧ PySem.W.kitOne R.K (.ref (R.cad c)) u = some (ownAns t c)
  exn : ∀ cs, t = .xc cs → ∀ c ∈ R.xcl, PySem.W.kitOne R.K (.ref (R.cad c)) u = some (decide (c ∈ cs))
def rIsX (K : PySem.W.Frag) : List V → Hp → VK → Prop := fun xs H Q => ∃ (a C : Addr) (d : Option Addr) (c : V) (u : Value) (b : Bool), xs = [.ref a, c] ∧ H a = some (exo a C d) ∧ (∀ dd, d = some dd → ∃ fs, H dd = some (exd dd fs)) ∧ ExcC K C ∧ OexC K C ∧ ClsV c u ∧ PySem.W.kitOne K (.ref C) u = some b ∧ Q (.bl b) H
theorem exo_inst {P : Program} {w : World} {H : Hp} {h : Heap} {a C : Addr} {d : Option Addr} (hok : HOk P w H h) (e : H a = some (exo a C d)) (hd : ∀ dd, d = some dd → ∃ fs, H dd = some (exd dd fs)) : ∃ ox od, PySem.W.InstAt h a ox C od := by
  obtain ⟨t1, ho⟩ := exo_at hok e
  cases d with
  | none => exact ⟨_, none, ho, rfl, rfl, trivial⟩
  | some dd =>
    obtain ⟨fs, hf⟩ := hd dd rfl
    obtain ⟨mA, hns, _⟩ := exd_at hok hf
    obtain ⟨od, h1, _⟩ := lookIn_ns hns
    exact ⟨_, some od, ho, rfl, rfl, h1⟩
theorem OexC.isCls {K : PySem.W.Frag} {C : Addr} (T : OexC K C) : (PySem.W.clsIn K C).isSome = true := by
  obtain ⟨nm, q, N, bs, bm, sn, sub, ab, col, dd, k0, k1, k2, k3, k5, hC, hbm⟩ := T.cls
  unfold PySem.W.clsIn
  rw [hC]
  rfl
theorem call_isX {X : Cx} : CallR X (.builtin "isinstance") (rIsX X.K) := by
  intro pins s σ H xs us Q I r h
  obtain ⟨a, C, d, c, u, b, rfl, e1, e2, T, O, k, e, q⟩ := h
  obtain ⟨u1, u2, rfl, r1, r2⟩ := vals2 r
  obtain rfl : u1 = Value.ref a := r1
  have ec := k.eq r2
  subst ec
  obtain ⟨ox, od, J⟩ := exo_inst I.hok e1 e2
  exact PySem.W.kia_one (PySem.W.kitx_exc (OexC.isCls O) T.hg T.hk T.hs T.ha T.hn T.ht T.hm) I.kIn J e (fun z => nomatch z) fun tk => ⟨.bl b, H, I.tok tk, rfl, q⟩
def rIsA (K : PySem.W.Frag) : List V → Hp → VK → Prop := fun xs H Q => rIsi K xs H Q ∨ rIsX K xs H Q
theorem call_isA {X : Cx} : CallR X (.builtin "isinstance") (rIsA X.K) := by
  intro pins s σ H xs us Q I r h
  rcases h with h | h
  · exact call_isi pins s σ H xs us Q I r h
  · exact call_isX pins s σ H xs us Q I r h
section
variable {X : Cx} {R : Rc} {G : Gm} {W : WX}
theorem isB_ok {cl : List (Nat × Nat)} {t : Ty} {u : Value} {cv : V} {φ : List Addr} {H : Hp} {st : Sto} {d : PV} {x : V} {Q : Bool → Hp → Prop} (xk : XclOk R) (S : RepS R φ st H) (T : Tbs R H) (f : IsaF R cl t u) (r : RepV R φ H d x) (p : PostN R φ H AB (isB cl d t st) Q) :
    (∃ ty b, TyX R.K H x ty ∧ PySem.W.kitOne R.K ty u = some b ∧ Q b H) ∨ ∃ (a C : Addr) (dd : Option Addr) (b : Bool), x = .ref a ∧ H a = some (exo a C dd) ∧ (∀ dx, dd = some dx → ∃ fs, H dx = some (exd dx fs)) ∧ ExcC R.K C ∧ OexC R.K C ∧ PySem.W.kitOne R.K (.ref C) u = some b ∧ Q b H := by
  have go : ∀ n ∈ ["NoneType", "bool", "int", "str", "tuple", "list", "dict"], TyX R.K H x (.type n) → PostN R φ H AB (.ok (tyAns t n) st) Q → (∃ ty b, TyX R.K H x ty ∧ PySem.W.kitOne R.K ty u = some b ∧ Q b H) ∨ ∃ (a C : Addr) (dd : Option Addr) (b : Bool), x = .ref a ∧ H a = some (exo a C dd) ∧ (∀ dx, dd = some dx → ∃ fs, H dx = some (exd dx fs)) ∧ ExcC R.K C ∧ OexC R.K C ∧ PySem.W.kitOne R.K (.ref C) u = some b ∧ Q b H := fun n hn ty p => .inl ⟨_, _, ty, f.ty n hn, p φ H _ (Step.refl _ _) S T rfl⟩
  cases d with
  | non => cases r; exact go "NoneType" (by simp) (.base .non) (by cases t <;> exact p)
  | bl b => cases r; exact go "bool" (by simp) (.base (.bl b)) (by cases t <;> exact p)
  | int i => cases r; exact go "int" (by simp) (.base (.int i)) (by cases t <;> exact p)
  | str z => obtain ⟨rfl, _⟩ := r; exact go "str" (by simp) (.base (.str z)) (by cases t <;> exact p)
  | tup xs =>
    obtain ⟨a, vs, rfl, tt, z, q⟩ := r
    refine go "tuple" (by simp) ?_ (by cases t <;> exact p)
    rcases tt with tt | ⟨_, o, its, n, h1, h2, _⟩
    · exact .base (.tup tt.1)
    · exact .kTuple h1 h2
  | lst xs =>
    obtain ⟨a, vs, rfl, tt, z, q⟩ := r
    exact go "list" (by simp) (.base (.lst tt.1)) (by cases t <;> exact p)
  | loc n =>
    obtain ⟨a, ha, rfl⟩ := r
    cases q : st[n]? with
    | none => unfold isB at p; simp only [q] at p; exact p.elim
    | some m =>
      unfold isB at p
      simp only [q] at p
      have ro := S.at_ n _ a q ha
      cases m with
      | lst xs =>
        obtain ⟨vs, h1, _⟩ := ro
        exact go "list" (by simp) (.base (.lst h1)) (by cases t <;> exact p)
      | dct kvs =>
        rcases ro with ⟨gs, h1, _⟩ | ⟨gs, h1, _⟩
        · exact go "dict" (by simp) (.base (.dK h1)) (by cases t <;> exact p)
        · exact go "dict" (by simp) (.base (.dT h1)) (by cases t <;> exact p)
      | ins c fs =>
        obtain ⟨dx, gs, h1, _⟩ := ro
        obtain ⟨hk, p⟩ := grdB_ok p
        obtain ⟨ci, e⟩ := f.ins c hk
        exact .inl ⟨_, _, .base (.ins h1 ci.cl ci.ha ci.hn ci.htk ci.hm), e, p φ H _ (Step.refl _ _) S T rfl⟩
  | scr ns =>
    obtain ⟨a, o, rfl, tt, z⟩ := r
    exact False.elim p
  | exn c g ds =>
    obtain ⟨a, ws, rfl, ⟨hc, tt⟩, _⟩ := r
    have k := xk c hc
    cases t with
    | xc cs =>
      have e := f.exn cs rfl c hc
      rcases tt with ⟨_, h1⟩ | ⟨w, d, y, _, _, _, h1, h2⟩
      · exact .inr ⟨a, _, none, _, rfl, h1.1, (fun dx z => by cases z), k.ec, k.ox, e, p φ H _ (Step.refl _ _) S T rfl⟩
      · exact .inr ⟨a, _, some d, _, rfl, h1.1, (fun dx z => by cases z; exact ⟨_, h2.1⟩), k.ec, k.ox, e, p φ H _ (Step.refl _ _) S T rfl⟩
    | _ => exact False.elim p
  | _ => exact False.elim p
theorem NoX.isB {cl : List (Nat × Nat)} {t : Ty} {x : PV} : NoX (isB cl x t) := fun st c v s e => by
  unfold Mp.isB at e
  repeat' (first | (cases e; done) | exact (NoX.grd (NoX.ret _)) _ _ _ _ e | split at e)
theorem s_isi {cl : List (Nat × Nat)} {t : Ty} {u : Value} {cv : V} {a c : Expr} {p pos : Pos} {ma : Env → M PV} (hK : R.K = X.K) (xk : XclOk R) (hg : Gl X "isinstance") (hm : X.mg "isinstance" = none) (f : IsaF R cl t u) (kv : ClsV cv u) (ha : PE X a (tM R G W ma)) (hc : PE X c (tC cv))
    (h1 : starEach [a, c] X.env = (false, eval a X.env) :: starEach [c] X.env) (h2 : starEach [c] X.env = (false, eval c X.env) :: starEach [] X.env) (hpl : (backTo pos (starEach [c] X.env)).any (·.1) = false) :
    PE X (.Call (.Name "isinstance" p) [a, c] [] pos) (tM R G W fun ρ => M.bnd (ma ρ) fun x => M.bnd (isB cl x t) fun k => M.ret (PV.bl k)) :=
  (pe_callB call_isA hg hm (by rfl) (pa_cons ha (pa_cons hc pa_nil h2) h1) (by decide) (by decide) h1 hpl).imp fun σ H Q ⟨φ, st, ρ, S, E, T, h⟩ => tM.then (f := fun ρ x => M.bnd (isB cl x t) fun k => M.ret (PV.bl k)) S E T h fun φ1 st1 d v H1 s1 S1 E1 T1 r1 p1 => by
    rcases isB_ok (cv := cv) xk S1 T1 f r1 (rMB_of S1 NoX.isB p1) with ⟨ty, b, g1, g2, g3⟩ | ⟨a, C, dd, b, rfl, g1, g2, g3, g4, g5, g6⟩
    · rw [hK] at g1 g2
      exact .inl ⟨v, cv, ty, u, b, rfl, kv, g1, g2, g3⟩
    · rw [hK] at g3 g4 g5
      exact .inr ⟨a, C, dd, cv, u, b, rfl, g1, g2, g3, g4, kv, g5, g6⟩
structure PropM (P : Program) (w : World) (K : PySem.W.Frag) (mg : Str → Option Value) (base : Heap) (R : Rc) (k c f : Nat) (m : List PV → M PV) : Prop where
  ex : ∃ (p g : Addr) (fd : FuncData) (ps : List Str), Cls K (R.cad c) ∧ PropOf K (R.cad c) (R.fnm f) p g ∧ FnM P w K mg base R k g fd ps m ∧ Binds K fd ps [] ∧ ps.length = 1
theorem clsOf_ok {α β : Type} {A : List Addr → Hp → α → β → Prop} {φ : List Addr} {H : Hp} {st : Sto} {σ : L2.St} {d : PV} {x : V} {f : Nat → M α} {Q : β → Hp → Prop} (S : RepS R φ st H) (r : RepV R φ H d x) (p : Post R W σ φ H A (M.bnd (clsOf d) f st) Q) :
    ∃ n a c fs dx gs, d = .loc n ∧ φ[n]? = some a ∧ x = .ref a ∧ st[n]? = some (.ins c fs) ∧ H a = some (.ins (R.cad c) dx gs) ∧ FldL R φ H fs gs ∧ Post R W σ φ H A (f c st) Q := by
  unfold M.bnd clsOf at p
  cases d with
  | loc n =>
    obtain ⟨a, ha, rfl⟩ := r
    cases q : st[n]? with
    | none => simp only [q] at p; exact p.elim
    | some m =>
      simp only [q] at p
      cases m with
      | ins c fs =>
        obtain ⟨dx, gs, h1, h2⟩ := S.at_ n _ a q ha
        exact ⟨n, a, c, fs, dx, gs, rfl, ha, rfl, q, h1, h2, p⟩
      | _ => exact False.elim p
  | _ => exact False.elim p
theorem s_atr {G : Gm} {P : Prog} {C : Call} {k : Nat} {a : Expr} {f : Nat} {pos : Pos} {ma : Env → M PV} (hK : R.K = X.K) (xk : XclOk R) (cl : ClsOk R P.flds) (pr : ∀ c g j, P.props.lookup (c, g) = some j → PropM X.prog X.w X.K X.mg X.base R k c g (C.low j)) (hr : Room (k + 1) X.A)
    (ha : PE X a (tM R G W ma)) (hb : attributeBase a (R.fnm f) X.env (eval a X.env) = eval a X.env) : PE X (.Attribute a (R.fnm f) pos) (tM R G W fun ρ => M.bnd (ma ρ) fun x => atrV P C x f) := by
  refine ⟨fun pins s σ H Q I ⟨φ, st, ρ, S, E, T, h⟩ => ?_⟩
  refine attr_of hb (thn (ha.run pins s σ H _ I (tM.then (f := fun ρ x => atrV P C x f) (Q1 := fun x H1 => ∃ φ1 st1 d, RepS R φ1 st1 H1 ∧ Tbs R H1 ∧ RepV R φ1 H1 d x ∧ Post R W σ φ1 H1 (RepV R) (atrV P C d f st1) Q) S E T h fun φ1 st1 d v H1 s1 S1 E1 T1 r1 p1 => ⟨φ1, st1, d, S1, T1, r1, p1⟩)) fun u s1 ⟨x, H1, I1, rx, φ1, st1, d, S1, T1, r1, p1⟩ => ?_)
  by_cases nx : ∃ c g ds, d = .exn c g ds
  · obtain ⟨c, g, ds, rfl⟩ := nx
    obtain ⟨a', ws, rfl, ⟨hc, tt⟩, rl⟩ := r1
    obtain rfl : u = Value.ref a' := rx
    have k := xk c hc
    unfold atrV at p1
    simp only at p1
    unfold M.grd at p1
    by_cases eg : g = f
    · subst eg
      simp only [decide_true, if_true] at p1
      cases ds with
      | nil => exact p1.elim
      | cons d0 dr =>
        obtain ⟨v0, vr, ev, rv0, _⟩ := rl
        rcases tt with ⟨z, _⟩ | ⟨w, d, y, ew, hy, hno, h1, h2⟩
        · rw [z] at ev; cases ev
        · rw [ew] at ev
          cases ev
          obtain ⟨t1, ho⟩ := exo_at I1.hok h1.1
          obtain ⟨mA, hns, hr'⟩ := exd_at I1.hok h2.1
          obtain ⟨od, ho2, hl⟩ := lookIn_ns hns
          have ey : R.fnm g = y := by unfold Rc.fnm; rw [hy]; rfl
          obtain ⟨u, hu, ru⟩ := RelO.some_of (v := v0) (o := mA y) (by
            have := hr' y
            rw [show List.lookup y [(y, v0)] = some v0 from by simp [List.lookup]] at this
            exact this)
          rw [hK] at hno
          have J : PySem.W.InstAt s1.heap a' _ (R.cad c) (some od) := ⟨ho, rfl, rfl, ho2⟩
          have T := k.xf
          rw [hK] at T
          rw [ey]
          exact PySem.HandSPX.exc_get I1.kIn J T.ga T.gg T.exC (PySem.W.findObj_own T.hdC hno rfl (by rw [hl, hu])) (handed_of ru) ⟨v0, H1, I1.tok _, ru, p1 φ1 H1 v0 (Step.refl _ _) S1 T1 rv0⟩
    · simp only [eg, decide_false, Bool.false_eq_true, if_false] at p1
      exact p1.elim
  have ea : atrV P C d f = M.bnd (clsOf d) fun c => (match P.props.lookup (c, f) with
    | some k => M.nox (C.low k [d])
    | none => fldV P.flds d f) := by
    cases d with
    | exn c g ds => exact absurd ⟨c, g, ds, rfl⟩ nx
    | _ => rfl
  rw [ea] at p1
  obtain ⟨n, a', c, fs, dx, gs, rfl, hn, rfl, q, g1, g2, p1⟩ := clsOf_ok S1 r1 p1
  obtain rfl : u = Value.ref a' := rx
  cases q2 : P.props.lookup (c, f) with
  | none =>
    rw [q2] at p1
    unfold fldV at p1
    simp only [q] at p1
    unfold M.grd at p1
    cases q3 : isFld P.flds c f with
    | false => rw [q3] at p1; exact p1.elim
    | true =>
      rw [q3] at p1
      obtain ⟨c1, c2, c3⟩ := cl.cls c f q3
      rw [hK] at c1 c2
      cases q4 : fs.lookup f with
      | none => rw [q4] at p1; exact p1.elim
      | some e =>
        rw [q4] at p1
        obtain ⟨v, v1, v2⟩ := fld_get cl.inj c3 g2 q4
        exact getattr_ok I1 g1 c1 c2 v1 fun u' s2 I2 ru => ⟨v, H1, I2, ru, p1 φ1 H1 v (Step.refl _ _) S1 T1 v2⟩
  | some j =>
    rw [q2] at p1
    obtain ⟨p, g, fd, ps, k1, k2, k3, k4, k5⟩ := (pr c f j q2).ex
    refine getprop_ok (E := fun _ _ _ => False) I1 g1 k1 k2 k3.ok hr k4 .nil (fun pins σ H s e s' I hq => ?_) ⟨φ1, st1, [.loc n], k5.symm, S1, T1, ⟨_, _, rfl, ⟨a', hn, rfl⟩, rfl⟩, ?_⟩
    · obtain ⟨_, _, _, _, _, _, _, _, _, _, _, _, z⟩ := hq
      exact z
    · have p1 : Post R W σ φ1 H1 (RepV R) (M.nox (C.low j [.loc n]) st1) Q := p1
      unfold M.nox at p1
      cases z : C.low j [.loc n] st1 with
      | ok d st2 => rw [z] at p1; exact p1
      | exc c v s2 => rw [z] at p1; exact p1.elim
      | bad => rw [z] at p1; exact p1
end
end Mp
namespace Mp
open PySem PySem.Spec PyProof.Rows L2
section
variable {X : Cx} {R : Rc} {G : Gm} {W : WX}
def rMt (R : Rc) (m : PV → List PV → M PV) : V → List V → Hp → VK → Prop := fun x xs H Q => ∃ φ st d ds, RepS R φ st H ∧ Tbs R H ∧ RepV R φ H d x ∧ RepL R φ H ds xs ∧ PostN R φ H (RepV R) (m d ds st) Q
theorem _root_.L2.MtR.imp {id : String} {r r' : V → List V → Hp → VK → Prop} (h : MtR X id r) (k : ∀ x xs H Q, r' x xs H Q → r x xs H Q) : MtR X id r' := fun pins s σ H x xs v us Q I rx rs q => h pins s σ H x xs v us Q I rx rs (k x xs H Q q)
theorem lstAt_ok {φ : List Addr} {H : Hp} {st : Sto} {n : Nat} {f : List PV → M PV} {Q : VK} (p : PostN R φ H (RepV R) (lstAt n f st) Q) : ∃ ys, st[n]? = some (.lst ys) ∧ PostN R φ H (RepV R) (f ys st) Q := by
  unfold lstAt at p
  cases q : st[n]? with
  | none => rw [q] at p; exact p.elim
  | some m =>
    rw [q] at p
    cases m with
    | lst ys => exact ⟨ys, rfl, p⟩
    | _ => exact False.elim p
theorem wrL_ok {φ : List Addr} {H : Hp} {st : Sto} {n : Nat} {a : Addr} {ys zs : List PV} {vs : List V} {d : PV} {v : V} {Q : VK} (S : RepS R φ st H) (T : Tbs R H) (e : st[n]? = some (.lst ys)) (ha : φ[n]? = some a) (hz : vs.length ≤ SZ) (hl : RepL R φ H zs vs) (hv : RepV R φ H d v)
    (p : PostN R φ H (RepV R) (wrL n zs d st) Q) : Q v (upd H a (.lst vs)) := by
  have s := step_wr (H := H) (o := .lst vs) (List.mem_of_getElem? ha)
  exact p φ _ v s (S.write (m := .lst zs) ha ⟨vs, upd_same, hz, RepL.step s _ _ hl⟩) (T.upd S e ha) (hv.step s)
theorem m_append {cts : List PV} {m : Bool} : MtR X "list.append" (rMt R (bmV cts .append m)) := MtR.imp (r := rAppend) mt_append fun x xs H Q ⟨φ, st, d, ds, S, T, rd, rs, p⟩ => by
  match d, ds, xs, rd, rs, p with
  | .loc n, [y], xs, rd, rs, p =>
    obtain ⟨v, r, rfl, g1, rfl⟩ := rs
    obtain ⟨a, ha, rfl⟩ := rd
    obtain ⟨ys, e, p⟩ := lstAt_ok (f := fun ys => M.grd (decide (ys.length < SZ)) (wrL n (ys ++ [y]) .non)) p
    obtain ⟨hk, p⟩ := grd_ok p
    have hk := of_decide_eq_true hk
    obtain ⟨vs, h1, h2, h3⟩ := S.at_ n _ a e ha
    rw [h3.length] at hk
    exact ⟨a, vs, v, rfl, rfl, h1, by rw [sz_eq]; exact hk, wrL_ok S T e ha (by rw [List.length_append]; exact hk) (h3.append (RepL.one g1)) (d := .non) rfl p⟩
  | .loc _, [], _, _, _, p => exact p.elim
  | .loc _, _ :: _ :: _, _, _, _, p => exact p.elim
  | .non, _, _, _, _, p => exact p.elim
  | .bl _, _, _, _, _, p => exact p.elim
  | .int _, _, _, _, _, p => exact p.elim
  | .str _, _, _, _, _, p => exact p.elim
  | .tup _, _, _, _, _, p => exact p.elim
  | .lst _, _, _, _, _, p => exact p.elim
  | .glo _, _, _, _, _, p => exact p.elim
  | .scr _, _, _, _, _, p => exact p.elim
  | .clo _ _, _, _, _, _, p => exact p.elim
theorem m_extend {cts : List PV} {m : Bool} : MtR X "list.extend" (rMt R (bmV cts .extend m)) := MtR.imp (r := rExtend) mt_extend fun x xs H Q ⟨φ, st, d, ds, S, T, rd, rs, p⟩ => by
  match d, ds, xs, rd, rs, p with
  | .loc n, [y], xs, rd, rs, p =>
    obtain ⟨v, r, rfl, g1, rfl⟩ := rs
    obtain ⟨a, ha, rfl⟩ := rd
    obtain ⟨ys, e, p⟩ := lstAt_ok (f := fun ys => M.bnd (asL y) fun zs => M.grd (decide (ys.length + zs.length ≤ SZ)) (wrL n (ys ++ zs) .non)) p
    obtain ⟨b, zs, ws, rfl, k1, k2, k3, p⟩ := bndL_ok S g1 p
    obtain ⟨hk, p⟩ := grd_ok p
    have hk := of_decide_eq_true hk
    obtain ⟨vs, h1, h2, h3⟩ := S.at_ n _ a e ha
    rw [h3.length, k3.length] at hk
    exact ⟨a, b, vs, ws, rfl, rfl, h1, k1, by rw [sz_eq]; exact hk, wrL_ok S T e ha (by rw [List.length_append]; exact hk) (h3.append k3) (d := .non) rfl p⟩
  | .loc _, [], _, _, _, p => exact p.elim
  | .loc _, _ :: _ :: _, _, _, _, p => exact p.elim
  | .non, _, _, _, _, p => exact p.elim
  | .bl _, _, _, _, _, p => exact p.elim
  | .int _, _, _, _, _, p => exact p.elim
  | .str _, _, _, _, _, p => exact p.elim
  | .tup _, _, _, _, _, p => exact p.elim
  | .lst _, _, _, _, _, p => exact p.elim
  | .glo _, _, _, _, _, p => exact p.elim
  | .scr _, _, _, _, _, p => exact p.elim
  | .clo _ _, _, _, _, _, p => exact p.elim
theorem RepL.dropLast {φ : List Addr} {H : Hp} {ds : List PV} {vs : List V} (h : RepL R φ H ds vs) : RepL R φ H ds.dropLast vs.dropLast := by
  rw [List.dropLast_eq_take, List.dropLast_eq_take, h.length]
  exact h.take _
theorem RepL.erase {φ : List Addr} {H : Hp} : ∀ {ds : List PV} {vs : List V} (k : Nat), RepL R φ H ds vs → RepL R φ H (ds.eraseIdx k) (vs.eraseIdx k)
  | [], _, _, h => by cases h; rfl
  | d :: ds, _, 0, h => by
    obtain ⟨v, r, rfl, _, h2⟩ := h
    exact h2
  | d :: ds, _, k + 1, h => by
    obtain ⟨v, r, rfl, h1, h2⟩ := h
    exact ⟨v, _, rfl, h1, h2.erase k⟩
theorem m_pop {cts : List PV} {m : Bool} : MtR X "list.pop" (rMt R (bmV cts .pop m)) := MtR.imp (r := rPop) mt_pop fun x xs H Q ⟨φ, st, d, ds, S, T, rd, rs, p⟩ => by
  match d, ds, xs, rd, rs, p with
  | .loc n, [], xs, rd, rs, p =>
    cases rs
    obtain ⟨a, ha, rfl⟩ := rd
    obtain ⟨ys, e, p⟩ := lstAt_ok (f := fun ys => M.bnd (M.opt ys[ys.length - 1]?) fun y => wrL n ys.dropLast y) p
    obtain ⟨y, hy, p⟩ := opt_ok p
    obtain ⟨vs, h1, h2, h3⟩ := S.at_ n _ a e ha
    obtain ⟨v, g1, g2⟩ := h3.get hy
    rw [h3.length] at g1
    exact ⟨a, vs, v, rfl, rfl, h1, g1, wrL_ok S T e ha (by rw [List.length_dropLast]; omega) h3.dropLast g2 p⟩
  | .loc _, _ :: _, _, _, _, p => exact p.elim
  | .non, _, _, _, _, p => exact p.elim
  | .bl _, _, _, _, _, p => exact p.elim
  | .int _, _, _, _, _, p => exact p.elim
  | .str _, _, _, _, _, p => exact p.elim
  | .tup _, _, _, _, _, p => exact p.elim
  | .lst _, _, _, _, _, p => exact p.elim
  | .glo _, _, _, _, _, p => exact p.elim
  | .scr _, _, _, _, _, p => exact p.elim
  | .clo _ _, _, _, _, _, p => exact p.elim
theorem strs_rep {φ : List Addr} {H : Hp} : ∀ {zs : List Str}, zs.all okS = true → RepL R φ H (zs.map .str) (zs.map V.str)
  | [], _ => rfl
  | z :: zs, h => by
    rw [List.all_cons, Bool.and_eq_true] at h
    exact ⟨_, _, rfl, ⟨rfl, h.1⟩, strs_rep h.2⟩
theorem m_split {cts : List PV} {m : Bool} : MtR X "str.split" (rMt R (bmV cts .split m)) := mt_split.imp fun x xs H Q ⟨φ, st, d, ds, S, T, rd, rs, p⟩ => by
  match d, ds, xs, rd, rs, p with
  | .str z, [.str y], xs, rd, rs, p =>
    obtain ⟨v, r, rfl, g1, rfl⟩ := rs
    have p : PostN R φ H (RepV R) (M.grd (decide (y.length ≠ 0) && decide (z.length + 2 ≤ SZ) && (PySem.Txt.split z y).all okS) (newL m ((PySem.Txt.split z y).map .str)) st) Q := p
    obtain ⟨hk, p⟩ := grd_ok p
    simp only [Bool.and_eq_true, decide_eq_true_eq] at hk
    exact ⟨z, y, rd.1, by rw [g1.1], by simpa using hk.1.1, by rw [sz_eq]; exact hk.1.2, (newL_ok S T (strs_rep hk.2) p).2⟩
  | .str _, [], _, _, _, p => exact p.elim
  | .str _, [.non], _, _, _, p => exact p.elim
  | .str _, [.bl _], _, _, _, p => exact p.elim
  | .str _, [.int _], _, _, _, p => exact p.elim
  | .str _, [.tup _], _, _, _, p => exact p.elim
  | .str _, [.lst _], _, _, _, p => exact p.elim
  | .str _, [.loc _], _, _, _, p => exact p.elim
  | .str _, [.glo _], _, _, _, p => exact p.elim
  | .str _, [.scr _], _, _, _, p => exact p.elim
  | .str _, [.clo _ _], _, _, _, p => exact p.elim
  | .str _, a :: _ :: _, _, _, _, p => cases a <;> exact p.elim
  | .loc _, _, _, _, _, p => exact p.elim
  | .non, _, _, _, _, p => exact p.elim
  | .bl _, _, _, _, _, p => exact p.elim
  | .int _, _, _, _, _, p => exact p.elim
  | .tup _, _, _, _, _, p => exact p.elim
  | .lst _, _, _, _, _, p => exact p.elim
  | .glo _, _, _, _, _, p => exact p.elim
  | .scr _, _, _, _, _, p => exact p.elim
  | .clo _ _, _, _, _, _, p => exact p.elim
def bmN : Bm → String
  | .split => "str"
  | .append => "list"
  | .extend => "list"
  | .pop => "list"
  | .popAt => "list"
  | _ => "dict"
theorem NoX.bmT {f : Bm} {x : PV} : NoX (bmT f x) := fun st c v s e => by
  unfold Mp.bmT at e
  repeat' (first | (cases e; done) | split at e)
theorem bmT_ok {f : Bm} {φ : List Addr} {H : Hp} {st st' : Sto} {d : PV} {x : V} (S : RepS R φ st H) (r : RepV R φ H d x) (h : bmT f d st = .ok () st') : st' = st ∧ tyV R.K (bmN f) x H := by
  have str : ∀ {z : Str}, d = .str z → tyV R.K "str" x H := fun {z} e => by
    subst e
    rw [r.1]
    rfl
  have lst : ∀ {n : Nat} {ys : List PV}, d = .loc n → st[n]? = some (.lst ys) → tyV R.K "list" x H := fun {n ys} e q => by
    subst e
    obtain ⟨a, ha, rfl⟩ := r
    obtain ⟨vs, h1, _⟩ := S.at_ n _ a q ha
    exact .inl ⟨rfl, vs, .inl (.inl h1)⟩
  have dct : ∀ {n : Nat} {ys : List (PV × PV)}, d = .loc n → st[n]? = some (.dct ys) → tyV R.K "dict" x H := fun {n ys} e q => by
    subst e
    obtain ⟨a, ha, rfl⟩ := r
    rcases S.at_ n _ a q ha with ⟨gs, h1, _⟩ | ⟨gs, h1, _⟩
    · exact .inr (.inr (.inl ⟨rfl, .inl ⟨gs, h1⟩⟩))
    · exact .inr (.inr (.inl ⟨rfl, .inr ⟨gs, h1⟩⟩))
  unfold bmT at h
  split at h
  · cases h; exact ⟨rfl, str rfl⟩
  · split at h
    · rename_i q; cases h; exact ⟨rfl, lst rfl q⟩
    · cases h
  · split at h
    · rename_i q; cases h; exact ⟨rfl, lst rfl q⟩
    · cases h
  · split at h
    · rename_i q; cases h; exact ⟨rfl, lst rfl q⟩
    · cases h
  · split at h
    · rename_i q; cases h; exact ⟨rfl, lst rfl q⟩
    · cases h
  · split at h
    · rename_i q; cases h; exact ⟨rfl, dct rfl q⟩
    · cases h
  · split at h
    · rename_i q; cases h; exact ⟨rfl, dct rfl q⟩
    · cases h
  · split at h
    · rename_i q; cases h; exact ⟨rfl, dct rfl q⟩
    · cases h
  · cases h
theorem NoX.lstAt {n : Nat} {f : List PV → M PV} (h : ∀ ys, NoX (f ys)) : NoX (lstAt n f) := fun st c v s e => by
  unfold Mp.lstAt at e
  split at e
  · exact h _ _ _ _ _ e
  · cases e
theorem NoX.wrL {n : Nat} {ys : List PV} {d : PV} : NoX (wrL n ys d) := fun st c v s e => by cases e
theorem NoX.bmV {cts : List PV} {f : Bm} {m : Bool} {o : PV} {xs : List PV} : NoX (bmV cts f m o xs) := by
  unfold Mp.bmV
  split
  · exact NoX.lstAt fun _ => NoX.grd NoX.wrL
  · exact NoX.lstAt fun _ => NoX.bnd NoX.asL fun _ => NoX.grd NoX.wrL
  · exact NoX.lstAt fun _ => NoX.bnd NoX.opt fun _ => NoX.wrL
  · exact NoX.lstAt fun _ => NoX.bnd NoX.opt fun _ => NoX.bnd NoX.opt fun _ => NoX.wrL
  · exact NoX.grd NoX.newL
  · exact NoX.bnd NoX.asDct fun _ => NoX.grd (NoX.ret _)
  · exact NoX.bnd NoX.asDct fun _ => NoX.grd (NoX.ret _)
  · refine NoX.bnd NoX.asDct fun _ => NoX.grd fun st c v s e => ?_
    repeat' (first | (cases e; done) | split at e)
  · exact NoX.bad
theorem RepV.mt {φ : List Addr} {H : Hp} {d : PV} {x : V} (r : RepV R φ H d x) : True := trivial
theorem s_bm {f : Bm} {m : Bool} {id : String} {name : Str} {apos cpos : Pos} {o e : Expr} {es : List Expr} {mo : Env → M PV} {ms : Env → M (List PV)} (hK : R.K = X.K) (pa : PlainAttrs (bmN f)) (slot : Slot (bmN f) name id) (hty : typeOf (.builtin id) = pure (.type "method_descriptor")) (hm : MtR X id (rMt R (bmV R.cts f m)))
    (ho : PE X o (tM R G W mo)) (ha : PA X (e :: es) (tMA' R G W ms)) (hbase : attributeBase o name X.env (eval o X.env) = eval o X.env)
    (hfew : ((backTo cpos (starEach (e :: es) X.env)).all (fun x => !x.1) && (backToKw cpos (keywordEach [] X.env)).all (fun x => x.1.isSome)
      && decide ((e :: es).length + ([] : List Keyword).length + (if ([] : List Keyword).isEmpty then 0 else 1) < 30)) = true)
    (hline : (apos.endLine == cpos.line) = true) (hs : starEach (e :: es) X.env = (false, eval e X.env) :: starEach es X.env) (hplain : (backTo cpos (starEach es X.env)).any (·.1) = false) :
    PE X (.Call (.Attribute o name apos) (e :: es) [] cpos) (tM R G W fun ρ => M.bnd (mo ρ) fun x => M.bnd (bmT f x) fun _ => M.bnd (ms ρ) (bmV R.cts f m x)) :=
  (pe_bm pa slot hty hm ho ha hbase hfew hline hs hplain).imp fun σ H Q ⟨φ, st, ρ, S, E, T, h⟩ => tM.then (f := fun ρ x => M.bnd (bmT f x) fun _ => M.bnd (ms ρ) (bmV R.cts f m x)) S E T h fun φ1 st1 d v H1 s1 S1 E1 T1 r1 p1 => by
    obtain ⟨_, q, p1⟩ := Post.look NoX.bmT (fun _ _ e => (bmT_ok S1 r1 e).1) p1
    have ty := (bmT_ok S1 r1 q).2
    rw [hK] at ty
    exact ⟨ty, φ1, st1, ρ, S1, E1, T1, Post.mono (Post.bnd (A := RepL R) p1) fun vs H2 ⟨φ2, st2, ds, s2, S2, T2, r2, p2⟩ => ⟨φ2, st2, d, ds, S2, T2, r1.step s2, r2, p2.n NoX.bmV⟩⟩
theorem s_bm0 {f : Bm} {m : Bool} {id : String} {name : Str} {apos cpos : Pos} {o : Expr} {mo : Env → M PV} (hK : R.K = X.K) (pa : PlainAttrs (bmN f)) (slot : Slot (bmN f) name id) (hty : typeOf (.builtin id) = pure (.type "method_descriptor")) (hm : MtR X id (rMt R (bmV R.cts f m)))
    (ho : PE X o (tM R G W mo)) (hbase : attributeBase o name X.env (eval o X.env) = eval o X.env) (hline : (apos.endLine == cpos.line) = true) :
    PE X (.Call (.Attribute o name apos) [] [] cpos) (tM R G W fun ρ => M.bnd (mo ρ) fun x => M.bnd (bmT f x) fun _ => M.bnd (M.ret []) (bmV R.cts f m x)) :=
  (pe_bm0 pa slot hty hm ho hbase hline).imp fun σ H Q ⟨φ, st, ρ, S, E, T, h⟩ => tM.then (f := fun ρ x => M.bnd (bmT f x) fun _ => M.bnd (M.ret []) (bmV R.cts f m x)) S E T h fun φ1 st1 d v H1 s1 S1 E1 T1 r1 p1 => by
    obtain ⟨_, q, p1⟩ := Post.look NoX.bmT (fun _ _ e => (bmT_ok S1 r1 e).1) p1
    have ty := (bmT_ok S1 r1 q).2
    rw [hK] at ty
    have p1 : Post R W σ φ1 H1 (RepV R) (bmV R.cts f m d [] st1) Q := p1
    exact ⟨ty, φ1, st1, d, [], S1, T1, r1, rfl, p1.n NoX.bmV⟩
end
end Mp
namespace Mp
open PySem PySem.Spec PyProof.Rows L2
def W0 : WX := fun _ _ _ _ => False
theorem map_len {ws : Wat} {f : PV → M (Option PV)} : ∀ {xs acc ys : List PV} {st st' : Sto}, mapM ws f xs acc st = .ok ys st' → acc.length ≤ ys.length
  | [], acc, ys, st, st', e => by
    unfold mapM M.bnd watch at e
    split at e
    · rename_i q
      split at q
      · cases e; exact Nat.le_refl _
      · cases q
    · cases e
    · cases e
  | x :: xs, acc, ys, st, st', e => by
    unfold mapM M.bnd at e
    split at e
    · rename_i q
      dsimp only at e
      split at e
      · rename_i o s1 q1
        refine Nat.le_trans ?_ (map_len e)
        unfold addO
        cases o with
        | none => exact Nat.le_refl _
        | some y => rw [List.length_append]; exact Nat.le_add_right _ _
      · cases e
      · cases e
    · cases e
    · cases e
theorem noClo_get {ρ : Env} {i : Nat} {d : PV} (h : (noClo ρ)[i]? = some (some d)) : ρ[i]? = some (some d) ∧ isClo d = false := by
  unfold noClo at h
  rw [List.getElem?_map] at h
  cases q : ρ[i]? with
  | none => rw [q] at h; cases h
  | some o =>
    rw [q] at h
    cases o with
    | none => cases h
    | some e => cases e <;> first | (cases h; exact ⟨rfl, rfl⟩) | cases h
theorem wipe_get {ρ : Env} {i : Nat} {d : PV} : ∀ {own : List Nat}, (Mp.wipe own ρ)[i]? = some (some d) → i ∉ own ∧ ρ[i]? = some (some d) ∧ isClo d = false
  | [], h => ⟨by simp, noClo_get h⟩
  | j :: own, h => by
    have h : ((Mp.wipe own ρ).set j none)[i]? = some (some d) := h
    by_cases e : j = i
    · subst e
      by_cases hl : j < (Mp.wipe own ρ).length
      · rw [List.getElem?_set_self hl] at h; cases h
      · rw [List.getElem?_eq_none (by rw [List.length_set]; omega)] at h; cases h
    · rw [List.getElem?_set_ne e] at h
      obtain ⟨h1, h2⟩ := wipe_get h
      refine ⟨fun m => ?_, h2⟩
      rcases List.mem_cons.mp m with z | z
      · exact e z.symm
      · exact h1 z
theorem wipe_len {ρ : Env} : ∀ {own : List Nat}, (Mp.wipe own ρ).length = ρ.length
  | [] => by
    show (noClo ρ).length = ρ.length
    unfold noClo
    rw [List.length_map]
  | j :: own => by
    show ((Mp.wipe own ρ).set j none).length = ρ.length
    rw [List.length_set]
    exact wipe_len
section
variable {X : Cx} {R : Rc} {G : Gm} {W : WX}
theorem RepE.block {φ φ' : List Addr} {H H' : Hp} {hid : List Addr} {ρ : Env} {σ : L2.St} {G' : Gm} {own : List Nat} (h : RepE R G φ H ρ σ) (s : Step φ H φ' H') (hd : Hd R H hid) : RepE (R.h hid) G' φ' H' (Mp.wipe own ρ) (L2.wipe σ own) := by
  refine ⟨by rw [wipe_len, L2.wipe_length]; exact h.len, fun i d e => ?_⟩
  obtain ⟨h1, h2, h3⟩ := wipe_get e
  obtain ⟨v, g1, g2⟩ := h.at_ i d h2
  exact ⟨v, by rw [wipe_out h1]; exact g1, ((g2.v h3).hide s hd).x⟩
theorem Own.updD {φ : List Addr} {H : Hp} {D : Addr} {o u : HO} (hD : D ∈ R.hid) {a : Addr} (h : Own R φ H a u) : Own R φ (upd H D o) a u :=
  ⟨by rw [upd_ne (fun z : a = D => h.2.1.2 (by rw [z]; exact hD))]; exact h.1, h.2⟩
theorem ScrAt.updD {φ : List Addr} {H : Hp} {D : Addr} {o : HO} (hD : D ∈ R.hid) {a : Addr} {ns : List Int} (h : ScrAt R φ H a ns) : ScrAt R φ (upd H D o) a ns := h.elim (fun ⟨o, h, e⟩ => .inl ⟨o, h.updD hD, e⟩) .inr
theorem ExnAt.updD {φ : List Addr} {H : Hp} {D : Addr} {o : HO} (hD : D ∈ R.hid) {a : Addr} {c f : Nat} {ws : List V} (h : ExnAt R φ H a c f ws) : ExnAt R φ (upd H D o) a c f ws := by
  rcases h with ⟨hc, ⟨e, h⟩ | ⟨w, d, x, e, hx, hf, h1, h2⟩⟩
  · exact ⟨hc, .inl ⟨e, h.updD hD⟩⟩
  · exact ⟨hc, .inr ⟨w, d, x, e, hx, hf, h1.updD hD, h2.updD hD⟩⟩
mutual
theorem RepV.updD {φ : List Addr} {H : Hp} {D : Addr} {o : HO} (hD : D ∈ R.hid) : ∀ (d : PV) (v : V), RepV R φ H d v → RepV R φ (upd H D o) d v
  | .non, _, h => h
  | .bl _, _, h => h
  | .int _, _, h => h
  | .str _, _, h => h
  | .tup ds, v, h => by
    obtain ⟨a, vs, e, t, z, r⟩ := h
    exact ⟨a, vs, e, t.elim (fun t => .inl (t.updD hD)) .inr, z, RepL.updD hD ds vs r⟩
  | .lst ds, v, h => by
    obtain ⟨a, vs, e, t, z, r⟩ := h
    exact ⟨a, vs, e, t.updD hD, z, RepL.updD hD ds vs r⟩
  | .loc n, v, h => h
  | .glo _, _, h => h
  | .scr ns, v, h => by
    obtain ⟨a, o, e, t, z⟩ := h
    exact ⟨a, o, e, t.updD hD, z⟩
  | .clo _ _, _, h => h
  | .exn c f ds, v, h => by
    obtain ⟨a, ws, e, t, r⟩ := h
    exact ⟨a, ws, e, t.updD hD, RepL.updD hD ds ws r⟩
theorem RepL.updD {φ : List Addr} {H : Hp} {D : Addr} {o : HO} (hD : D ∈ R.hid) : ∀ (ds : List PV) (vs : List V), RepL R φ H ds vs → RepL R φ (upd H D o) ds vs
  | [], _, h => h
  | d :: ds, vs, h => by
    obtain ⟨v, r, e, h1, h2⟩ := h
    exact ⟨v, r, e, RepV.updD hD d v h1, RepL.updD hD ds r h2⟩
end
theorem FldL.updD {φ : List Addr} {H : Hp} {D : Addr} {o : HO} (hD : D ∈ R.hid) : ∀ {fs : List (Nat × PV)} {gs : List (Str × V)}, FldL R φ H fs gs → FldL R φ (upd H D o) fs gs
  | [], _, h => h
  | (f, d) :: fs, _, h => by
    obtain ⟨x, v, r, e, h1, h2, h3⟩ := h
    exact ⟨x, v, r, e, h1, h2.updD hD, h3.updD hD⟩
theorem DctG.updD {φ : List Addr} {H : Hp} {D : Addr} {o : HO} (hD : D ∈ R.hid) {κ : Type} {kp : κ → PV} {kr : κ → Prop} : ∀ {fs : List (PV × PV)} {gs : List (κ × V)}, DctG R φ H kp kr fs gs → DctG R φ (upd H D o) kp kr fs gs
  | [], _, h => h
  | (f, d) :: fs, _, h => by
    obtain ⟨x, v, r, e, h1, h2, h3, h4⟩ := h
    exact ⟨x, v, r, e, h1, h2, h3.updD hD, h4.updD hD⟩
theorem RepO.updD {φ : List Addr} {H : Hp} {D a : Addr} {o : HO} {m : MO} (hD : D ∈ R.hid) (ne : a ≠ D) (h : RepO R φ H a m) : RepO R φ (upd H D o) a m := by
  cases m with
  | lst ds =>
    obtain ⟨vs, h1, h2, h3⟩ := h
    exact ⟨vs, by rw [upd_ne ne]; exact h1, h2, RepL.updD hD _ _ h3⟩
  | dct _ =>
    rcases h with ⟨gs, h1, h2, h3⟩ | ⟨gs, h1, h2, h3⟩
    · exact .inl ⟨gs, by rw [upd_ne ne]; exact h1, h2, h3.updD hD⟩
    · exact .inr ⟨gs, by rw [upd_ne ne]; exact h1, h2, h3.updD hD⟩
  | ins c fs =>
    obtain ⟨dx, gs, h1, h2⟩ := h
    exact ⟨dx, gs, by rw [upd_ne ne]; exact h1, h2.updD hD⟩
theorem RepS.updD {φ : List Addr} {st : Sto} {H : Hp} {D : Addr} {vs : List V} (hD : D ∈ R.hid) (S : RepS R φ st H) : RepS R φ st (upd H D (.lst vs)) :=
  ⟨S.len, S.nd, fun n m a e1 e2 => (S.at_ n m a e1 e2).updD hD (fun z => (S.hd D hD).1 (by rw [← z]; exact List.mem_of_getElem? e2)), fun C hC => by
    obtain ⟨h1, ws, h2⟩ := S.hd C hC
    by_cases e : C = D
    · subst e
      exact ⟨h1, vs, upd_same⟩
    · exact ⟨h1, ws, by rw [upd_ne e]; exact h2⟩⟩
theorem Tbs.updD {H : Hp} {D : Addr} {o : HO} {vs : List V} (T : Tbs R H) (hD : H D = some (.lst vs)) : Tbs R (L2.upd H D o) := by
  intro p hp
  obtain ⟨ps, h1, h2, h3⟩ := T p hp
  have dif : ∀ b u, H b = some u → (∀ vs, u ≠ .lst vs) → b ≠ D := fun b u hb n z => by
    subst z
    rw [hD] at hb
    exact n _ (Option.some.inj hb).symm
  refine ⟨ps, by rw [upd_ne (dif _ _ h1 fun _ z => by cases z)]; exact h1, h2, fun p' cv hcv => ?_⟩
  obtain ⟨c0, e1, e2⟩ := h3 p' cv hcv
  exact ⟨c0, e1, by rw [upd_ne (dif _ _ e2 fun _ z => by unfold LamX.CodeO at z; cases z)]; exact e2⟩
theorem RepS.hide {φ : List Addr} {st : Sto} {H : Hp} {D : Addr} (S : RepS R φ st H) (hD : H D = none) : RepS (R.h (D :: R.hid)) φ st (upd H D (.lst [])) := by
  have hh : Hd R H (D :: R.hid) := fun C hC => by
    rcases List.mem_cons.mp hC with z | z
    · rw [z]; exact .inr hD
    · exact .inl z
  have s := step_new (φ := φ) (o := .lst []) hD
  refine ⟨S.len, S.nd, fun n m a e1 e2 => ?_, fun C hC => ?_⟩
  · have ne : a ≠ D := fun z => (S.fresh hD).1 (by rw [← z]; exact List.mem_of_getElem? e2)
    have r := S.at_ n m a e1 e2
    cases m with
    | lst ds =>
      obtain ⟨vs, h1, h2, h3⟩ := r
      exact ⟨vs, by rw [upd_ne ne]; exact h1, h2, RepL.hide s hh _ _ h3⟩
    | dct _ =>
      have go : ∀ {κ : Type} {kp : κ → PV} {kr : κ → Prop} {fs : List (PV × PV)} {gs : List (κ × V)}, DctG R φ H kp kr fs gs → DctG (R.h (D :: R.hid)) φ (upd H D (.lst [])) kp kr fs gs := fun {κ kp kr fs} => by
        induction fs with
        | nil => intro gs h; exact h
        | cons p fs ih =>
          obtain ⟨k, d⟩ := p
          rintro gs ⟨x, v, r, e, h1, h2, h3, h4⟩
          exact ⟨x, v, r, e, h1, h2, RepV.hide s hh _ _ h3, ih h4⟩
      rcases r with ⟨gs, h1, h2, h3⟩ | ⟨gs, h1, h2, h3⟩
      · exact .inl ⟨gs, by rw [upd_ne ne]; exact h1, h2, go h3⟩
      · exact .inr ⟨gs, by rw [upd_ne ne]; exact h1, h2, go h3⟩
    | ins c fs =>
      obtain ⟨dx, gs, h1, h2⟩ := r
      have go : ∀ {fs : List (Nat × PV)} {gs : List (Str × V)}, FldL R φ H fs gs → FldL (R.h (D :: R.hid)) φ (upd H D (.lst [])) fs gs := fun {fs} => by
        induction fs with
        | nil => intro gs h; exact h
        | cons p fs ih =>
          obtain ⟨k, d⟩ := p
          rintro gs ⟨x, v, r, e, h1, h2, h3⟩
          exact ⟨x, v, r, e, h1, RepV.hide s hh _ _ h2, ih h3⟩
      exact ⟨dx, gs, by rw [upd_ne ne]; exact h1, go h2⟩
  · rcases List.mem_cons.mp hC with z | z
    · rw [z]
      exact ⟨(S.fresh hD).1, [], upd_same⟩
    · obtain ⟨h1, vs, h2⟩ := S.hd C z
      exact ⟨h1, vs, by rw [upd_ne (ne_of_none h2 hD)]; exact h2⟩
structure Show (φ φ' : List Addr) (hid : List Addr) (l : List Addr) : Prop where
  pre : φ <+: φ'
  off : ∀ a, a ∉ φ → a ∉ l → a ∉ φ'
theorem Own.show {φ φ' hid l : List Addr} {H : Hp} (p : Show φ φ' hid l) (hl : ∀ D ∈ l, D ∈ hid) (hs : ∀ D ∈ R.hid, D ∈ hid) {a : Addr} {u : HO} (h : Own (R.h hid) φ H a u) : Own R φ' H a u :=
  ⟨h.1, ⟨p.off a h.2.1.1 fun m => h.2.1.2 (hl a m), fun m => h.2.1.2 (hs a m)⟩, h.2.2⟩
theorem ScrAt.show {φ φ' hid l : List Addr} {H : Hp} (p : Show φ φ' hid l) (hl : ∀ D ∈ l, D ∈ hid) (hs : ∀ D ∈ R.hid, D ∈ hid) {a : Addr} {ns : List Int} (h : ScrAt (R.h hid) φ H a ns) : ScrAt R φ' H a ns := h.elim (fun ⟨o, h, e⟩ => .inl ⟨o, Own.show p hl hs h, e⟩) .inr
theorem ExnAt.show {φ φ' hid l : List Addr} {H : Hp} (p : Show φ φ' hid l) (hl : ∀ D ∈ l, D ∈ hid) (hs : ∀ D ∈ R.hid, D ∈ hid) {a : Addr} {c f : Nat} {ws : List V} (h : ExnAt (R.h hid) φ H a c f ws) : ExnAt R φ' H a c f ws := by
  rcases h with ⟨hc, ⟨e, h⟩ | ⟨w, d, x, e, hx, hf, h1, h2⟩⟩
  · exact ⟨hc, .inl ⟨e, Own.show p hl hs h⟩⟩
  · exact ⟨hc, .inr ⟨w, d, x, e, hx, hf, Own.show p hl hs h1, Own.show p hl hs h2⟩⟩
mutual
theorem RepV.show {φ φ' hid l : List Addr} {H : Hp} (p : Show φ φ' hid l) (hl : ∀ D ∈ l, D ∈ hid) (hs : ∀ D ∈ R.hid, D ∈ hid) : ∀ (d : PV) (v : V), RepV (R.h hid) φ H d v → RepV R φ' H d v
  | .non, _, h => h
  | .bl _, _, h => h
  | .int _, _, h => h
  | .str _, _, h => h
  | .tup ds, v, h => by
    obtain ⟨a, vs, e, t, z, r⟩ := h
    exact ⟨a, vs, e, t.elim (fun t => .inl (Own.show p hl hs t)) .inr, z, RepL.show p hl hs ds vs r⟩
  | .lst ds, v, h => by
    obtain ⟨a, vs, e, t, z, r⟩ := h
    exact ⟨a, vs, e, Own.show p hl hs t, z, RepL.show p hl hs ds vs r⟩
  | .loc n, v, h => by
    obtain ⟨a, e, q⟩ := h
    exact ⟨a, get_pre p.pre e, q⟩
  | .glo _, _, h => h
  | .scr ns, v, h => by
    obtain ⟨a, o, e, t, z⟩ := h
    exact ⟨a, o, e, ScrAt.show p hl hs t, z⟩
  | .clo _ _, _, h => h
  | .exn c f ds, v, h => by
    obtain ⟨a, ws, e, t, r⟩ := h
    exact ⟨a, ws, e, ExnAt.show p hl hs t, RepL.show p hl hs ds ws r⟩
theorem RepL.show {φ φ' hid l : List Addr} {H : Hp} (p : Show φ φ' hid l) (hl : ∀ D ∈ l, D ∈ hid) (hs : ∀ D ∈ R.hid, D ∈ hid) : ∀ (ds : List PV) (vs : List V), RepL (R.h hid) φ H ds vs → RepL R φ' H ds vs
  | [], _, h => h
  | d :: ds, vs, h => by
    obtain ⟨v, r, e, h1, h2⟩ := h
    exact ⟨v, r, e, RepV.show p hl hs d v h1, RepL.show p hl hs ds r h2⟩
end
theorem RepO.show {φ φ' hid l : List Addr} {H : Hp} {a : Addr} {m : MO} (p : Show φ φ' hid l) (hl : ∀ D ∈ l, D ∈ hid) (hs : ∀ D ∈ R.hid, D ∈ hid) (r : RepO (R.h hid) φ H a m) : RepO R φ' H a m := by
  cases m with
  | lst ds =>
    obtain ⟨vs, h1, h2, h3⟩ := r
    exact ⟨vs, h1, h2, RepL.show p hl hs _ _ h3⟩
  | dct _ =>
    have go : ∀ {κ : Type} {kp : κ → PV} {kr : κ → Prop} {fs : List (PV × PV)} {gs : List (κ × V)}, DctG (R.h hid) φ H kp kr fs gs → DctG R φ' H kp kr fs gs := fun {κ kp kr fs} => by
      induction fs with
      | nil => intro gs h; exact h
      | cons q fs ih =>
        obtain ⟨k, d⟩ := q
        rintro gs ⟨x, v, r, e, h1, h2, h3, h4⟩
        exact ⟨x, v, r, e, h1, h2, RepV.show p hl hs _ _ h3, ih h4⟩
    rcases r with ⟨gs, h1, h2, h3⟩ | ⟨gs, h1, h2, h3⟩
    · exact .inl ⟨gs, h1, h2, go h3⟩
    · exact .inr ⟨gs, h1, h2, go h3⟩
  | ins c fs =>
    obtain ⟨dx, gs, h1, h2⟩ := r
    have go : ∀ {fs : List (Nat × PV)} {gs : List (Str × V)}, FldL (R.h hid) φ H fs gs → FldL R φ' H fs gs := fun {fs} => by
      induction fs with
      | nil => intro gs h; exact h
      | cons q fs ih =>
        obtain ⟨k, d⟩ := q
        rintro gs ⟨x, v, r, e, h1, h2, h3⟩
        exact ⟨x, v, r, e, h1, RepV.show p hl hs _ _ h2, ih h3⟩
    exact ⟨dx, gs, h1, go h2⟩
theorem made_ok {m : Bool} {φ1 φ : List Addr} {H1 H : Hp} {D : Addr} {st : Sto} {ds : List PV} {vs : List V} {Q : VK} {σ : L2.St} (hD1 : H1 D = none) (S1 : ∀ C ∈ R.hid, H1 C ≠ none) (s : Step φ1 H1 φ H) (S : RepS (R.h (D :: R.hid)) φ st H) (T : Tbs R H) (hD : H D = some (.lst vs)) (r : RepL (R.h (D :: R.hid)) φ H ds vs)
    (p : Post R W σ φ1 H1 (RepV R) (newL m ds st) Q) : Q (.ref D) H := by
  have hs : ∀ C ∈ R.hid, C ∈ D :: R.hid := fun C h => List.mem_cons_of_mem _ h
  have nh : D ∉ R.hid := fun h => S1 D h hD1
  have nφ : D ∉ φ := (S.hd D (List.mem_cons_self ..)).1
  have hl := r.length
  unfold newL at p
  by_cases hz : ds.length ≤ SZ
  · rw [if_pos hz] at p
    cases m with
    | true =>
      simp only [if_true] at p
      have sh : Show φ (φ ++ [D]) (D :: R.hid) [D] := ⟨List.prefix_append φ [D], fun a h1 h2 z => by
        rcases List.mem_append.mp z with z | z
        · exact h1 z
        · exact h2 z⟩
      have hl2 : ∀ C ∈ [D], C ∈ D :: R.hid := fun C h => by rw [List.mem_singleton.mp h]; exact List.mem_cons_self ..
      have len := S.len
      refine p (φ ++ [D]) H (.ref D) ⟨s.pre.trans (List.prefix_append φ [D]), s.keep, s.tbl, fun a h => ?_⟩ ⟨by simp [len], ?_, fun n x a e1 e2 => ?_, fun C hC => ?_⟩ T ⟨D, ?_, rfl⟩
      · rcases List.mem_append.mp h with z | z
        · exact s.new a z
        · rw [List.mem_singleton.mp z]
          exact .inr hD1
      · rw [List.nodup_append]
        refine ⟨S.nd, by simp, fun a ha b hb z => ?_⟩
        rw [List.mem_singleton.mp hb] at z
        exact nφ (z ▸ ha)
      · by_cases hn : n < st.length
        · rw [List.getElem?_append_left hn] at e1
          rw [List.getElem?_append_left (by omega)] at e2
          exact RepO.show sh hl2 hs (S.at_ n x a e1 e2)
        · rw [List.getElem?_append_right (by omega)] at e1
          rw [List.getElem?_append_right (by omega)] at e2
          have h0 : n - st.length = 0 := by
            by_cases q : n - st.length = 0
            · exact q
            · rw [List.getElem?_eq_none (by simp; omega)] at e1; cases e1
          rw [h0] at e1
          rw [show n - φ.length = 0 by omega] at e2
          simp at e1 e2
          subst e1
          subst e2
          exact ⟨vs, hD, by omega, RepL.show sh hl2 hs _ _ r⟩
      · obtain ⟨h1, ws, h2⟩ := S.hd C (hs C hC)
        refine ⟨fun z => ?_, ws, h2⟩
        rcases List.mem_append.mp z with z | z
        · exact h1 z
        · rw [List.mem_singleton.mp z] at hC
          exact nh hC
      · rw [List.getElem?_append_right (by omega), len]
        simp
    | false =>
      simp only [Bool.false_eq_true, if_false] at p
      have sh : Show φ φ (D :: R.hid) [] := ⟨List.prefix_refl φ, fun a h _ => h⟩
      have hl2 : ∀ C ∈ ([] : List Addr), C ∈ D :: R.hid := fun C h => absurd h (by simp)
      exact p φ H (.ref D) s ⟨S.len, S.nd, fun n x a e1 e2 => RepO.show sh hl2 hs (S.at_ n x a e1 e2), fun C hC => S.hd C (hs C hC)⟩ T ⟨D, vs, rfl, ⟨hD, ⟨nφ, nh⟩, fun ps z => by cases z⟩, by omega, RepL.show sh hl2 hs _ _ r⟩
  · rw [if_neg hz] at p
    exact p.elim
end
theorem ag_wipe {σ σ2 : L2.St} {vs : List Nat} (h : Ag ⟨L2.wipe σ vs, vs⟩ σ2) : L2.wipe σ2 vs = L2.wipe σ vs := by
  obtain ⟨h1, h2⟩ := h
  have hl : σ2.length = σ.length := by rw [h1, L2.wipe_length]
  have inn : ∀ {ws : List Nat} {j : Nat}, j ∈ ws → j < σ.length → (L2.wipe σ2 ws)[j]? = (L2.wipe σ ws)[j]? := fun {ws} => by
    induction ws with
    | nil => intro j h; cases h
    | cons w ws ih =>
      intro j hj hlt
      unfold L2.wipe
      by_cases e : w = j
      · subst e
        rw [List.getElem?_set_self (by rw [L2.wipe_length, hl]; exact hlt), List.getElem?_set_self (by rw [L2.wipe_length]; exact hlt)]
      · rw [List.getElem?_set_ne e, List.getElem?_set_ne e]
        rcases List.mem_cons.mp hj with z | z
        · exact absurd z.symm e
        · exact ih z hlt
  refine List.ext_getElem? fun j => ?_
  by_cases hj : j ∈ vs
  · by_cases hlt : j < σ.length
    · exact inn hj hlt
    · rw [List.getElem?_eq_none (by rw [L2.wipe_length]; omega), List.getElem?_eq_none (by rw [L2.wipe_length]; omega)]
  · rw [wipe_out hj, wipe_out hj, h2 j hj, wipe_out hj]
theorem _root_.L2.PTs.imp {X : Cx} {e : List Expr} {t t' : TT} (h : PTs X e t) (k : ∀ σ H Q, t' σ H Q → t σ H Q) : PTs X e t' := ⟨fun pins s σ H Q I q => h.run pins s σ H Q I (k σ H Q q)⟩
section
variable {X : Cx} {R : Rc} {W : WX}
theorem nox_post {α β : Type} {A : List Addr → Hp → α → β → Prop} {m : M α} {σ : L2.St} {φ : List Addr} {H : Hp} {st : Sto} {Q : β → Hp → Prop} {V' W' : WX} (h : Post R W' σ φ H A (M.nox m st) Q) : Post R V' σ φ H A (m st) Q := by
  unfold M.nox at h
  cases e : m st with
  | ok a s => rw [e] at h; exact h
  | exc c v s => rw [e] at h; exact h.elim
  | bad => rw [e] at h; exact h
def turnM (own : List Nat) (mg : PV → Env → M Env) (mc : Env → M Bool) (me : Env → M PV) (ρ : Env) (x : PV) : M (Option PV) := M.nox (M.bnd (mg x (Mp.wipe own ρ)) fun ρ' => M.bnd (mc ρ') fun k => if k then M.bnd (me ρ') fun y => M.ret (some y) else M.ret none)
theorem turnM_nox {own : List Nat} {mg : PV → Env → M Env} {mc : Env → M Bool} {me : Env → M PV} {ρ : Env} {x : PV} : NoX (turnM own mg mc me ρ x) := fun st c v s e => by
  unfold turnM M.nox at e
  split at e
  · cases e
  · rename_i h
    exact h _ _ _ e
theorem mapM_nox {ws : Wat} {f : PV → M (Option PV)} (h : ∀ x, NoX (f x)) : ∀ {xs acc : List PV}, NoX (mapM ws f xs acc)
  | [], acc => NoX.bnd (fun st c v s e => by
      unfold watch at e
      split at e <;> cases e) fun _ => NoX.ret _
  | x :: xs, acc => NoX.bnd (fun st c v s e => by
      unfold watch at e
      split at e <;> cases e) fun _ => NoX.bnd (h x) fun _ => mapM_nox h
theorem watch_post {ws : Wat} {α β : Type} {A : List Addr → Hp → α → β → Prop} {σ : L2.St} {φ : List Addr} {H : Hp} {st : Sto} {f : Unit → M α} {Q : β → Hp → Prop} (h : Post R W σ φ H A (M.bnd (watch ws) f st) Q) : (ws.all fun w => decide (st[w.1]? = some w.2)) = true ∧ Post R W σ φ H A (f () st) Q := by
  unfold M.bnd watch at h
  cases e : ws.all fun w => decide (st[w.1]? = some w.2) with
  | true => rw [e] at h; exact ⟨rfl, h⟩
  | false => rw [e] at h; exact h.elim
def AO (R : Rc) (φ : List Addr) (H : Hp) (a : Option PV) (b : Option V) : Prop := match a, b with
  | none, none => True
  | some d, some v => RepV R φ H d v
  | _, _ => False
def QO (D : Addr) (Nx : Hp → Prop) (b : Option V) (H : Hp) : Prop := match b with
  | some y => ∃ acc, H D = some (.lst acc) ∧ acc.length < sizeLine ∧ Nx (upd H D (.lst (acc ++ [y])))
  | none => Nx H
theorem Step.updN {φ φ' : List Addr} {H H' : Hp} {D : Addr} {o : HO} (s : Step φ H φ' H') (hD : H D = none) : Step φ H φ' (upd H' D o) :=
  ⟨s.pre, fun b u h n t => by rw [upd_ne (ne_of_none h hD)]; exact s.keep b u h n t, fun b ps h n => by rw [upd_ne (ne_of_none h hD)]; exact s.tbl b ps h n, s.new⟩
abbrev tLcM (R : Rc) (G : Gm) (W : WX) (vs : List Nat) (mi : Env → M (List PV × Wat)) (mg : PV → Env → M Env) (mc : Env → M Bool) (me : Env → M PV) : TE :=
  tLc (tI R G W mi) (fun v σ H Q => ∃ hid F, F.vs = vs ∧ tG (R.h hid) g0 W0 F mg v σ H Q) (fun σ H Q => ∃ hid, tMT (R.h hid) g0 W0 mc σ H Q) (fun σ H Q => ∃ hid, tM (R.h hid) g0 W0 me σ H Q) vs
theorem lc_turn {G : Gm} {m : Bool} {own : List (Str × Nat)} {mi : Env → M (List PV × Wat)} {mg : PV → Env → M Env} {mc : Env → M Bool} {me : Env → M PV} (σ : L2.St) (H : Hp) (Q : VK)
    (h : tM R G W (fun ρ => M.bnd (mi ρ) fun xs => M.bnd (mapM xs.2 (turnM (own.map (·.2)) mg mc me ρ) xs.1 []) (newL m)) σ H Q) : tLcM R G W (own.map (·.2)) mi mg mc me σ H Q := by
  obtain ⟨φ, st, ρ, S, E, T, h⟩ := h
  refine ⟨φ, st, ρ, S, E, T, Post.mono (Post.bnd h) fun J H1 ⟨φ1, st1, xs, s1, S1, T1, r1, p1⟩ => fun D hD => ?_⟩
  obtain ⟨xs, ws⟩ := xs
  have r1 : ItRep R φ1 H1 xs ws J := r1
  have p1 : Post R W σ φ1 H1 (RepV R) (M.bnd (mapM ws (turnM (own.map (·.2)) mg mc me ρ) xs []) (newL m) st1) Q := p1
  have E1 := E.step s1
  have hh : Hd R H1 (D :: R.hid) := fun C hC => by
    rcases List.mem_cons.mp hC with z | z
    · rw [z]; exact .inr hD
    · exact .inl z
  have nn : ∀ C ∈ R.hid, H1 C ≠ none := fun C hC => by
    obtain ⟨_, vs, e⟩ := S1.hd C hC
    rw [e]
    exact fun z => by cases z
  have dh : D ∈ (R.h (D :: R.hid)).hid := List.mem_cons_self ..
  refine ⟨fun i k H => i ≤ xs.length ∧ k = xs.length - i ∧ ∃ φ st ds vs, Step φ1 H1 φ H ∧ RepS (R.h (D :: R.hid)) φ st H ∧ Tbs R H ∧ H D = some (.lst vs) ∧ RepL (R.h (D :: R.hid)) φ H ds vs ∧ Post R W σ φ1 H1 (RepV R) (M.bnd (mapM ws (turnM (own.map (·.2)) mg mc me ρ) (xs.drop i) ds) (newL m) st) Q,
    ⟨xs.length, Nat.zero_le _, rfl, φ1, st1, [], [], step_new hD, S1.hide hD, T1.new hD, upd_same, rfl, p1⟩, ?_⟩
  rintro i k H ⟨hi, rfl, φ, st, ds, vs, s, S, T, hDv, rl, p⟩
  by_cases hlt : i < xs.length
  · refine .inr ?_
    rw [List.drop_eq_getElem_cons hlt] at p
    unfold mapM at p
    rw [bnd_ret] at p
    obtain ⟨hw, p⟩ := watch_post p
    obtain ⟨_, g⟩ := r1 (D :: R.hid) hh i φ st H s S T hw
    obtain ⟨g1, g2⟩ := g xs[i] (List.getElem?_eq_getElem hlt)
    refine ⟨g1, fun H => ∃ φ st ds vs, Step φ1 H1 φ H ∧ RepS (R.h (D :: R.hid)) φ st H ∧ Tbs R H ∧ H D = some (.lst vs) ∧ RepL (R.h (D :: R.hid)) φ H ds vs ∧ Post R W σ φ1 H1 (RepV R) (M.bnd (mapM ws (turnM (own.map (·.2)) mg mc me ρ) (xs.drop (i + 1)) ds) (newL m) st) Q,
      fun H' w => ⟨xs.length - (i + 1), by omega, hlt, rfl, w⟩, fun x H' y => ?_⟩
    obtain ⟨s2, S2, T2, rv⟩ := g2 x H' y
    have hDv2 := s2.keep D _ hDv (S.hd D dh).1 (fun ps z => by cases z)
    have rl2 := RepL.step s2 _ _ rl
    have E2 : RepE (R.h (D :: R.hid)) g0 φ H' (Mp.wipe (own.map (·.2)) ρ) (L2.wipe σ (own.map (·.2))) := E1.block (s.trans s2) hh
    rw [bnd_ret] at p
    cases eT : turnM (own.map (·.2)) mg mc me ρ xs[i] st with
    | exc c v s' => exact (turnM_nox _ _ _ _ eT).elim
    | bad =>
      unfold M.bnd at p
      rw [eT] at p
      exact p.elim
    | ok o st' =>
      have p' : Post R W σ φ1 H1 (RepV R) (M.bnd (mapM ws (turnM (own.map (·.2)) mg mc me ρ) (xs.drop (i + 1)) (addO ds o)) (newL m) st') Q := by
        unfold M.bnd at p
        rw [eT] at p
        exact p
      have e0 : (M.bnd (mg xs[i] (Mp.wipe (own.map (·.2)) ρ)) fun ρ' => M.bnd (mc ρ') fun k => if k then M.bnd (me ρ') fun y => M.ret (some y) else M.ret none) st = .ok o st' := by
        unfold turnM M.nox at eT
        split at eT
        · cases eT
        · exact eT
      have run : Post (R.h (D :: R.hid)) (WF W0 ⟨L2.wipe σ (own.map (·.2)), own.map (·.2)⟩) [] φ H' (AO (R.h (D :: R.hid))) ((M.bnd (mg xs[i] (Mp.wipe (own.map (·.2)) ρ)) fun ρ' => M.bnd (mc ρ') fun k => if k then M.bnd (me ρ') fun y => M.ret (some y) else M.ret none) st)
          (QO D fun H => ∃ φ st ds vs, Step φ1 H1 φ H ∧ RepS (R.h (D :: R.hid)) φ st H ∧ Tbs R H ∧ H D = some (.lst vs) ∧ RepL (R.h (D :: R.hid)) φ H ds vs ∧ Post R W σ φ1 H1 (RepV R) (M.bnd (mapM ws (turnM (own.map (·.2)) mg mc me ρ) (xs.drop (i + 1)) ds) (newL m) st) Q) := by
        rw [e0]
        intro φ' H'' b s3 S3 T3 r3
        have st3 := (s.trans s2).trans s3
        have hDv3 := s3.keep D _ hDv2 (S2.hd D dh).1 (fun ps z => by cases z)
        have rl3 := RepL.step s3 _ _ rl2
        cases o with
        | none =>
          cases b with
          | none => exact ⟨φ', st', ds, vs, st3, S3, T3, hDv3, rl3, p'⟩
          | some y => exact False.elim r3
        | some d =>
          cases b with
          | none => exact False.elim r3
          | some y =>
            have hz : vs.length < sizeLine := by
              rw [sz_eq, ← rl3.length]
              unfold M.bnd at p'
              split at p'
              · rename_i q
                have := map_len q
                unfold addO at this
                rw [List.length_append] at this
                unfold newL at p'
                split at p'
                · rename_i hz
                  have : [d].length = 1 := rfl
                  omega
                · exact p'.elim
              · rename_i q
                exact (mapM_nox (fun _ => turnM_nox) _ _ _ _ q).elim
              · exact p'.elim
            exact ⟨vs, hDv3, hz, φ', st', ds ++ [d], vs ++ [y], st3.updN hD, S3.updD dh, T3.updD hDv3, upd_same, (RepL.updD dh _ _ rl3).append (RepL.one (RepV.updD dh _ _ r3)), p'⟩
      refine ⟨D :: R.hid, ⟨L2.wipe σ (own.map (·.2)), own.map (·.2)⟩, rfl, φ, st, _, xs[i], S2, E2, ⟨rfl, fun _ _ => rfl⟩, T2, rv, Post.mono (Post.bnd run) fun σ2 H2 ⟨φ3, st3, ρ3, s3, S3, T3, t3, p3⟩ => ?_⟩
      refine ⟨ag_wipe t3.ag, D :: R.hid, φ3, st3, ρ3, S3, t3.e, T3, Post.mono ((Post.bnd (A := AB) p3).wf t3.ag) fun b H3 ⟨φ4, st4, k, s4, S4, T4, ek, p4⟩ => ?_⟩
      have ek : k = b := ek
      subst ek
      cases k with
      | true =>
        simp only [if_true] at p4 ⊢
        exact ⟨D :: R.hid, φ4, st4, ρ3, S4, t3.e.step s4, T4, Post.mono ((Post.bnd p4).wf t3.ag) fun y H4 ⟨φ5, st5, d, s5, S5, T5, r5, p5⟩ => p5 φ5 H4 (some y) (Step.refl _ _) S5 T5 r5⟩
      | false =>
        simp only [Bool.false_eq_true, if_false] at p4 ⊢
        exact p4 φ4 H3 none (Step.refl _ _) S4 T4 trivial
  · have hi' : xs.length ≤ i := by omega
    rw [List.drop_eq_nil_of_le hi'] at p
    unfold mapM at p
    rw [bnd_ret] at p
    obtain ⟨hw, p⟩ := watch_post p
    exact .inl ⟨(r1 (D :: R.hid) hh i φ st H s S T hw).1 hi', made_ok hD nn s S T hDv rl p⟩
theorem s_lc {m : Bool} {own : List (Str × Nat)} {elt tg iter : Expr} {ifs : List Expr} {scope : Scope} {pos : Pos} {mi : Env → M (List PV × Wat)} {mg : PV → Env → M Env} {mc : Env → M Bool} {me : Env → M PV} (hc : X.calm = true) (hN : X.N.Nodup) (ok : BlkOk X.N X.env.scope scope own) (hi : PI X tg iter (tI R (gOf X) W mi))
    (hg : ∀ (hid : List Addr) (F : Fr) (s : Shared) (H : Hp) (C : Addr) (cl : List (Str × Addr)) (fp : List Addr), F.vs = own.map (·.2) → PG (X.blk s H scope (compEnvC scope cl C X.env) fp) tg (tG (R.h hid) g0 W0 F mg))
    (ht : ∀ (hid : List Addr) (s : Shared) (H : Hp) (C : Addr) (cl : List (Str × Addr)) (fp : List Addr), PTs (X.blk s H scope (compEnvC scope cl C X.env) fp) ifs (tMT (R.h hid) g0 W0 mc))
    (he : ∀ (hid : List Addr) (s : Shared) (H : Hp) (C : Addr) (cl : List (Str × Addr)) (fp : List Addr), PE (X.blk s H scope (compEnvC scope cl C X.env) fp) elt (tM (R.h hid) g0 W0 me)) (hs : ∀ x, foldedSetIterable iter X.env x = pure x) :
    PE X (.ListComp elt [⟨tg, iter, ifs, 0⟩] scope pos) (tM R (gOf X) W fun ρ => M.bnd (mi ρ) fun xs => M.bnd (mapM xs.2 (turnM (own.map (·.2)) mg mc me ρ) xs.1 []) (newL m)) :=
  (pe_lc hc hN hi ok (fun s H C cl fp => ⟨fun pins s' σ H v u Q I r ⟨hid, F, hF, q⟩ => (hg hid F s _ C cl fp hF).run pins s' σ H v u Q I r q⟩) (fun s H C cl fp => ⟨fun pins s' σ H Q I ⟨hid, q⟩ => (ht hid s _ C cl fp).run pins s' σ H Q I q⟩)
    (fun s H C cl fp => ⟨fun pins s' σ H Q I ⟨hid, q⟩ => (he hid s _ C cl fp).run pins s' σ H Q I q⟩) hs).imp lc_turn
theorem st_setLc {F : Fr} {i : Nat} {y : Str} {py : Pos} {m : Bool} {own : List (Str × Nat)} {elt tg iter : Expr} {ifs : List Expr} {scope : Scope} {pos spos : Pos} {mi : Env → M (List PV × Wat)} {mg : PV → Env → M Env} {mc : Env → M Bool} {me : Env → M PV} (hv : i ∈ F.vs) (hy : X.N[i]? = some y) (hyl : X.env.scope.names.lookup y = some .local)
    (hsw : swapsWith (.ListComp elt [⟨tg, iter, ifs, 0⟩] scope pos) (some (.Name y py)) spos.line X.env = pure true) (hc : X.calm = true) (hN : X.N.Nodup) (ok : BlkOk X.N X.env.scope scope own) (hi : PI X tg iter (tI R (gOf X) W mi))
    (hg : ∀ (hid : List Addr) (F : Fr) (s : Shared) (H : Hp) (C : Addr) (cl : List (Str × Addr)) (fp : List Addr), F.vs = own.map (·.2) → PG (X.blk s H scope (compEnvC scope cl C X.env) fp) tg (tG (R.h hid) g0 W0 F mg))
    (ht : ∀ (hid : List Addr) (s : Shared) (H : Hp) (C : Addr) (cl : List (Str × Addr)) (fp : List Addr), PTs (X.blk s H scope (compEnvC scope cl C X.env) fp) ifs (tMT (R.h hid) g0 W0 mc))
    (he : ∀ (hid : List Addr) (s : Shared) (H : Hp) (C : Addr) (cl : List (Str × Addr)) (fp : List Addr), PE (X.blk s H scope (compEnvC scope cl C X.env) fp) elt (tM (R.h hid) g0 W0 me)) (hs : ∀ x, foldedSetIterable iter X.env x = pure x) :
    PS X (.Assign [.Name y py] (.ListComp elt [⟨tg, iter, ifs, 0⟩] scope pos) spos) (tS R (gOf X) W F fun ρ => M.bnd (M.bnd (mi ρ) fun xs => M.bnd (mapM xs.2 (turnM (own.map (·.2)) mg mc me ρ) xs.1 []) (newL m)) fun v => M.bnd (M.ret (ρ.set i (some v))) fun ρ' => M.ret (.nx, ρ')) :=
  tS.start (ps_setLc hc hN hy hyl hsw hi ok (fun s H C cl fp => ⟨fun pins s' σ H v u Q I r ⟨hid, F, hF, q⟩ => (hg hid F s _ C cl fp hF).run pins s' σ H v u Q I r q⟩) (fun s H C cl fp => ⟨fun pins s' σ H Q I ⟨hid, q⟩ => (ht hid s _ C cl fp).run pins s' σ H Q I q⟩)
    (fun s H C cl fp => ⟨fun pins s' σ H Q I ⟨hid, q⟩ => (he hid s _ C cl fp).run pins s' σ H Q I q⟩) hs) fun φ st ρ D σ H p h =>
      lc_turn σ H _ (p.tM (me := fun ρ => M.bnd (mi ρ) fun xs => M.bnd (mapM xs.2 (turnM (own.map (·.2)) mg mc me ρ) xs.1 []) (newL m)) (f := fun v => M.bnd (M.ret (ρ.set i (some v))) fun ρ' => M.ret (.nx, ρ')) h fun φ1 st1 d v H1 s1 q1 r1 p1 => p1 φ1 H1 (σ.set i (some v)) (Step.refl _ _) q1.S q1.T (q1.E.set i r1.x) (q1.ag.set hv _))
end
end Mp
namespace Mp
open PySem PySem.Spec PyProof.Rows L2
theorem argsBy_len {α : Type} {xs : List α} : ∀ {ord : List Nat} {ys : List α}, argsBy xs ord = some ys → ys.length = ord.length
  | [], _, e => by cases e; rfl
  | i :: r, ys, e => by
    unfold argsBy at e
    split at e
    · rename_i x zs q1 q2
      cases e
      simp [argsBy_len q2]
    · cases e
theorem argsBy_vals {us : List Value} {vs : List V} (r : Vals vs us) : ∀ {ord : List Nat} {ys : List V}, argsBy vs ord = some ys → ∃ ws, argsBy us ord = some ws ∧ Vals ys ws
  | [], _, e => by cases e; exact ⟨[], rfl, .nil⟩
  | i :: o, ys, e => by
    unfold argsBy at e
    split at e
    · rename_i x zs q1 q2
      cases e
      obtain ⟨u, h1, h2⟩ := r.get q1
      obtain ⟨ws, h3, h4⟩ := argsBy_vals r q2
      exact ⟨u :: ws, by unfold argsBy; rw [h1, h3], .cons h2 h4⟩
    · cases e
theorem argsBy_rep {R : Rc} {φ : List Addr} {H : Hp} {ds : List PV} {vs : List V} (r : RepL R φ H ds vs) : ∀ {ord : List Nat} {ys : List PV}, argsBy ds ord = some ys → ∃ ws, argsBy vs ord = some ws ∧ RepL R φ H ys ws
  | [], _, e => by cases e; exact ⟨[], rfl, rfl⟩
  | i :: o, ys, e => by
    unfold argsBy at e
    split at e
    · rename_i x zs q1 q2
      cases e
      obtain ⟨u, h1, h2⟩ := r.get q1
      obtain ⟨ws, h3, h4⟩ := argsBy_rep r q2
      exact ⟨u :: ws, by unfold argsBy; rw [h1, h3], u, ws, rfl, h2, h4⟩
    · cases e
structure KwB (K : PySem.W.Frag) (fd : FuncData) (ps : List Str) (n : Nat) (ks : List Str) (ord : List Nat) : Prop where
  to : ∀ (s : Shared) (us ws zs : List Value), K.In s.heap → us.length = n → ws.length = ks.length → argsBy (us ++ ws) ord = some zs → BindsTo s fd ⟨us, ks.zip ws⟩ (ps.zip zs)
  len : ord.length = ps.length
section
variable {X : Cx} {R : Rc} {W : WX} {k n : Nat} {f : Addr} {fd : FuncData} {ps ks : List Str} {m : List PV → M PV} {ord : List Nat}
theorem _root_.L2.PK.imp {e : List Keyword} {t t' : TA} (h : PK X e t) (k : ∀ σ H Q, t' σ H Q → t σ H Q) : PK X e t' := ⟨fun pos pins s σ H Q I q => h.run pos pins s σ H Q I (k σ H Q q)⟩
theorem k_nil {G : Gm} : PK X [] (tMA' R G W fun _ => M.ret []) := pk_nil.imp fun σ H Q ⟨φ, st, ρ, S, E, T, h⟩ => h φ H [] (Step.refl _ _) S T rfl
theorem k_cons {G : Gm} {a : Expr} {nm : Option Str} {kp : Pos} {kws : List Keyword} {ma : Env → M PV} {ms : Env → M (List PV)} (ha : PE X a (tM R G W ma)) (hr : PK X kws (tMA' R G W ms)) : PK X (⟨nm, a, kp⟩ :: kws) (tMA' R G W fun ρ => M.bnd (ma ρ) fun x => M.bnd (ms ρ) fun xs => M.ret (x :: xs)) :=
  (pk_cons ha hr).imp fun σ H Q ⟨φ, st, ρ, S, E, T, h⟩ => tM.then (f := fun ρ x => M.bnd (ms ρ) fun xs => M.ret (x :: xs)) S E T h fun φ1 st1 d v H1 s1 S1 E1 T1 r1 p1 =>
    ⟨φ1, st1, ρ, S1, E1, T1, Post.mono (Post.bnd p1) fun vs H2 ⟨φ2, st2, ds, s2, S2, T2, r2, p2⟩ => p2 φ2 H2 _ (Step.refl _ _) S2 T2 ⟨v, vs, rfl, r1.step s2, r2⟩⟩
theorem run_Mk {pins : List (Addr × Obj)} {σ : L2.St} {H : Hp} {s : Shared} {Q : VK} {us ws : List Value} {vs zs : List V} {ds es : List PV} {φ : List Addr} {st : Sto} (F : FnM X.prog X.w X.K X.mg X.base R k f fd ps m) (hr : Room k X.A) (hb : KwB X.K fd ps n ks ord) (tk : Takes X W)
    (I : Inv X pins σ H s) (r : Vals vs us) (rz : Vals zs ws) (l1 : us.length = n) (l2 : ws.length = ks.length) (S : RepS R φ st H) (T : Tbs R H) (x : RepL R φ H ds vs) (xz : RepL R φ H es zs) (p : Post R W σ φ H (RepV R) (M.bnd (M.opt (argsBy (ds ++ es) ord)) m st) Q) :
    wpAny (model X.prog X.w) X.A (call (.ref f) us (ks.zip ws)) (EP X pins σ Q) X.xe s := by
  cases q : argsBy (ds ++ es) ord with
  | none => rw [q] at p; exact p.elim
  | some as =>
    rw [q] at p
    have p : Post R W σ φ H (RepV R) (m as st) Q := p
    obtain ⟨bs, h1, h2⟩ := argsBy_rep (x.append xz) q
    obtain ⟨cs, h3, h4⟩ := argsBy_vals (r.append rz) h1
    refine wpAny_call (codeAny_mono (F.run R.hid X.A X.stack s H ⟨us, ks.zip ws⟩ cs bs as φ st Q (fun c d H => W c d σ H) hr I.env0 (hb.to s us ws cs I.kIn l1 l2 h3) h4 (by rw [argsBy_len q]; exact hb.len) S T h2.x p.wish) fun r s' hq => ?_)
    cases r with
    | error e => exact tk e s' (XE.of_call I (fun _ _ _ h => h) hq)
    | ok fl =>
      cases fl with
      | ret u => exact I.after hq
      | next => exact False.elim hq
      | brk => exact False.elim hq
      | cont => exact False.elim hq
theorem s_callK {G : Gm} {x : Str} {p pos : Pos} {e : Expr} {es : List Expr} {kws : List Keyword} {ms mk : Env → M (List PV)} (F : FnM X.prog X.w X.K X.mg X.base R k f fd ps m) (hr : Room k X.A) (hg : Gl X x) (hm : X.mg x = some (.ref f)) (hk : PySem.W.keepIn X.K (.ref f) = true) (hb : KwB X.K fd ps n ks ord) (tk : Takes X W)
    (ha : PA X (e :: es) (tMA' R G W ms)) (hkw : PK X kws (tMA' R G W mk)) (l1 : ∀ ρ st xs st', ms ρ st = .ok xs st' → xs.length = n) (l2 : ∀ ρ st xs st', mk ρ st = .ok xs st' → xs.length = ks.length) (hall : (backToKw pos (keywordEach kws X.env)).all (·.1.isSome) = true) (hks : (backToKw pos (keywordEach kws X.env)).filterMap (·.1) = ks)
    (hdb : (x == ("__debug__" : Str)) = false) (he : starEach (e :: es) X.env = (false, eval e X.env) :: starEach es X.env) (hpl : ((backTo pos (starEach (e :: es) X.env)).any (·.1) || (backToKw pos (keywordEach kws X.env)).any (·.1.isNone)) = false) :
    PE X (.Call (.Name x p) (e :: es) kws pos) (tM R G W fun ρ => M.bnd (ms ρ) fun xs => M.bnd (mk ρ) fun ys => M.bnd (M.opt (argsBy (xs ++ ys) ord)) m) := by
  refine ⟨fun pins s σ H Q I ⟨φ, st, ρ, S, E, T, h⟩ => ?_⟩
  refine wpAny_Call_Name_kw (ld_glob I hg hm ?_ hdb)
  refine PySem.W.callWith_KW (h₀ := X.base) I.ok.mod.kin hk hall (thn (ha.run pos pins s σ H (fun vs H1 => ∃ φ1 st1 ds, Step φ H φ1 H1 ∧ RepS R φ1 st1 H1 ∧ RepE R G φ1 H1 ρ σ ∧ Tbs R H1 ∧ RepL R φ1 H1 ds vs ∧ ds.length = n ∧ Post R W σ φ1 H1 (RepV R) (M.bnd (mk ρ) (fun ys => M.bnd (M.opt (argsBy (ds ++ ys) ord)) m) st1) Q) I
    ⟨φ, st, ρ, S, E, T, ?_⟩) fun us s1 ⟨vs, H1, I1, r, φ1, st1, ds, s1', S1, E1, T1, r1, n1, p1⟩ => ?_) hpl he
  · cases q : ms ρ st with
    | ok ds st1 =>
      have h : Post R W σ φ H (RepV R) (M.bnd (ms ρ) (fun xs => M.bnd (mk ρ) fun ys => M.bnd (M.opt (argsBy (xs ++ ys) ord)) m) st) Q := h
      unfold M.bnd at h
      rw [q] at h
      exact fun φ1 H1 vs a b c d => ⟨φ1, st1, ds, a, b, E.step a, c, d, l1 ρ st ds st1 q, Post.step a h⟩
    | exc c v s' =>
      have h : Post R W σ φ H (RepV R) (M.bnd (ms ρ) (fun xs => M.bnd (mk ρ) fun ys => M.bnd (M.opt (argsBy (xs ++ ys) ord)) m) st) Q := h
      unfold M.bnd at h
      rw [q] at h
      exact h
    | bad =>
      have h : Post R W σ φ H (RepV R) (M.bnd (ms ρ) (fun xs => M.bnd (mk ρ) fun ys => M.bnd (M.opt (argsBy (xs ++ ys) ord)) m) st) Q := h
      unfold M.bnd at h
      rw [q] at h
      exact h
  · refine thn (hkw.run pos pins s1 σ H1 (fun zs H2 => ∃ φ2 st2 es, Step φ1 H1 φ2 H2 ∧ RepS R φ2 st2 H2 ∧ Tbs R H2 ∧ RepL R φ2 H2 es zs ∧ es.length = ks.length ∧ Post R W σ φ2 H2 (RepV R) (M.bnd (M.opt (argsBy (ds ++ es) ord)) m st2) Q) I1 ⟨φ1, st1, ρ, S1, E1, T1, ?_⟩) fun ws s2 ⟨zs, H2, I2, rz, φ2, st2, es', s2', S2, T2, r2, n2, p2⟩ => ⟨I2.kIn, ?_⟩
    · cases q : mk ρ st1 with
      | ok es st2 =>
        unfold M.bnd at p1
        rw [q] at p1
        exact fun φ2 H2 zs a b c d => ⟨φ2, st2, es, a, b, c, d, l2 ρ st1 es st2 q, Post.step a p1⟩
      | exc c v s' =>
        unfold M.bnd at p1
        rw [q] at p1
        exact p1
      | bad =>
        unfold M.bnd at p1
        rw [q] at p1
        exact p1
    · rw [hks]
      exact run_Mk F hr hb tk I2 (us := us) r rz (by rw [← r.length, ← r1.length]; exact n1) (by rw [← rz.length, ← r2.length]; exact n2) S2 T2 (RepL.step s2' _ _ r1) r2 p2
theorem s_callK0 {G : Gm} {x : Str} {p pos : Pos} {kws : List Keyword} {mk : Env → M (List PV)} (F : FnM X.prog X.w X.K X.mg X.base R k f fd ps m) (hr : Room k X.A) (hg : Gl X x) (hm : X.mg x = some (.ref f)) (hk : PySem.W.keepIn X.K (.ref f) = true) (hb : KwB X.K fd ps 0 ks ord) (tk : Takes X W)
    (hkw : PK X kws (tMA' R G W mk)) (l2 : ∀ ρ st xs st', mk ρ st = .ok xs st' → xs.length = ks.length) (hall : (backToKw pos (keywordEach kws X.env)).all (·.1.isSome) = true) (hks : (backToKw pos (keywordEach kws X.env)).filterMap (·.1) = ks)
    (hdb : (x == ("__debug__" : Str)) = false) (hpl : ((backTo pos (starEach [] X.env)).any (·.1) || (backToKw pos (keywordEach kws X.env)).any (·.1.isNone)) = false) :
    PE X (.Call (.Name x p) [] kws pos) (tM R G W fun ρ => M.bnd (M.ret []) fun xs => M.bnd (mk ρ) fun ys => M.bnd (M.opt (argsBy (xs ++ ys) ord)) m) := by
  refine ⟨fun pins s σ H Q I ⟨φ, st, ρ, S, E, T, h⟩ => ?_⟩
  refine wpAny_Call_Name_kw (ld_glob I hg hm ?_ hdb)
  have p1 : Post R W σ φ H (RepV R) (M.bnd (mk ρ) (fun ys => M.bnd (M.opt (argsBy ([] ++ ys) ord)) m) st) Q := h
  refine PySem.W.callWith_KW0 (h₀ := X.base) I.ok.mod.kin hk hall ?_ hpl
  refine thn (hkw.run pos pins s σ H (fun zs H2 => ∃ φ2 st2 es, Step φ H φ2 H2 ∧ RepS R φ2 st2 H2 ∧ Tbs R H2 ∧ RepL R φ2 H2 es zs ∧ es.length = ks.length ∧ Post R W σ φ2 H2 (RepV R) (M.bnd (M.opt (argsBy ([] ++ es) ord)) m st2) Q) I ⟨φ, st, ρ, S, E, T, ?_⟩) fun ws s2 ⟨zs, H2, I2, rz, φ2, st2, es', s2', S2, T2, r2, n2, p2⟩ => ⟨I2.kIn, ?_⟩
  · cases q : mk ρ st with
    | ok es st2 =>
      unfold M.bnd at p1
      rw [q] at p1
      exact fun φ2 H2 zs a b c d => ⟨φ2, st2, es, a, b, c, d, l2 ρ st es st2 q, Post.step a p1⟩
    | exc c v s' =>
      unfold M.bnd at p1
      rw [q] at p1
      exact p1
    | bad =>
      unfold M.bnd at p1
      rw [q] at p1
      exact p1
  · rw [hks]
    exact run_Mk (us := []) (vs := []) (ds := []) F hr hb tk I2 .nil rz rfl (by rw [← rz.length, ← r2.length]; exact n2) S2 T2 rfl r2 p2
theorem run_mkM {pins : List (Addr × Obj)} {σ : L2.St} {H : Hp} {s : Shared} {Q : VK} {us : List Value} {vs : List V} {ds : List PV} {φ : List Addr} {st : Sto} {c : Nat} (M0 : Mk X.K (R.cad c) f) (F : FnM X.prog X.w X.K X.mg X.base R k f fd ps m) (hr : Room (k + 1) X.A) (hb : Binds X.K fd ps []) (tk : Takes X W)
    (I : Inv X pins σ H s) (r : Vals vs us) (hl : ds.length + 1 = ps.length) (S : RepS R φ st H) (T : Tbs R H) (x : RepL R φ H ds vs) (p : Post R W σ φ H (RepV R) (mkM m c ds st) Q) : wpAny (model X.prog X.w) X.A (call (.ref (R.cad c)) us) (EP X pins σ Q) X.xe s := by
  have fx : H (s.heap.objs.size + 1) = none := I.hok.fresh (Nat.le_succ _)
  have fd' : H s.heap.objs.size = none := I.hok.fresh (Nat.le_refl _)
  have ne : s.heap.objs.size + 1 ≠ s.heap.objs.size := Nat.succ_ne_self _
  have I2 := Inv.made (C := R.cad c) I
  have S1 := S.new (o := .own (s.heap.objs.size + 1)) fd'
  have T1 := T.new (o := .own (s.heap.objs.size + 1)) fd'
  have fx1 : upd H s.heap.objs.size (.own (s.heap.objs.size + 1)) (s.heap.objs.size + 1) = none := by rw [upd_ne ne]; exact fx
  have S2 := S1.snoc (o := .ins (R.cad c) s.heap.objs.size []) (m := .ins c []) fx1 ⟨_, [], upd_same, rfl⟩
  have T2 := T1.new (o := .ins (R.cad c) s.heap.objs.size []) fx1
  have st2 := (step_new (φ := φ) (o := .own (s.heap.objs.size + 1)) fd').trans (step_sto (o := .ins (R.cad c) s.heap.objs.size []) fx1)
  have hn : (φ ++ [s.heap.objs.size + 1])[st.length]? = some (s.heap.objs.size + 1) := by
    rw [List.getElem?_append_right (by rw [S.len]; exact Nat.le_refl _), S.len]
    simp
  have x2 : RepL R (φ ++ [s.heap.objs.size + 1]) (upd (upd H s.heap.objs.size (.own (s.heap.objs.size + 1))) (s.heap.objs.size + 1) (.ins (R.cad c) s.heap.objs.size [])) (.loc st.length :: ds) (.ref (s.heap.objs.size + 1) :: vs) := ⟨_, _, rfl, ⟨_, hn, rfl⟩, RepL.step st2 _ _ x⟩
  have r2 : Vals (V.ref (s.heap.objs.size + 1) :: vs) (Value.ref (s.heap.objs.size + 1) :: us) := .cons rfl r
  have hl2 : ((Value.ref (s.heap.objs.size + 1) :: us) ++ []).length = ps.length := by
    rw [List.append_nil, ← r2.length, ← x2.length]
    exact hl
  have hbb := hb { s with heap := (s.heap.push PySem.W.emptyDict).push (PySem.W.instObj (R.cad c) s.heap.objs.size) } (Value.ref (s.heap.objs.size + 1) :: us) I2.kIn hl2
  rw [List.append_nil] at hbb
  have p : Post R W σ φ H (RepV R) (M.bnd (m (.loc st.length :: ds)) (nonM st.length) (st ++ [.ins c []])) Q := p
  have pp : Post R (fun c d _ H => W c d σ H) [] (φ ++ [s.heap.objs.size + 1]) (upd (upd H s.heap.objs.size (.own (s.heap.objs.size + 1))) (s.heap.objs.size + 1) (.ins (R.cad c) s.heap.objs.size [])) (RepV R) (m (.loc st.length :: ds) (st ++ [.ins c []])) (fun v H2 => v = .non ∧ Q (.ref (s.heap.objs.size + 1)) H2) := by
    refine (Post.mono (Post.bnd (Post.step st2 p)) fun v H2 ⟨φ3, st3, d, s3, S3, T3, r3, p3⟩ => ?_).wish
    cases d with
    | non => exact ⟨r3, p3 φ3 H2 _ (Step.refl _ _) S3 T3 ⟨_, get_pre s3.pre hn, rfl⟩⟩
    | _ => exact False.elim p3
  refine wpAny_call (make_map (f := f) I.kIn M0.makes M0.init (beq_iff_eq.mp M0.fn) (codeAny_mono (F.run R.hid _ X.stack _ _ ⟨Value.ref (s.heap.objs.size + 1) :: us, []⟩ _ _ (.loc st.length :: ds) _ _ _ (fun c d H => W c d σ H) (hr.make (R.cad c) us [])
    (I2.env0.make (R.cad c) us []) hbb r2 (by rw [List.length_cons]; exact hl) S2 T2 x2.x pp) fun r s' hq' => ?_))
  cases r with
  | error e => exact tk e s' (XE.of_call I2 (fun _ _ _ h => h) hq')
  | ok fl =>
    cases fl with
    | ret u =>
      obtain ⟨v, H', I3, rv, ev, q3⟩ := I2.after hq'
      subst ev
      exact ⟨rv, ⟨V.ref (s.heap.objs.size + 1), H', I3, rfl, q3⟩⟩
    | next => exact False.elim hq'
    | brk => exact False.elim hq'
    | cont => exact False.elim hq'
theorem mk_len {m : List PV → M PV} {c l : Nat} {ds : List PV} {st : Sto} (hn : ∀ ds st, m ds st ≠ .bad → ds.length = l) (h : mkM m c ds st ≠ .bad) : ds.length + 1 = l := by
  refine hn (.loc st.length :: ds) (st ++ [.ins c []]) fun z => h ?_
  show M.bnd (m (.loc st.length :: ds)) (nonM st.length) (st ++ [.ins c []]) = .bad
  unfold M.bnd
  rw [z]
theorem s_mk {G : Gm} {c : Nat} {x : Str} {p pos : Pos} {e : Expr} {es : List Expr} {ms : Env → M (List PV)} (M0 : Mk X.K (R.cad c) f) (F : FnM X.prog X.w X.K X.mg X.base R k f fd ps m) (hn : ∀ ds st, m ds st ≠ .bad → ds.length = ps.length) (hr : Room (k + 1) X.A) (hg : Gl X x) (hm : X.mg x = some (.ref (R.cad c))) (hb : Binds X.K fd ps []) (tk : Takes X W)
    (ha : PA X (e :: es) (tMA' R G W ms)) (hdb : (x == ("__debug__" : Str)) = false) (he : starEach (e :: es) X.env = (false, eval e X.env) :: starEach es X.env) (hpl : (backTo pos (starEach es X.env)).any (·.1) = false) :
    PE X (.Call (.Name x p) (e :: es) [] pos) (tM R G W fun ρ => M.bnd (ms ρ) (mkM m c)) := by
  refine ⟨fun pins s σ H Q I ⟨φ, st, ρ, S, E, T, h⟩ => ?_⟩
  refine wpAny_Call_Name_kw (ld_glob I hg hm ?_ hdb)
  refine PySem.W.callWith_K (h₀ := X.base) I.ok.mod.kin M0.kp (thn (ha.run pos pins s σ H (fun vs H1 => ∃ φ1 st1 ds, RepS R φ1 st1 H1 ∧ Tbs R H1 ∧ RepL R φ1 H1 ds vs ∧ Post R W σ φ1 H1 (RepV R) (mkM m c ds st1) Q) I ⟨φ, st, ρ, S, E, T, Post.mono (Post.bnd h) fun vs H1 ⟨φ1, st1, ds, s1, S1, T1, r1, p1⟩ => ⟨φ1, st1, ds, S1, T1, r1, p1⟩⟩) fun us s1 ⟨vs, H1, I1, r, φ1, st1, ds, S1, T1, r1, p1⟩ => ⟨I1.kIn, ?_⟩) he hpl
  exact run_mkM M0 F hr hb tk I1 r (mk_len hn fun z => by rw [z] at p1; exact p1) S1 T1 r1 p1
structure MetM (P : Program) (w : World) (K : PySem.W.Frag) (mg : Str → Option Value) (base : Heap) (R : Rc) (k c g : Nat) (m : List PV → M PV) : Prop where
  ex : ∃ (f : Addr) (fd : FuncData) (ps : List Str), Cls K (R.cad c) ∧ Meth K (R.cad c) (R.mnm g) f ∧ FnM P w K mg base R k f fd ps m ∧ Binds K fd ps [] ∧ (∀ ds st, m ds st ≠ .bad → ds.length = ps.length) ∧ ∀ h : Nat, R.fld.lookup h ≠ some (R.mnm g)
theorem fld_none {φ : List Addr} {H : Hp} {x : Str} (hx : ∀ h : Nat, R.fld.lookup h ≠ some x) : ∀ {fs : List (Nat × PV)} {gs : List (Str × V)}, FldL R φ H fs gs → gs.lookup x = none
  | [], _, h => by cases h; rfl
  | (g, d0) :: fs, _, h => by
    obtain ⟨y, v, r, rfl, h1, h2, h3⟩ := h
    rw [List.lookup_cons]
    have : (x == y) = false := by
      cases z : x == y with
      | false => rfl
      | true =>
        have z : x = y := eq_of_beq z
        subst z
        exact absurd h1 (hx g)
    rw [this]
    exact fld_none hx h3
theorem s_meth {P : Prog} {C : Call} {g : Nat} {o e : Expr} {es : List Expr} {apos pos : Pos} {pl : Sem Bool} {mo : Env → M PV} {ms : Env → M (List PV)} (mt : ∀ c j, P.mets.lookup (c, g) = some j → MetM X.prog X.w X.K X.mg X.base R k c g (C.def_ j)) (hr : Room k X.A) (tk : Takes X W) (ho : PE X o (tM R (gOf X) W mo)) (ha : PA X (e :: es) (tMA' R (gOf X) W ms))
    (hst : starEach (e :: es) X.env = (false, eval e X.env) :: starEach es X.env) (hpl : (backTo pos (starEach es X.env)).any (·.1) = false)
    (ht : eval (.Call (.Attribute o (R.mnm g) apos) (e :: es) [] pos) X.env = (do
      let ov ← eval o X.env
      standAt apos.atName
      let (f, first) ← holding [ov] (getMethod ov (R.mnm g) pl)
      callWith pos f first (backTo pos (starEach (e :: es) X.env)) (backToKw pos (keywordEach [] X.env)))) :
    PE X (.Call (.Attribute o (R.mnm g) apos) (e :: es) [] pos) (tM R (gOf X) W fun ρ => M.bnd (mo ρ) fun x => M.bnd (clsOf x) fun c => M.bnd (M.opt (P.mets.lookup (c, g))) fun k => M.bnd (ms ρ) fun xs => C.def_ k (x :: (xs ++ []))) := by
  refine ⟨fun pins s σ H Q I ⟨φ, st, ρ, S, E, T, h⟩ => ?_⟩
  refine PySem.W.methodCall_KW (pl := pl) (thn (ho.run pins s σ H (fun x H1 => ∃ φ1 st1 d, Step φ H φ1 H1 ∧ RepS R φ1 st1 H1 ∧ RepE R (gOf X) φ1 H1 ρ σ ∧ Tbs R H1 ∧ RepV R φ1 H1 d x ∧ Post R W σ φ1 H1 (RepV R) (M.bnd (clsOf d) (fun c => M.bnd (M.opt (P.mets.lookup (c, g))) fun k => M.bnd (ms ρ) fun xs => C.def_ k (d :: (xs ++ []))) st1) Q) I
    ⟨φ, st, ρ, S, E, T, Post.mono (Post.bnd h) fun v H1 ⟨φ1, st1, d, s1, S1, T1, r1, p1⟩ => ⟨φ1, st1, d, s1, S1, E.step s1, T1, r1, p1⟩⟩) fun u s1 ⟨x, H1, I1, rx, φ1, st1, d, s1', S1, E1, T1, r1, p1⟩ => ?_) ht
  obtain ⟨n, a, c, fs, dx, gs, rfl, hn, rfl, q, g1, g2, p1⟩ := clsOf_ok S1 r1 p1
  obtain rfl : u = Value.ref a := rx
  cases q2 : P.mets.lookup (c, g) with
  | none => rw [q2] at p1; exact p1.elim
  | some j =>
    rw [q2] at p1
    have p1 : Post R W σ φ1 H1 (RepV R) (M.bnd (ms ρ) (fun xs => C.def_ j (.loc n :: (xs ++ []))) st1) Q := p1
    obtain ⟨f, fd, ps, k1, k2, k3, k4, k5, k6⟩ := (mt c j q2).ex
    refine getmeth_ok I1 g1 k1 k2 (fld_none k6 g2) ?_
    refine PySem.W.callWith_K (first := [.ref a]) (h₀ := X.base) I.ok.mod.kin k2.kp (thn (ha.run pos pins s1 σ H1 (fun vs H2 => ∃ φ2 st2 ds, Step φ1 H1 φ2 H2 ∧ RepS R φ2 st2 H2 ∧ Tbs R H2 ∧ RepL R φ2 H2 ds vs ∧ Post R W σ φ2 H2 (RepV R) (C.def_ j (.loc n :: (ds ++ [])) st2) Q) I1 ⟨φ1, st1, ρ, S1, E1, T1, Post.bnd p1⟩) fun us s2 ⟨vs, H2, I2, r, φ2, st2, ds, s2', S2, T2, r2, p2⟩ => ⟨I2.kIn, ?_⟩) hst hpl
    have p2 : Post R W σ φ2 H2 (RepV R) (C.def_ j ((.loc n :: ds) ++ []) st2) Q := p2
    exact run_M (us := .ref a :: us) (vs := .ref a :: vs) (ds := .loc n :: ds) (dvs := []) (dds := []) (dps := []) k3 hr k4 .nil tk I2 (.cons rfl r) (k5 _ st2 fun z => by rw [z] at p2; exact p2) S2 T2 ⟨_, _, rfl, (r1.step s2').x, r2.x⟩ rfl p2
theorem s_meth0 {P : Prog} {C : Call} {g : Nat} {o : Expr} {apos pos : Pos} {pl : Sem Bool} {mo : Env → M PV} (mt : ∀ c j, P.mets.lookup (c, g) = some j → MetM X.prog X.w X.K X.mg X.base R k c g (C.def_ j)) (hr : Room k X.A) (tk : Takes X W) (ho : PE X o (tM R (gOf X) W mo))
    (ht : eval (.Call (.Attribute o (R.mnm g) apos) [] [] pos) X.env = (do
      let ov ← eval o X.env
      standAt apos.atName
      let (f, first) ← holding [ov] (getMethod ov (R.mnm g) pl)
      callWith pos f first (backTo pos (starEach [] X.env)) (backToKw pos (keywordEach [] X.env)))) :
    PE X (.Call (.Attribute o (R.mnm g) apos) [] [] pos) (tM R (gOf X) W fun ρ => M.bnd (mo ρ) fun x => M.bnd (clsOf x) fun c => M.bnd (M.opt (P.mets.lookup (c, g))) fun k => M.bnd (M.ret []) fun xs => C.def_ k (x :: (xs ++ []))) := by
  refine ⟨fun pins s σ H Q I ⟨φ, st, ρ, S, E, T, h⟩ => ?_⟩
  refine PySem.W.methodCall_KW (pl := pl) (thn (ho.run pins s σ H (fun x H1 => ∃ φ1 st1 d, Step φ H φ1 H1 ∧ RepS R φ1 st1 H1 ∧ RepE R (gOf X) φ1 H1 ρ σ ∧ Tbs R H1 ∧ RepV R φ1 H1 d x ∧ Post R W σ φ1 H1 (RepV R) (M.bnd (clsOf d) (fun c => M.bnd (M.opt (P.mets.lookup (c, g))) fun k => M.bnd (M.ret []) fun xs => C.def_ k (d :: (xs ++ []))) st1) Q) I
    ⟨φ, st, ρ, S, E, T, Post.mono (Post.bnd h) fun v H1 ⟨φ1, st1, d, s1, S1, T1, r1, p1⟩ => ⟨φ1, st1, d, s1, S1, E.step s1, T1, r1, p1⟩⟩) fun u s1 ⟨x, H1, I1, rx, φ1, st1, d, s1', S1, E1, T1, r1, p1⟩ => ?_) ht
  obtain ⟨n, a, c, fs, dx, gs, rfl, hn, rfl, q, g1, g2, p1⟩ := clsOf_ok S1 r1 p1
  obtain rfl : u = Value.ref a := rx
  cases q2 : P.mets.lookup (c, g) with
  | none => rw [q2] at p1; exact p1.elim
  | some j =>
    rw [q2] at p1
    obtain ⟨f, fd, ps, k1, k2, k3, k4, k5, k6⟩ := (mt c j q2).ex
    refine getmeth_ok I1 g1 k1 k2 (fld_none k6 g2) ?_
    have p2 : Post R W σ φ1 H1 (RepV R) (C.def_ j ([.loc n] ++ []) st1) Q := p1
    exact PySem.W.callWith_K0 (first := [.ref a]) I1.kIn k2.kp (run_M (us := [.ref a]) (vs := [.ref a]) (ds := [.loc n]) (dvs := []) (dds := []) (dps := []) k3 hr k4 .nil tk I1 (.cons rfl .nil) (k5 _ st1 fun z => by rw [z] at p2; exact p2) S1 T1 ⟨_, _, rfl, r1.x, rfl⟩ rfl p2)
end
end Mp
set_option maxHeartbeats 4000000
namespace PySem.W
open PySem PySem.Calls PyProof.Rows
abbrev xiBody (x f : Str) (p0 p1 p2 p3 p4 q0 q1 q2 q3 : Pos) : List Stmt :=
  [.Expr (.Call (.Attribute (.Call (.Name "super" p0) [] [] p1) "__init__" p2) [] [] p3) p4, .Assign [.Attribute (.Name "self" q0) f q1] (.Name x q2) q3]
section
variable {prog : Program} {w : World} {M : Model} {A : Around} {E : Value → Shared → Prop} {R : Result → Shared → Prop} {h base : Heap} {g : Array GenState} {d : Drawn} {t : Nat} {os : OsState} {K : Frag} {mg : Str → Option Value}
theorem xi_call {nm q : Str} {C N : Addr} {bs bm : List Value} {hdct : Bool} {sn : List Str} {sub : List Value} {ab : Bool} {col : Option Bool} {dd : Option Addr} {k0 k1 k2 k3 k5 : Option Value} {u e t0 : Addr} {rest : List Value} {Q : Value → Shared → Prop}
    (hC : h.get? C = some (excClassObj nm q C N bs bm hdct sn sub ab col dd k0 k1 k2 k3 k5 "ValueError.__new__")) (he : h.get? e = some (HandSPX.excO C t0)) (hu : h.get? u = some (kxs_mw "ValueError.__init__" e)) (hrest : rest.length ≤ sizeLine)
    (hq : ∀ h' t1, (∀ b o, b ≠ e → h.get? b = some o → h'.get? b = some o) → h'.get? e = some (HandSPX.excO C t1) → Q .none ⟨h', g, d, t, os⟩) :
    wpAny (model prog w) A (call (.ref u) rest) Q E ⟨h, g, d, t, os⟩ := by
  refine wpAny_call (codeAny_of_tree ?_)
  show wpAny _ A.in1 (callAny (.ref u) ⟨rest, []⟩) _ _ _
  simp only [callAny]
  refine wpAny_bind (wpAny_load hu ?_)
  simp only [kxs_mw, show (Value.type "method-wrapper" == Value.type "method" || Value.type "method-wrapper" == Value.type "builtin_function_or_method" || Value.type "method-wrapper" == Value.type "method-wrapper") = true by decide, if_true]
  refine W.KFB.if_so (by decide) ?_
  refine wpAny_bind (PySem.ESX.check_bound F.excBase_ValueError hC he rfl ?_)
  refine wpAny_bind (wpAny_pure (wpAny_pure ?_))
  refine ⟨Code.quiet_builtin _ (by decide +kernel), codeAny_builtin F.excBase_ValueError.initEntry ?_⟩
  rw [Around.under_plainId F.excBase_ValueError.init.plain _]
  wp_walk
  refine hq _ h.objs.size (fun b o hb ho => ?_) ?_
  · rw [Heap.get?_update_other _ _ (Ne.symm hb)]
    exact Heap.get?_push_of_some _ ho
  · rw [Heap.get?_update_self _ (Heap.get?_push_of_some _ he) rfl]
    rfl
def MethEq (o : Expr) (name : Str) (apos pos : Pos) : Prop := ∀ env : Env, ∃ pl : Sem Bool, eval (.Call (.Attribute o name apos) [] [] pos) env = (do
  let ov ← attributeBase o name env (eval o env)
  standAt apos.atName
  let (f, first) ← holding [ov] (getMethod ov name pl)
  callWith pos f first (backTo pos (starEach [] env)) [])
structure XiT (prog : Program) (K : Frag) (C fI : Addr) (fd : FuncData) (x f : Str) : Prop where
  ex : ∃ (name qual : Str) (params : Arguments) (scope : Scope) (dV kV doc pm ct oc ccl cl : Value) (an od cdd cld : Option Addr) (osl ccs csl : Array (Option Value)) (cc cda : Addr) (ar : Arg) (vs : Array Value) (file : Str) (tf : Tok) (p0 p1 p2 p3 p4 q0 q1 q2 q3 : Pos),
    fd = ksFn name qual params (xiBody x f p0 p1 p2 p3 p4 q0 q1 q2 q3) scope dV kV doc pm an (.ref cda) ct cc ∧ K.lookup fI = some ⟨oc, od, .func fd, osl⟩ ∧ codeIn K (.ref cda) qual = true ∧
    (params.posonlyargs ++ params.args).head? = some ar ∧ ar.arg = "self" ∧ K.lookup cda = some ⟨ccl, cdd, .fields vs, ccs⟩ ∧ vs[2]? = some (.str file tf) ∧ ((prog.main.file : Str) == file) = true ∧
    K.lookup cc = some ⟨cl, cld, .cell (some (.ref C)), csl⟩ ∧ scope.names.lookup ("super" : Str) = some .globalImplicit ∧ scope.names.lookup ("__class__" : Str) = some .free ∧ scope.names.lookup ("self" : Str) = some .local ∧ scope.names.lookup x = some .local ∧
    scope.kind = .function ∧ scope.isCoroutine = false ∧ scope.isGenerator = false ∧ (∀ y ∈ scope.names, y.2 ≠ .cell) ∧ x ≠ "self" ∧ (x == ("__debug__" : Str)) = false ∧ MethEq (.Call (.Name "super" p0) [] [] p1) "__init__" p2 p3
structure XiC (prog : Program) (K : Frag) (C fI : Addr) (fd : FuncData) (x f : Str) : Prop where
  tx : XiT prog K C fI fd x f
  cl : ∃ nm q N bs bm sn sub ab col dd k0 k1 k2 k3 k5, K.lookup C = some (excClassObj nm q C N bs bm true sn sub ab col dd k0 k1 k2 k3 k5 "ValueError.__new__") ∧ HandSPX.refsVE bm = true ∧ alongIn K "__init__" bm = some (some (.builtin "ValueError.__init__"))
  ve : subIn K (.ref C) (.type "ValueError") = some true
  me : mroIn K C (.ref C) = some true
  sa : findIn K (.ref C) "__setattr__" = some (some (.builtin "object.__setattr__"))
  no : findIn K (.ref C) f = some none
  op : nsIn K cStatics "thirdparty.any" = some none
  ini : findIn K (.ref C) "__init__" = some (some (.ref fI))
  fn : typeIn K (.ref fI) = some (.type "function")
theorem ns_kept {h h' : Heap} {L : Addr} {m : Str → Option Value} (n : h.Ns L m) (k : ∀ o, h.get? L = some o → h'.get? L = some o) : h'.Ns L m := by
  obtain ⟨oL, es, ep, hL, r⟩ := n
  exact ⟨oL, es, ep, k _ hL, r⟩
theorem xi_run {C fI e t0 : Addr} {fd : FuncData} {x f : Str} {u : Value} {args : Args} (T : XiC prog K C fI fd x f) (hroom : A.depth < recursionLimit) (hK : K.In h) (hlim : h.NoLimit) (hgl : h.Ns mainGlobals mg) (hblt : ∃ mb, h.Ns builtinsNs mb ∧ ∀ x : Str, x ≠ "__name__" → mb x = bootBuiltins x) (hsu : mg "super" = none)
    (htop : (prog.main.scope.names.lookup ("super" : Str)).isSome = false)
    (he : h.get? e = some (HandSPX.excO C t0)) (hKe : K.lookup e = none) (hb : BindsTo ⟨h, g, d, t, os⟩ fd args [("self", .ref e), (x, u)])
    (hq : ∀ h' tk' dx t1, (∀ b o, b ≠ e → h.get? b = some o → h'.get? b = some o) → h.get? dx = none → dx ≠ e → h'.get? e = some ({ cls := .ref C, dict := some dx, data := .fields #[.ref t1, .none, .none, .none, .bool false, .none] } : Obj) →
      h'.Ns1 dx (fun y => if y = f then some u else none) → R (.ok (.ret .none)) ⟨h', g, d, tk', os⟩) :
    codeAny (model prog w) A (.call (.ref fI) args) R ⟨h, g, d, t, os⟩ := by
  obtain ⟨name, qual, params, scope, dV, kV, doc, pm, ct, oc, ccl, cl, an, od, cdd, cld, osl, ccs, csl, cc, cda, ar, vs, file, tf, p0, p1, p2, p3, p4, q0, q1, q2, q3, rfl, hf, hcd, har, harn, hcda, hvs, hfile, hcell, hks, hkc, hka, hkx, hk, hco, hgen, hnc, hxs, hxd, hev⟩ := T.tx.ex
  obtain ⟨nm, q, N, bs, bm, sn, sub, ab, col, dd, k0, k1, k2, k3, k5, hC, hbm, hal⟩ := T.cl
  have hcl : clsIn K C = some { name := nm, bases := bs, mro := .ref C :: bm, ns := N, qualname := q, hasDict := true, slotNames := sn, subclasses := sub, abstract := ab, collection := col, hasDel := false } := by unfold clsIn; rw [hC] <;> rfl
  refine ks_codeAny_call_defAt (fd := ksFn name qual params (xiBody x f p0 p1 p2 p3 p4 q0 q1 q2 q3) scope dV kV doc pm an (.ref cda) ct cc) (body := xiBody x f p0 p1 p2 p3 p4 q0 q1 q2 q3) (binds := [("self", .ref e), (x, u)]) hroom (hK _ _ hf) rfl hlim (codeRec_of hK hcd) rfl hb hnc (fun y hy => ?_) (fun h₁ hns kp => ?_) hco hgen hk
  · rcases List.mem_cons.mp hy with rfl | hy
    · exact hka
    · rcases List.mem_cons.mp hy with rfl | hy
      · exact hkx
      · cases hy
  show _root_.PySem.wpAt _ _ (.func _ (ksEnv qual scope h.objs.size fI (.ref cda) cc)) (execs _ (ksEnv qual scope h.objs.size fI (.ref cda) cc)) _ _ _
  have hLe : h.objs.size ≠ e := Nat.ne_of_gt (Heap.lt_size he)
  have he1 : h₁.get? e = some (HandSPX.excO C t0) := kp _ _ he
  have hK1 : K.In h₁ := hK.keeps kp
  have vself : ([("self", Value.ref e), (x, u)] : List (Str × Value)).reverse.lookup ("self" : Str) = some (Value.ref e) := by
    have e1 : (("self" : Str) == x) = false := by
      cases z : ("self" : Str) == x with
      | false => rfl
      | true => exact absurd (eq_of_beq z).symm hxs
    simp [List.lookup, e1]
  have vx : ([("self", Value.ref e), (x, u)] : List (Str × Value)).reverse.lookup x = some u := by
    simp [List.lookup]
  obtain ⟨pl, hev⟩ := hev (ksEnv qual scope h.objs.size fI (.ref cda) cc)
  refine ks_wpAt_execs_cons (ks_wpAt_Expr_any (ks_wpAt_MethodCall ?_ hev) (by unfold interactive; simp [Env.blockKind, hk]))
  obtain ⟨mb, hb1, hb2⟩ := hblt
  refine ks_wpAt_super_base (env := ksEnv qual scope h.objs.size fI (.ref cda) cc) hks hkc (by decide) rfl (hK1 _ _ hf) rfl har rfl (hK1 _ _ hcda) rfl hvs hfile htop ?_
  refine ks_loadName_global hk hks (loadGlobal_builtin (env := ksEnv qual scope h.objs.size fI (.ref cda) cc) (hgl.keeps kp) hsu (hb1.keeps kp) (hb2 _ (by decide)) ⟨rfl, ?_⟩)
  refine wpAny_loadName_free hk hkc rfl ⟨_, hK1 _ _ hcell, rfl⟩ ?_
  rw [harn]
  refine wpAny_loadName_local hk hka hns vself ?_
  refine ks_wpAny_isType_cls (hK1 _ _ hC) rfl ⟨rfl, ?_⟩
  refine ks_wpAny_call_super (hK1 _ _ hC) rfl he1 rfl (fun c z => nomatch z) (looks_mroIn hK1 T.me) (fun h2 hso k2 => ?_)
  have hK2 : K.In h2 := hK1.keeps k2
  have he2 := k2 _ _ he1
  have I2 : InstAt h2 e (HandSPX.excO C t0) C none := ⟨he2, rfl, rfl, trivial⟩
  refine kxs_getMethod kxs_ValueError hso (looks_opaque hK2 T.op) (l₀ := .ref C :: bm) (fun A Q E s k q => wpAny_bind ((looks_clsIn hK2 hcl) A _ E s k (wpAny_pure q))) (l := bm) (by simp [List.dropWhile]) hK2 hal (I2.type.andThen (looks_subIn hK2 T.ve)) (ks_ne hK2 I2 hcl) (by decide) ?_
  refine kxs_callWith (i := "ValueError.__init__") (x := e) rfl (evalArgs_empty ⟨Heap.get?_push_size _ rfl, ?_⟩)
  have k3 : ∀ b o, h2.get? b = some o → (h2.push (kxs_mw "ValueError.__init__" e)).get? b = some o := fun b o z => Heap.get?_push_of_some _ z
  refine xi_call ((hK2.keeps k3) _ _ hC) (k3 _ _ he2) (Heap.get?_push_size _ rfl) (Nat.zero_le _) (fun h3 t1 k4 he3 => ?_)
  have kp3 : ∀ b o, b ≠ e → h₁.get? b = some o → h3.get? b = some o := fun b o hb z => k4 b o hb (k3 _ _ (k2 _ _ z))
  have hK3 : K.In h3 := fun b o z => by
    by_cases hbe : b = e
    · rw [hbe, hKe] at z
      cases z
    · exact kp3 b o hbe (hK1 _ _ z)
  have hns3 : h3.Ns h.objs.size _ := ns_kept hns fun o z => kp3 _ o hLe z
  refine ks_wpAt_execs_cons (wpAt_of_wpAny (plainObj_wpAny_Assign_Attribute ?_))
  refine wpAny_Name (wpAny_loadName_local hk hkx hns3 vx ?_) hxd
  refine wpAny_Name (wpAny_loadName_local hk hka hns3 vself ?_) (by decide)
  refine set_plain hK3 (ox := HandSPX.excO C t1) (od := none) ⟨he3, rfl, rfl, trivial⟩ T.sa ?_
  refine HandSPX.exc_osa hK3 he3 hcl (show HandSPX.refsVE (.ref C :: bm) = true from hbm) rfl T.no (fun h' tk' dx k dn dne hx hn => ?_)
  have kk : ∀ b o, b ≠ e → h.get? b = some o → h'.get? b = some o := fun b o hb z => k b o hb (kp3 b o hb (kp _ _ z))
  refine wpAt_of_wpAny (wpAny_execs_nil (hq h' tk' dx t1 kk ?_ dne hx hn))
  cases z : h.get? dx with
  | none => rfl
  | some o => exact absurd (Heap.lt_size (kp3 dx o dne (kp _ _ z))) (Nat.not_lt.mpr dn)
end
end PySem.W
namespace PySem.HandSPX
open PySem.W PySem.Calls PyProof.Rows
section
variable {M : Model} {A : Around} {E : Value → Shared → Prop} {h : Heap} {g : Array GenState} {d : Drawn} {t : Nat} {os : OsState}
variable {nm q : Str} {C N : Addr} {bs bm bmB : List Value} {hdct : Bool} {sn : List Str} {sub : List Value} {ab : Bool} {col : Option Bool} {dd : Option Addr} {k0 k1 k2 k3 k5 : Option Value} {B newId initId : String}
theorem xk_check_new (F : ExcBaseFacts B newId initId bmB) (hT : ∀ X : String, bm.contains (.type X) = bmB.contains (.type X)) {rest : List Value} {kw : List (Str × Value)} {Q : Unit → Shared → Prop}
    (hC : h.get? C = some (excClassObj nm q C N bs bm hdct sn sub ab col dd k0 k1 k2 k3 k5 newId)) (hq : Q () ⟨h, g, d, t, os⟩) : wpAny M A (checkBuiltinCall newId ⟨.ref C :: rest, kw⟩) Q E ⟨h, g, d, t, os⟩ := by
  have hcont : (Value.ref C :: bm).contains (.type B) = true := by rw [List.contains_cons, hT, F.hasB, Bool.or_true]
  have hstar := F.noStar
  simp only [checkBuiltinCall, F.newKind, F.newSplit, F.newRow]
  repeat (first | refine wpAny_loadPart_at hC ?_ | (refine wpAny_isSubtype_exc hC ?_; rw [hcont]) | refine wpAny_staticBase_exc hC ?_ | refine wpAny_madeBy_exc hC ?_ | simp only [bne_self_eq_false, Bool.false_eq_true, if_false] | wp_step)
  exact hq
end
section
variable {prog : Program} {w : World} {A : Around} {E : Value → Shared → Prop} {R : Result → Shared → Prop} {h : Heap} {g : Array GenState} {d : Drawn} {t : Nat} {os : OsState}
variable {nm q : Str} {C N : Addr} {bs bm bmB : List Value} {hdct : Bool} {sn : List Str} {sub : List Value} {ab : Bool} {col : Option Bool} {dd : Option Addr} {k0 k1 k2 k3 k5 : Option Value} {B newId initId : String}
theorem xk_new (F : ExcBaseFacts B newId initId bmB) (hT : ∀ X : String, bm.contains (.type X) = bmB.contains (.type X)) {rest : List Value} {kw : List (Str × Value)}
    (hC : h.get? C = some (excClassObj nm q C N bs bm hdct sn sub ab col dd k0 k1 k2 k3 k5 newId))
    (hq : R (.ok (.ret (.ref (h.objs.size + 1)))) ⟨(h.push { cls := .type "tuple", data := .seq rest.toArray }).push
      { cls := .ref C, data := .fields #[.ref h.objs.size, .none, .none, .none, .bool false, .none] }, g, d, t, os⟩) (hrest : rest.length ≤ sizeLine) :
    codeAny (model prog w) A (.builtin newId ⟨.ref C :: rest, kw⟩) R ⟨h, g, d, t, os⟩ := by
  have hends := F.ends
  have hcB : (Value.ref C :: bm).contains (.type B) = true := by rw [List.contains_cons, hT, F.hasB, Bool.or_true]
  have hcA : (Value.ref C :: bm).contains (.type "AttributeError") = false := by rw [List.contains_cons, hT, F.noAttr]; rfl
  have hcN : (Value.ref C :: bm).contains (.type "NameError") = false := by rw [List.contains_cons, hT, F.noName]; rfl
  refine codeAny_builtinAt F.entry ?_
  unfold Builtin.«BaseException.__new__»
  refine wpAt_bind ?_
  show wpAt _ _ _ (stack >>= _) _ _ _
  refine wpAt_bind (wpAt_stack fun p below => wpAt_of_wpAny ?_)
  wp_walk
  refine wpAt_of_wpAny ?_
  rw [F.owner]
  repeat (first | with_reducible refine wpAny_madeHere_exc F.canon hC ?_ | with_reducible refine wpAny_loadPart_at hC ?_ | (with_reducible refine wpAny_isSubtype_exc hC ?_; first | rw [hcB] | rw [hcA] | rw [hcN]) | wp_step)
  show R _ _
  rw [Heap.size_push]
  exact hq
theorem xk_type_call (F : ExcBaseFacts B newId initId bmB) (hT : ∀ X : String, bm.contains (.type X) = bmB.contains (.type X)) {rest : List Value} {kw : List (Str × Value)} {fI : Addr} {Q : Fin → Shared → Prop}
    (hC : h.get? C = some (excClassObj nm q C N bs bm hdct sn sub ab col dd k0 k1 k2 k3 k5 newId))
    (hi : W.Looks (model prog w) h (typeLookup (.ref C) "__init__") (some (.ref fI))) (hb : ∀ self, W.Looks (model prog w) h (bindSpecial (.ref fI) self) (.ref fI, [self])) (hrest : rest.length ≤ sizeLine)
    (hq : codeAny (model prog w) A (.call (.ref fI) ⟨.ref (h.objs.size + 1) :: rest, kw⟩)
      (fun r s' => match r with | .ok (.ret v) => v = .none ∧ Q (.done (.ret (.ref (h.objs.size + 1)))) s' | .ok _ => False | .error e => E e s')
      ⟨(h.push (W.kdv_tup rest)).push (excO C h.objs.size), g, d, t, os⟩) :
    wpAny (model prog w) A (Builtin.«type.__call__» ⟨.ref C :: rest, kw⟩) Q E ⟨h, g, d, t, os⟩ := by
  repeat (first | with_reducible refine wpAny_loadPart_at hC ?_ | with_reducible refine wpAny_madeBy_exc hC ?_ | wp_step)
  refine codeAny_call_builtin_code (Code.quiet_builtin _ F.quiet) (xk_check_new F hT hC ?_)
  refine xk_new F hT hC ?_ hrest
  show wpAny _ _ _ _ _ _
  have k : ∀ b o, h.get? b = some o → ((h.push (W.kdv_tup rest)).push (excO C h.objs.size)).get? b = some o := fun b o e => Heap.get?_push_of_some _ (Heap.get?_push_of_some _ e)
  have hC₁ := k _ _ hC
  have hget : ((h.push (W.kdv_tup rest)).push (excO C h.objs.size)).get? (h.objs.size + 1) = some (excO C h.objs.size) := by heap_get
  have hcC : (Value.ref C :: bm).contains (.ref C) = true := by simp
  have i1 := hi.keeps k
  have b1 := (hb (.ref (h.objs.size + 1))).keeps k
  unfold isInstance
  repeat (first | with_reducible refine wpAny_loadPart_at hget ?_ | (with_reducible refine wpAny_isSubtype_exc hC₁ ?_; rw [hcC]) | wp_step)
  show wpAny _ _ (typeLookup (.ref C) _) _ _ _
  refine i1.at ?_
  refine wpAny_holding (wpAny_bind (b1.at ?_))
  refine wpAny_bind (wpAny_call (codeAny_mono hq fun r s' z => ?_))
  rcases r with e | (v | _ | _ | _) <;> first | exact z | exact z.elim | skip
  obtain ⟨rfl, z⟩ := z
  first
    | exact wpAny_pure (wpAny_pure z)
    | (wp_walk; exact z)
theorem xk_call (F : ExcBaseFacts B newId initId bmB) (hT : ∀ X : String, bm.contains (.type X) = bmB.contains (.type X)) {rest : List Value} {kw : List (Str × Value)} {fI : Addr}
    (hC : h.get? C = some (excClassObj nm q C N bs bm hdct sn sub ab col dd k0 k1 k2 k3 k5 newId))
    (hi : W.Looks (model prog w) h (typeLookup (.ref C) "__init__") (some (.ref fI))) (hb : ∀ self, W.Looks (model prog w) h (bindSpecial (.ref fI) self) (.ref fI, [self])) (hrest : rest.length ≤ sizeLine)
    (hq : codeAny (model prog w) (A.under (.builtin "type.__call__" ⟨.ref C :: rest, kw⟩)) (.call (.ref fI) ⟨.ref (h.objs.size + 1) :: rest, kw⟩) (W.InitBack (h.objs.size + 1) R)
      ⟨(h.push (W.kdv_tup rest)).push (excO C h.objs.size), g, d, t, os⟩) :
    codeAny (model prog w) A (.call (.ref C) ⟨rest, kw⟩) R ⟨h, g, d, t, os⟩ := by
  have f1 := tc_lookup
  have f2 := tc_bind (.ref C)
  have hTy : (⟨h, g, d, t, os⟩ : Shared).TypeIs (.ref C) "type" := ⟨_, hC, rfl⟩
  refine codeAny_of_tree ?_
  show wpAny _ _ (callAny (.ref C) _) _ _ _
  repeat (any_goals (first | assumption | with_reducible refine wpAny_loadPart_at hC ?_ | wp_step))
  refine ⟨rfl, ?_⟩
  refine codeAny_call_builtin_at (Code.quiet_builtin _ (by decide +kernel)) entry_typeCall (wpAny_check_type_call_sub hC (xk_type_call F hT hC hi hb hrest ?_))
  refine codeAny_mono hq fun r s' z => ?_
  rcases r with e | (v | _ | _ | _) <;> exact z
end
end PySem.HandSPX
namespace Mp
open PySem PySem.Spec PyProof.Rows L2
section
variable {X : Cx} {pins : List (Addr × Obj)} {σ : L2.St} {H : Hp} {s : Shared}
theorem exn_set {C e d t0 : Addr} {f : Str} {v : V} {u : Value} {h' : Heap} {tk : Nat} (I : Inv X pins σ H s) (ee : H e = some (exo e C none)) (hd : s.heap.get? d = none) (hde : d ≠ e) (k : ∀ b o, b ≠ e → s.heap.get? b = some o → h'.get? b = some o)
    (he : h'.get? e = some ({ cls := .ref C, dict := some d, data := .fields #[.ref t0, .none, .none, .none, .bool false, .none] } : Obj)) (hn : h'.Ns1 d (fun y => if y = f then some u else none)) (ry : RelV v u) :
    Inv X pins σ (upd (upd H d (exd d [(f, v)])) e (exo e C (some d))) { s with heap := h', toks := tk } := by
  have hnd : H d = none := I.hok.gone hd
  have nd : ∀ {b : Addr} {o : Obj}, s.heap.get? b = some o → b ≠ d := fun {b o} q z => by rw [z, hd] at q; cases q
  have na : ∀ {b : Addr}, H b = none → b ≠ e := fun {b} n z => by
    rw [z, ee] at n
    cases n
  have Un1 : Un X.fs [] H (upd (upd H d (exd d [(f, v)])) e (exo e C (some d))) s.heap h' := {
    keep := fun b o q n _ _ => k b o (na n) q
    slot := fun b o q n _ _ => ⟨o.slots, k b o (na n) q⟩
    free := fun b o q n _ => by rw [upd_ne (na n), upd_ne (nd q)]; exact n
    there := fun b o q _ => by
      by_cases hb : b = e
      · exact ⟨_, by rw [hb]; exact he⟩
      · exact ⟨o, k b o hb q⟩
    tups := fun b xs q => by rw [upd_ne (at_ne ee q exo_tup), upd_ne (ne_of_none q hnd)]; exact q
    frzs := fun b o v q => by rw [upd_ne (at_ne ee q exo_frz), upd_ne (ne_of_none q hnd)]; exact q
    tbls := fun b ps q => ⟨#[], by rw [upd_ne (at_ne ee q exo_tbl), upd_ne (ne_of_none q hnd), q]; simp⟩ }
  refine I.un (t' := tk) Un1 fun b o q => ?_
  by_cases hb : b = e
  · subst hb
    rw [upd_same] at q
    cases q
    exact exo_ok he
  · rw [upd_ne hb] at q
    by_cases hd2 : b = d
    · subst hd2
      rw [upd_same] at q
      cases q
      exact exd_ok hn (relO_put (fs := []) ry fun g => True.intro)
    · rw [upd_ne hd2] at q
      exact (I.hok b o q).stay (fun c v hc z => k c v (by
          rcases hc with hc | hc
          · rw [hc]
            exact hb
          · exact at_ne ee hc exo_own) z)
        (fun c hc => by rw [upd_ne (at_ne ee hc exo_own), upd_ne (ne_of_none hc hnd)]; exact hc) (fun c xs hc => by rw [upd_ne (at_ne ee hc exo_tup), upd_ne (ne_of_none hc hnd)]; exact hc)
theorem exn_make {C fI : Addr} {fd : FuncData} {x f : Str} {us : List Value} {kw : List (Str × Value)} {u : Value} {v : V} {Q : Value → Shared → Prop} {E : Value → Shared → Prop} {n : Nat} (T : PySem.W.XiC X.prog X.K C fI fd x f) (hr : Room (n + 1) X.A) (hsu : X.mg "super" = none) (htop : (X.prog.main.scope.names.lookup ("super" : Str)).isSome = false)
    (I : Inv X pins σ H s) (hl : us.length ≤ sizeLine) (ry : RelV v u) (hb : ∀ (e : Addr) (s' : Shared), BindsTo s' fd ⟨.ref e :: us, kw⟩ [("self", .ref e), (x, u)])
    (h : ∀ e d s', H e = none → H d = none → d ≠ e → Inv X pins σ (upd (upd H d (exd d [(f, v)])) e (exo e C (some d))) s' → Q (.ref e) s') :
    wpAny (model X.prog X.w) X.A (call (.ref C) us kw) Q E s := by
  obtain ⟨nm, q, N, bs, bm, sn, sub, ab, col, dd, k0, k1, k2, k3, k5, hC, hbm, hal⟩ := T.cl
  obtain ⟨hp, g, dr, t, os⟩ := s
  have kk : ∀ b o, hp.get? b = some o → ((hp.push (PySem.W.kdv_tup us)).push (PySem.HandSPX.excO C hp.objs.size)).get? b = some o := fun b o e => Heap.get?_push_of_some _ (Heap.get?_push_of_some _ e)
  have hget : ((hp.push (PySem.W.kdv_tup us)).push (PySem.HandSPX.excO C hp.objs.size)).get? (hp.objs.size + 1) = some (PySem.HandSPX.excO C hp.objs.size) := by heap_get
  have hsz : hp.objs.size ≤ hp.objs.size + 1 := Nat.le_succ _
  have hn : H (hp.objs.size + 1) = none := I.hok.fresh hsz
  have I2 : Inv X pins σ (upd H (hp.objs.size + 1) (exo (hp.objs.size + 1) C none)) ⟨(hp.push (PySem.W.kdv_tup us)).push (PySem.HandSPX.excO C hp.objs.size), g, dr, t, os⟩ :=
    I.laid (t' := t) kk hsz (exo_ok hget)
  have hKe : X.K.lookup (hp.objs.size + 1) = none := by
    cases z : X.K.lookup (hp.objs.size + 1) with
    | none => rfl
    | some o => exact absurd (Heap.lt_size (I.kIn _ _ z)) (by simp)
  obtain ⟨mb, b1, b2⟩ := I2.mod.blt
  refine wpAny_call (PySem.HandSPX.xk_call F.excBase_ValueError (fun Y => PySem.HandSPX.refsVE_contains Y bm hbm) (I.kIn _ _ hC) (PySem.W.looks_findIn I.kIn T.ini) (fun self => PySem.W.bind_fn I.kIn self T.fn) hl
    (PySem.W.xi_run (mg := X.mg) T (hr.make C us kw).depth I2.kIn I2.nolimit (I2.mod.glob.keeps I2.bk) ⟨mb, b1.keeps I2.bk, b2⟩ hsu htop hget hKe (hb _ _) fun h' tk' dx t1 k hdx dne hx hns => ?_))
  have J := exn_set (v := v) (tk := tk') I2 upd_same hdx dne k hx hns ry
  have hd1 : H dx = none := by
    have z := I2.hok.gone hdx
    rw [upd_ne dne] at z
    exact z
  have eH : upd (upd (upd H (hp.objs.size + 1) (exo (hp.objs.size + 1) C none)) dx (exd dx [(f, v)])) (hp.objs.size + 1) (exo (hp.objs.size + 1) C (some dx)) = upd (upd H dx (exd dx [(f, v)])) (hp.objs.size + 1) (exo (hp.objs.size + 1) C (some dx)) := by
    funext b
    by_cases e1 : b = hp.objs.size + 1
    · rw [e1, upd_same, upd_same]
    · rw [upd_ne e1, upd_ne e1]
      by_cases e2 : b = dx
      · rw [e2, upd_same, upd_same]
      · rw [upd_ne e2, upd_ne e2, upd_ne e1]
  rw [eH] at J
  exact ⟨rfl, h _ dx _ hn hd1 dne J⟩
end
end Mp
namespace Mp
open PySem PySem.Spec PyProof.Rows L2
structure ExmF (prog : Program) (K : PySem.W.Frag) (mg : Str → Option Value) (R : Rc) (x : Str) (c f : Nat) : Prop where
  mem : c ∈ R.xcl
  gm : mg x = some (.ref (R.cad c))
  kC : PySem.W.keepIn K (.ref (R.cad c)) = true
  su : mg "super" = none
  top : (prog.main.scope.names.lookup ("super" : Str)).isSome = false
  ex : ∃ (fI : Addr) (fd : FuncData) (y nm : Str), R.fld.lookup f = some nm ∧ PySem.W.XiC prog K (R.cad c) fI fd y nm ∧ (∀ (e : Addr) (u : Value) (s : Shared), BindsTo s fd ⟨[.ref e, u], []⟩ [("self", .ref e), (y, u)]) ∧
    (∀ (e : Addr) (u : Value) (s : Shared), BindsTo s fd ⟨[.ref e], [(nm, u)]⟩ [("self", .ref e), (y, u)])
structure ExmF0 (K : PySem.W.Frag) (mg : Str → Option Value) (R : Rc) (x : Str) (c : Nat) : Prop where
  mem : c ∈ R.xcl
  gm : mg x = some (.ref (R.cad c))
  kC : PySem.W.keepIn K (.ref (R.cad c)) = true
  ex : ∃ bmB, ExcBaseFacts "ValueError" "ValueError.__new__" "ValueError.__init__" bmB ∧ PySem.W.excIn K (R.cad c) bmB "ValueError.__new__" = true
section
variable {X : Cx} {R : Rc} {G : Gm} {W : WX}
theorem exn_rep {φ : List Addr} {H : Hp} {st : Sto} {c f : Nat} {d0 : PV} {v : V} {e d : Addr} {nm : Str} {Q : VK} (S : RepS R φ st H) (T : Tbs R H) (hc : c ∈ R.xcl) (hf : R.fld.lookup f = some nm) (hno : PySem.W.findIn R.K (.ref (R.cad c)) nm = some none) (he : H e = none) (hd : H d = none) (hde : d ≠ e) (r : RepV R φ H d0 v)
    (p : ∀ φ' H', Step φ H φ' H' → RepS R φ' st H' → Tbs R H' → RepV R φ' H' (.exn c f [d0]) (.ref e) → Q (.ref e) H') : Q (.ref e) (upd (upd H d (exd d [(nm, v)])) e (exo e (R.cad c) (some d))) := by
  have h1 : Step φ H φ (upd H d (exd d [(nm, v)])) := step_new hd
  have he2 : upd H d (exd d [(nm, v)]) e = none := by rw [upd_ne (fun z => hde z.symm)]; exact he
  have h2 := step_new (φ := φ) (o := exo e (R.cad c) (some d)) he2
  have S1 := S.new (o := exd d [(nm, v)]) hd
  have o1 := S1.fresh he2
  have o2 := S.fresh hd
  exact p φ _ (h1.trans h2) (S1.new he2) ((T.new hd).new he2) ⟨e, [v], rfl, ⟨hc, .inr ⟨v, d, nm, rfl, hf, hno, ⟨upd_same, o1, fun ps z => exo_tbl z⟩, ⟨by rw [upd_ne hde, upd_same], o2, fun ps z => by
    have z' : HO.ext _ = HO.tbl ps := z
    cases z'⟩⟩⟩, ⟨v, [], rfl, r.step (h1.trans h2), rfl⟩⟩
theorem s_exm {n : Nat} {x : Str} {c f : Nat} {e : Expr} {p pos : Pos} {ma : Env → M PV} (hK : R.K = X.K) (F : ExmF X.prog X.K X.mg R x c f) (hr : Room (n + 1) X.A) (hg : Gl X x) (he : PE X e (tM R G W ma))
    (hs : starEach [e] X.env = (false, eval e X.env) :: starEach [] X.env) (hdb : (x == ("__debug__" : Str)) = false) : PE X (.Call (.Name x p) [e] [] pos) (tM R G W fun ρ => M.bnd (ma ρ) fun v => M.ret (.exn c f [v])) := by
  obtain ⟨fI, fd, y, nm, h1, T, b1, b2⟩ := F.ex
  refine ⟨fun pins s σ H Q I ⟨φ, st, ρ, S, E, Tb, h⟩ => ?_⟩
  refine wpAny_Call_Name_kw (ld_glob I hg F.gm ?_ hdb)
  refine PySem.W.callWith_K (h₀ := X.base) I.ok.mod.kin F.kC ?_ hs rfl
  rw [hs]
  show wpAny _ _ (spliced ((false, eval e X.env) :: backTo pos (starEach [] X.env))) _ _ s
  refine Calls.spliced_cons (thn (he.run pins s σ H _ I (tM.then (f := fun ρ v => M.ret (PV.exn c f [v])) (Q1 := fun v H1 => ∃ φ1 st1 d, RepS R φ1 st1 H1 ∧ Tbs R H1 ∧ RepV R φ1 H1 d v ∧ Post R W σ φ1 H1 (RepV R) (M.ret (PV.exn c f [d]) st1) Q) S E Tb h fun φ1 st1 d v H1 s1 S1 E1 T1 r1 p1 => ⟨φ1, st1, d, S1, T1, r1, p1⟩)) fun u s1 ⟨v, H1, I1, ru, φ1, st1, d0, S1, T1, r1, p1⟩ => ?_)
  refine Calls.spliced_nil ⟨I1.kIn, ?_⟩
  show wpAny _ _ (call (.ref (R.cad c)) [u]) _ _ _
  refine exn_make T hr F.su F.top I1 (show 1 ≤ sizeLine by rw [sizeLine_eq]; omega) ru (fun e s' => b1 e u s') fun a d s' ha hd hda J => ?_
  have hno := T.no
  rw [← hK] at hno
  exact ⟨.ref a, _, J, rfl, exn_rep S1 T1 F.mem h1 hno ha hd hda r1 fun φ' H' a b c r => p1 φ' H' _ a b c r⟩
theorem s_exmK {n : Nat} {x nm : Str} {c f : Nat} {e : Expr} {p pos kp : Pos} {ma : Env → M PV} (hK : R.K = X.K) (F : ExmF X.prog X.K X.mg R x c f) (hnm : R.fld.lookup f = some nm) (hr : Room (n + 1) X.A) (hg : Gl X x) (he : PE X e (tM R G W ma))
    (hall : (backToKw pos (keywordEach [⟨some nm, e, kp⟩] X.env)).all (·.1.isSome) = true) (hks : (backToKw pos (keywordEach [⟨some nm, e, kp⟩] X.env)).filterMap (·.1) = [nm]) (hdb : (x == ("__debug__" : Str)) = false)
    (hpl : ((backTo pos (starEach [] X.env)).any (·.1) || (backToKw pos (keywordEach [⟨some nm, e, kp⟩] X.env)).any (·.1.isNone)) = false) : PE X (.Call (.Name x p) [] [⟨some nm, e, kp⟩] pos) (tM R G W fun ρ => M.bnd (ma ρ) fun v => M.ret (.exn c f [v])) := by
  obtain ⟨fI, fd, y, nm', h1, T, b1, b2⟩ := F.ex
  rw [hnm] at h1
  cases h1
  refine ⟨fun pins s σ H Q I ⟨φ, st, ρ, S, E, Tb, h⟩ => ?_⟩
  refine wpAny_Call_Name_kw (ld_glob I hg F.gm ?_ hdb)
  refine PySem.W.callWith_KW0 (h₀ := X.base) I.ok.mod.kin F.kC hall ?_ hpl
  have hkw : PK X [⟨some nm, e, kp⟩] (tMA' R G W fun ρ => M.bnd (ma ρ) fun x => M.bnd (M.ret []) fun xs => M.ret (x :: xs)) := k_cons he k_nil
  have h : Post R W σ φ H (RepV R) (M.bnd (ma ρ) (fun v => M.ret (PV.exn c f [v])) st) Q := h
  refine thn (hkw.run pos pins s σ H (fun zs H1 => ∃ v φ1 st1 d, zs = [v] ∧ RepS R φ1 st1 H1 ∧ Tbs R H1 ∧ RepV R φ1 H1 d v ∧ Post R W σ φ1 H1 (RepV R) (M.ret (PV.exn c f [d]) st1) Q) I ⟨φ, st, ρ, S, E, Tb, ?_⟩) fun ws s1 ⟨zs, H1, I1, rz, v, φ1, st1, d0, ez, S1, T1, r1, p1⟩ => ⟨I1.kIn, ?_⟩
  · have h2 := Post.bnd (A := RepV R) h
    cases q : ma ρ st with
    | ok d st' =>
      rw [q] at h2
      show Post R W σ φ H (RepL R) (M.bnd (ma ρ) (fun x => M.bnd (M.ret []) fun xs => M.ret (x :: xs)) st) _
      unfold M.bnd
      rw [q]
      intro φ' H' vs a b cc r
      obtain ⟨v, r0, rfl, r1, r2⟩ := r
      obtain rfl : r0 = [] := r2
      obtain ⟨φ1, st1, d1, s1, S1, T1, rr, pp⟩ := h2 φ' H' v a b cc r1
      exact ⟨v, φ1, st1, d1, rfl, S1, T1, rr, pp⟩
    | exc cc vv st' =>
      rw [q] at h2
      show Post R W σ φ H (RepL R) (M.bnd (ma ρ) (fun x => M.bnd (M.ret []) fun xs => M.ret (x :: xs)) st) _
      unfold M.bnd
      rw [q]
      exact h2
    | bad => rw [q] at h2; exact h2.elim
  · subst ez
    rw [hks]
    cases rz with
    | @cons _ u _ ur ru rr =>
      cases rr
      show wpAny _ _ (call (.ref (R.cad c)) [] [(nm, u)]) _ _ _
      refine exn_make T hr F.su F.top I1 (Nat.zero_le _) ru (fun e s' => b2 e u s') fun a d s' ha hd hda J => ?_
      have hno := T.no
      rw [← hK] at hno
      exact ⟨.ref a, _, J, rfl, exn_rep S1 T1 F.mem hnm hno ha hd hda r1 fun φ' H' a b c r => p1 φ' H' _ a b c r⟩
theorem s_exm0 {x : Str} {c f : Nat} {p pos : Pos} (F : ExmF0 X.K X.mg R x c) (hg : Gl X x) (hdb : (x == ("__debug__" : Str)) = false) : PE X (.Call (.Name x p) [] [] pos) (tM R G W fun ρ => M.ret (.exn c f [])) := by
  obtain ⟨bmB, FB, q⟩ := F.ex
  refine ⟨fun pins s σ H Q I ⟨φ, st, ρ, S, E, Tb, h⟩ => ?_⟩
  refine wpAny_Call_Name_kw (ld_glob I hg F.gm ?_ hdb)
  refine PySem.W.callWith_K0 I.kIn F.kC ?_
  show wpAny _ _ (call (.ref (R.cad c)) []) _ _ _
  obtain ⟨bm, N, nm, qn, bs, hdct, sn, sub, ab, col, dd, k0, k1, k2, k3, k5, mN, hC, hN, hni, T⟩ := exc_obj I.kIn q
  refine wpAny_call_exc_subT FB T hC hN hni (fun h' a hm => ?_) (Nat.zero_le _)
  have hn : H a = none := I.hok.gone hm.new
  obtain ⟨t, ht, _, _⟩ := hm.there
  exact ⟨.ref a, upd H a (exo a (R.cad c) none), I.laidN hm.keeps hm.new hn (exo_ok ht), rfl, h φ _ _ (step_new hn) (S.new hn) (Tb.new hn) ⟨a, [], rfl, ⟨F.mem, .inl ⟨rfl, upd_same, S.fresh hn, fun ps z => exo_tbl z⟩⟩, rfl⟩⟩
end
end Mp
namespace Mp
open PySem PySem.Spec PyProof.Rows L2
section
variable {X : Cx} {R : Rc} {W : WX} {k : Nat} {f : Addr} {fd : FuncData} {ps : List Str} {m : List PV → M PV}
theorem run_mkMG {pins : List (Addr × Obj)} {σ : L2.St} {H : Hp} {s : Shared} {Q : VK} {us zs : List Value} {kw : List (Str × Value)} {vs : List V} {ds : List PV} {φ : List Addr} {st : Sto} {c : Nat} (M0 : Mk X.K (R.cad c) f) (F : FnM X.prog X.w X.K X.mg X.base R k f fd ps m) (hr : Room (k + 1) X.A) (tk : Takes X W)
    (hb : ∀ (e : Addr) (s' : Shared), X.K.In s'.heap → BindsTo s' fd ⟨.ref e :: us, kw⟩ (ps.zip (.ref e :: zs)))
    (I : Inv X pins σ H s) (r : Vals vs zs) (hl : ds.length + 1 = ps.length) (S : RepS R φ st H) (T : Tbs R H) (x : RepL R φ H ds vs) (p : Post R W σ φ H (RepV R) (mkM m c ds st) Q) : wpAny (model X.prog X.w) X.A (call (.ref (R.cad c)) us kw) (EP X pins σ Q) X.xe s := by
  have f1 : H (s.heap.objs.size + 1) = none := I.hok.fresh (Nat.le_succ _)
  have f0 : H s.heap.objs.size = none := I.hok.fresh (Nat.le_refl _)
  have ne : s.heap.objs.size + 1 ≠ s.heap.objs.size := Nat.succ_ne_self _
  have I2 := Inv.made (C := R.cad c) I
  have S1 := S.new (o := .own (s.heap.objs.size + 1)) f0
  have T1 := T.new (o := .own (s.heap.objs.size + 1)) f0
  have g1 : upd H s.heap.objs.size (.own (s.heap.objs.size + 1)) (s.heap.objs.size + 1) = none := by rw [upd_ne ne]; exact f1
  have S2 := S1.snoc (o := .ins (R.cad c) s.heap.objs.size []) (m := .ins c []) g1 ⟨_, [], upd_same, rfl⟩
  have T2 := T1.new (o := .ins (R.cad c) s.heap.objs.size []) g1
  have st2 := (step_new (φ := φ) (o := .own (s.heap.objs.size + 1)) f0).trans (step_sto (o := .ins (R.cad c) s.heap.objs.size []) g1)
  have hn : (φ ++ [s.heap.objs.size + 1])[st.length]? = some (s.heap.objs.size + 1) := by
    rw [List.getElem?_append_right (by rw [S.len]; exact Nat.le_refl _), S.len]
    simp
  have x2 : RepL R (φ ++ [s.heap.objs.size + 1]) (upd (upd H s.heap.objs.size (.own (s.heap.objs.size + 1))) (s.heap.objs.size + 1) (.ins (R.cad c) s.heap.objs.size [])) (.loc st.length :: ds) (.ref (s.heap.objs.size + 1) :: vs) := ⟨_, _, rfl, ⟨_, hn, rfl⟩, RepL.step st2 _ _ x⟩
  have r2 : Vals (V.ref (s.heap.objs.size + 1) :: vs) (Value.ref (s.heap.objs.size + 1) :: zs) := .cons rfl r
  have hbb := hb (s.heap.objs.size + 1) { s with heap := (s.heap.push PySem.W.emptyDict).push (PySem.W.instObj (R.cad c) s.heap.objs.size) } I2.kIn
  have p : Post R W σ φ H (RepV R) (M.bnd (m (.loc st.length :: ds)) (nonM st.length) (st ++ [.ins c []])) Q := p
  have pp : Post R (fun c d _ H => W c d σ H) [] (φ ++ [s.heap.objs.size + 1]) (upd (upd H s.heap.objs.size (.own (s.heap.objs.size + 1))) (s.heap.objs.size + 1) (.ins (R.cad c) s.heap.objs.size [])) (RepV R) (m (.loc st.length :: ds) (st ++ [.ins c []])) (fun v H2 => v = .non ∧ Q (.ref (s.heap.objs.size + 1)) H2) := by
    refine (Post.mono (Post.bnd (Post.step st2 p)) fun v H2 ⟨φ3, st3, d, s3, S3, T3, r3, p3⟩ => ?_).wish
    cases d with
    | non => exact ⟨r3, p3 φ3 H2 _ (Step.refl _ _) S3 T3 ⟨_, get_pre s3.pre hn, rfl⟩⟩
    | _ => exact False.elim p3
  refine wpAny_call (make_map (f := f) I.kIn M0.makes M0.init (beq_iff_eq.mp M0.fn) (codeAny_mono (F.run R.hid _ X.stack _ _ ⟨Value.ref (s.heap.objs.size + 1) :: us, kw⟩ _ _ (.loc st.length :: ds) _ _ _ (fun c d H => W c d σ H) (hr.make (R.cad c) us kw)
    (I2.env0.make (R.cad c) us kw) hbb r2 (by rw [List.length_cons]; exact hl) S2 T2 x2.x pp) fun r s' hq' => ?_))
  cases r with
  | error e => exact tk e s' (XE.of_call I2 (fun _ _ _ h => h) hq')
  | ok fl =>
    cases fl with
    | ret u =>
      obtain ⟨v, H', I3, rv, ev, q3⟩ := I2.after hq'
      subst ev
      exact ⟨rv, ⟨V.ref (s.heap.objs.size + 1), H', I3, rfl, q3⟩⟩
    | next => exact False.elim hq'
    | brk => exact False.elim hq'
    | cont => exact False.elim hq'
theorem argsBy_shift {α : Type} {a : α} {xs : List α} : ∀ {ord : List Nat} {ys : List α}, argsBy xs ord = some ys → argsBy (a :: xs) (ord.map (· + 1)) = some ys
  | [], _, e => e
  | i :: r, ys, e => by
    unfold argsBy at e
    split at e
    · rename_i x zs q1 q2
      cases e
      show argsBy (a :: xs) ((i + 1) :: r.map (· + 1)) = _
      unfold argsBy
      rw [List.getElem?_cons_succ, q1, argsBy_shift q2]
    · cases e
theorem s_mkK0 {G : Gm} {c : Nat} {x : Str} {p pos : Pos} {kws : List Keyword} {ks : List Str} {ord : List Nat} {mk : Env → M (List PV)} (M0 : Mk X.K (R.cad c) f) (F : FnM X.prog X.w X.K X.mg X.base R k f fd ps m) (hn : ∀ ds st, m ds st ≠ .bad → ds.length = ps.length) (hr : Room (k + 1) X.A) (hg : Gl X x) (hm : X.mg x = some (.ref (R.cad c))) (hb : KwB X.K fd ps 1 ks (0 :: ord.map (· + 1))) (tk : Takes X W)
    (hkw : PK X kws (tMA' R G W mk)) (l2 : ∀ ρ st xs st', mk ρ st = .ok xs st' → xs.length = ks.length) (hall : (backToKw pos (keywordEach kws X.env)).all (·.1.isSome) = true) (hks : (backToKw pos (keywordEach kws X.env)).filterMap (·.1) = ks)
    (hdb : (x == ("__debug__" : Str)) = false) (hpl : ((backTo pos (starEach [] X.env)).any (·.1) || (backToKw pos (keywordEach kws X.env)).any (·.1.isNone)) = false) :
    PE X (.Call (.Name x p) [] kws pos) (tM R G W fun ρ => M.bnd (M.ret []) fun xs => M.bnd (mk ρ) fun ys => M.bnd (M.opt (argsBy (xs ++ ys) ord)) (mkM m c)) := by
  refine ⟨fun pins s σ H Q I ⟨φ, st, ρ, S, E, T, h⟩ => ?_⟩
  refine wpAny_Call_Name_kw (ld_glob I hg hm ?_ hdb)
  have p1 : Post R W σ φ H (RepV R) (M.bnd (mk ρ) (fun ys => M.bnd (M.opt (argsBy ([] ++ ys) ord)) (mkM m c)) st) Q := h
  refine PySem.W.callWith_KW0 (h₀ := X.base) I.ok.mod.kin M0.kp hall ?_ hpl
  refine thn (hkw.run pos pins s σ H (fun zs H2 => ∃ φ2 st2 es, Step φ H φ2 H2 ∧ RepS R φ2 st2 H2 ∧ Tbs R H2 ∧ RepL R φ2 H2 es zs ∧ es.length = ks.length ∧ Post R W σ φ2 H2 (RepV R) (M.bnd (M.opt (argsBy ([] ++ es) ord)) (mkM m c) st2) Q) I ⟨φ, st, ρ, S, E, T, ?_⟩) fun ws s2 ⟨zs, H2, I2, rz, φ2, st2, es', s2', S2, T2, r2, n2, p2⟩ => ⟨I2.kIn, ?_⟩
  · cases q : mk ρ st with
    | ok es st2 =>
      unfold M.bnd at p1
      rw [q] at p1
      exact fun φ' H' v a b c r => ⟨φ', st2, es, a, b, c, r, l2 _ _ _ _ q, p1.step a⟩
    | exc cc v st2 =>
      unfold M.bnd at p1
      rw [q] at p1
      exact p1
    | bad =>
      unfold M.bnd at p1
      rw [q] at p1
      exact p1
  · rw [hks]
    rw [List.nil_append] at p2
    cases q : argsBy es' ord with
    | none => rw [q] at p2; exact p2.elim
    | some as =>
      rw [q] at p2
      have p2 : Post R W σ φ2 H2 (RepV R) (mkM m c as st2) Q := p2
      obtain ⟨bs, g1, g2⟩ := argsBy_rep r2 q
      obtain ⟨cs, g3, g4⟩ := argsBy_vals rz g1
      exact run_mkMG (us := []) M0 F hr tk (fun e s' X' => hb.to s' [.ref e] ws (.ref e :: cs) X' rfl (by rw [← rz.length, ← r2.length]; exact n2) (by
        show argsBy (.ref e :: ws) (0 :: ord.map (· + 1)) = _
        unfold argsBy
        rw [List.getElem?_cons_zero, argsBy_shift g3])) I2 g4 (mk_len hn fun z => by rw [z] at p2; exact p2) S2 T2 g2 p2
end
end Mp
namespace PySem.W
open PySem PySem.Calls PyProof.Rows Builtin
section
variable {prog : Program} {w : World} {A : Around} {E : Value → Shared → Prop} {s : Shared} {K : Frag} {x C L f : Addr} {h₀ : Heap} {m : Str → Option Value} {ox : Obj} {od : Option Obj} {b tb : Value}
theorem ne_K {Q : Value → Shared → Prop} (hu : A.units + 1 < cLine) (F : Fr h₀ L s.heap m) (X₀ : K.In h₀) (I : InstAt s.heap x ox C od) (hb : Looks (model prog w) s.heap (typeOf b) tb) (hn : notFirst K C tb = true)
    (hne : findIn K (.ref C) "__ne__" = some (some (.builtin "object.__ne__"))) (hob : mroIn K C (.type "object") = some true) (hs : findIn K (.ref C) "__eq__" = some (some (.ref f))) (hf : isFn K (.ref f) = true)
    (h : wpAny (model prog w) A.in1 (call (.ref f) [.ref x, b]) (fun v s' => ∃ k, v = .bool k ∧ Q (.bool (!k)) s') E s) : wpAny (model prog w) A (richCompare .NotEq (.ref x) b) Q E s := by
  have X := X₀.keeps F.keep
  have ne : wpAny (model prog w) A.in1 (Builtin.«object.__ne__» ⟨[.ref x, b], []⟩) (fun fin s' => ∃ v, fin = .done (.ret v) ∧ v ≠ .notImplemented ∧ Q v s') E s := by
    unfold Builtin.«object.__ne__»
    repeat (first
      | with_reducible refine wpAny_cRoomFor hu ?_
      | (refine wpAny_bind (m := callSpecialIfBound? (.ref x) (Str.ofString "__eq__") [b])
          (ifBound_K X I hs hf (wpAny_mono h (fun r s' hr => by
            obtain ⟨k, rfl, hq⟩ := hr
            repeat (first | exact ⟨_, rfl, (fun z => nomatch z), hq⟩ | exact wpAny_pure ⟨_, rfl, (fun z => nomatch z), hq⟩ | (refine wpAny_bind (m := truthy (.bool _)) (wpAny_truthy_bool ?_)) | wp_step)) fun _ _ e => e)))
      | wp_step)
  have sub : Looks (model prog w) s.heap (isInstance (.ref x) (.type "object")) true := I.type.andThen (looks_mroIn X hob)
  have hbd := PySem.F.slot_zip_ne.bind (.ref x)
  have cal : wpAny (model prog w) A (call (.builtin "object.__ne__") [.ref x, b]) (fun v s' => v ≠ .notImplemented ∧ Q v s') E s := by
    refine wpAny_call (codeAny_call_builtin PySem.F.slot_zip_ne.plain PySem.F.cmpEntry_ne (@check_slot (model prog w) _ _ s "object.__ne__" "object" "__ne__" (.ref x) [b] [] _ PySem.F.cmpKind_ne PySem.F.cmpSplit_ne sub (PySem.F.cmpArgs_ne _ _) (wpAny_mono ne (fun fin s' hq => ?_) fun _ _ z => z)))
    obtain ⟨v, rfl, h1, h2⟩ := hq
    exact ⟨h1, h2⟩
  have one : wpAny (model prog w) A (tryCompare (.ref x) (cmpInfo .NotEq).2.1 b) (fun r s' => ∃ v, r = some v ∧ Q v s') E s := by
    unfold tryCompare
    refine wpAny_bind ?_
    simp only [callSpecialIfBound?, bindSpecialIfBound?]
    refine wpAny_holding (wpAny_bind (wpAny_bind (wpAny_bind (I.type.here ((looks_findIn X hne).here ?_)))))
    refine wpAny_bind (wpAny_askSetting (wpAny_ite ?_))
    split
    · refine wpAny_bind (wpAny_of_eq hbd (wpAny_pure (wpAny_bind (wpAny_mono cal (fun v s' hv => wpAny_pure ?_) fun _ _ e => e))))
      obtain ⟨h1, h2⟩ := hv
      cases v <;> first | exact absurd rfl h1 | exact wpAny_pure ⟨_, rfl, h2⟩
    · refine wpAny_tryCatch (wpAny_bind (wpAny_of_eq hbd (wpAny_pure (wpAny_bind (wpAny_mono cal (fun v s' hv => wpAny_pure ?_) fun _ _ e => e)))))
      obtain ⟨h1, h2⟩ := hv
      cases v <;> first | exact absurd rfl h1 | exact wpAny_pure ⟨_, rfl, h2⟩
  unfold richCompare
  simp only [oneThing_ref]
  refine wpAny_holding (wpAny_bind (wpAny_cRoomFor (Nat.lt_of_succ_lt hu) ?_))
  refine wpAny_bind (I.type.here (wpAny_bind (hb.here ?_)))
  split
  · rename_i q
    have e : subIn K tb (.ref C) = some false := by
      rcases Bool.or_eq_true_iff.mp hn with e | e
      · rw [beq_iff_eq.mp e] at q; simp at q
      · exact beq_iff_eq.mp e
    refine wpAny_bind ((looks_subIn X e).here ?_)
    simp only [Bool.false_eq_true, if_false]
    refine wpAny_bind (wpAny_mono one (fun r s' z => ?_) fun _ _ e => e)
    obtain ⟨v, rfl, hq⟩ := z
    exact wpAny_pure hq
  · refine wpAny_bind (wpAny_pure ?_)
    simp only [Bool.false_eq_true, if_false]
    refine wpAny_bind (wpAny_mono one (fun r s' z => ?_) fun _ _ e => e)
    obtain ⟨v, rfl, hq⟩ := z
    exact wpAny_pure hq
end
end PySem.W
namespace Mp
open PySem PySem.Spec PyProof.Rows L2
structure EqM (P : Program) (w : World) (K : PySem.W.Frag) (mg : Str → Option Value) (base : Heap) (R : Rc) (k c : Nat) (m : List PV → M PV) : Prop where
  ex : ∃ (f : Addr) (fd : FuncData) (ps : List Str), PySem.W.findIn K (.ref (R.cad c)) "__eq__" = some (some (.ref f)) ∧ PySem.W.isFn K (.ref f) = true ∧ PySem.W.findIn K (.ref (R.cad c)) "__ne__" = some (some (.builtin "object.__ne__")) ∧ PySem.W.mroIn K (R.cad c) (.type "object") = some true ∧
    PySem.W.notFirst K (R.cad c) (.type "tuple") = true ∧ FnM P w K mg base R k f fd ps m ∧ Binds K fd ps [] ∧ ∀ ds st, m ds st ≠ .bad → ds.length = ps.length
theorem EqM.h {P : Program} {w : World} {K : PySem.W.Frag} {mg : Str → Option Value} {base : Heap} {R : Rc} {hid : List Addr} {k c : Nat} {m : List PV → M PV} (F : EqM P w K mg base R k c m) : EqM P w K mg base (R.h hid) k c m := by
  obtain ⟨f, fd, ps, h1, h2, h3, h4, h5, h6, h7, h8⟩ := F.ex
  exact ⟨f, fd, ps, h1, h2, h3, h4, h5, ⟨h6.run⟩, h7, h8⟩
section
variable {X : Cx} {R : Rc} {W : WX} {k : Nat} {f : Addr} {fd : FuncData} {ps : List Str} {m : List PV → M PV}
theorem run_MA {A : Around} {pins : List (Addr × Obj)} {σ : L2.St} {H : Hp} {s : Shared} {Q : VK} {us : List Value} {vs : List V} {ds : List PV} {φ : List Addr} {st : Sto} (F : FnM X.prog X.w X.K X.mg X.base R k f fd ps m) (hr : Room k A) (e0 : Env0 X.prog X.w X.K X.mg X.base A X.stack s H) (hb : Binds X.K fd ps []) (tk : Takes X W)
    (I : Inv X pins σ H s) (r : Vals vs us) (hl : ds.length = ps.length) (S : RepS R φ st H) (T : Tbs R H) (x : RepL R φ H ds vs) (p : Post R W σ φ H (RepV R) (m ds st) Q) :
    wpAny (model X.prog X.w) A (call (.ref f) us) (EP X pins σ Q) X.xe s := by
  have hl2 : (us ++ []).length = ps.length := by rw [List.append_nil, ← r.length, ← x.length]; exact hl
  have hbb := hb s us I.kIn hl2
  rw [List.append_nil] at hbb
  refine wpAny_call (codeAny_mono (F.run R.hid A X.stack s H ⟨us, []⟩ us vs ds φ st Q (fun c d H => W c d σ H) hr e0 hbb r hl S T (RepL.x x) p.wish) fun r s' hq => ?_)
  cases r with
  | error e => exact tk e s' (XE.of_call I (fun _ _ _ h => h) hq)
  | ok fl =>
    cases fl with
    | ret u => exact I.after hq
    | next => exact False.elim hq
    | brk => exact False.elim hq
    | cont => exact False.elim hq
theorem eqArg_ok {φ : List Addr} {H : Hp} {st : Sto} {σ : L2.St} {c : Nat} {d : PV} {x : V} {g : Unit → M PV} {Q : VK} {pins : List (Addr × Obj)} {s : Shared} {u : Value} (hK : R.K = X.K) (hn : PySem.W.notFirst X.K (R.cad c) (.type "tuple") = true) (I : Inv X pins σ H s) (S : RepS R φ st H) (r : RepV R φ H d x) (rx : RelV x u) (p : Post R W σ φ H (RepV R) (M.bnd (eqArg c d) g st) Q) :
    (∃ tb, PySem.W.Looks (model X.prog X.w) s.heap (typeOf u) tb ∧ PySem.W.notFirst X.K (R.cad c) tb = true) ∧ Post R W σ φ H (RepV R) (g () st) Q := by
  unfold M.bnd eqArg at p
  cases d with
  | tup xs =>
    obtain ⟨a, vs, rfl, t, z, q⟩ := r
    obtain rfl : u = Value.ref a := rx
    refine ⟨⟨.type "tuple", ?_, hn⟩, p⟩
    have ty : TyX X.K H (.ref a) (.type "tuple") := by
      rcases t with t | ⟨_, o, its, n, h1, h2, _⟩
      · exact .base (.tup t.1)
      · rw [hK] at h1; exact .kTuple h1 h2
    obtain ⟨Pk, Z, pk, _⟩ := kit_of I (show RelV (.ref a) (.ref a) from rfl) ty
    exact Z.ty _ _ I.kIn pk
  | loc n =>
    obtain ⟨a, ha, rfl⟩ := r
    obtain rfl : u = Value.ref a := rx
    cases q : st[n]? with
    | none => simp only [q] at p; exact p.elim
    | some mo =>
      simp only [q] at p
      cases mo with
      | ins c' fs =>
        simp only at p
        by_cases e : c' = c
        · rw [if_pos e] at p
          subst e
          obtain ⟨dx, gs, h1, h2⟩ := S.at_ n _ a q ha
          obtain ⟨mA, J, _⟩ := ins_get I.hok h1
          obtain ⟨od, J, _⟩ := J.look
          refine ⟨⟨.ref (R.cad c'), J.type, ?_⟩, p⟩
          unfold PySem.W.notFirst
          simp
        · rw [if_neg e] at p
          exact p.elim
      | _ => exact False.elim p
  | _ => exact False.elim p
theorem s_eqO {P : Prog} {C : Call} {n : Nat} {neg : Bool} {op : CmpOp} {a b : Expr} {pos : Pos} {ma mb : Env → M PV} (hK : R.K = X.K) (ho : op = if neg then .NotEq else .Eq) (eqf : ∀ c k, P.eqs.lookup c = some k → EqM X.prog X.w X.K X.mg X.base R n c (C.low k)) (hr : Room (n + 1) X.A) (tk : Takes X W) (ha : PE X a (tM R (gOf X) W ma)) (hb : PE X b (tM R (gOf X) W mb)) (hm : behindInMarks op b = false) :
    PE X (.Compare a [op] [b] pos) (tM R (gOf X) W fun ρ => M.bnd (ma ρ) fun x => M.bnd (mb ρ) fun y => M.bnd (clsOf x) fun c => M.bnd (eqArg c y) fun _ => (match P.eqs.lookup c with
      | some k => M.bnd (C.low k [x, y]) fun z => (match z with
        | .bl q => M.ret (.bl (if neg then !q else q))
        | _ => M.bad)
      | none => M.bad)) := by
  refine ⟨fun pins s σ H Q I ⟨φ, st, ρ, S, E, T, h⟩ => ?_⟩
  refine wpAny_Compare1 (thn (ha.run pins s σ H (fun x H1 => ∃ φ1 st1 d, Step φ H φ1 H1 ∧ RepS R φ1 st1 H1 ∧ RepE R (gOf X) φ1 H1 ρ σ ∧ Tbs R H1 ∧ RepV R φ1 H1 d x ∧ Post R W σ φ1 H1 (RepV R) (M.bnd (mb ρ) (fun y => M.bnd (clsOf d) fun c => M.bnd (eqArg c y) fun _ => (match P.eqs.lookup c with
      | some k => M.bnd (C.low k [d, y]) fun z => (match z with
        | .bl q => M.ret (.bl (if neg then !q else q))
        | _ => M.bad)
      | none => M.bad)) st1) Q) I ⟨φ, st, ρ, S, E, T, Post.mono (Post.bnd h) fun v H1 ⟨φ1, st1, d, s1, S1, T1, r1, p1⟩ => ⟨φ1, st1, d, s1, S1, E.step s1, T1, r1, p1⟩⟩) fun v s1 ⟨x, H1, I1, rx, φ1, st1, d, s1', S1, E1, T1, r1, p1⟩ => ?_) hm
  refine thn (hb.run pins s1 σ H1 (fun y H2 => ∃ φ2 st2 e, Step φ1 H1 φ2 H2 ∧ RepS R φ2 st2 H2 ∧ Tbs R H2 ∧ RepV R φ2 H2 e y ∧ Post R W σ φ2 H2 (RepV R) (M.bnd (clsOf d) (fun c => M.bnd (eqArg c e) fun _ => (match P.eqs.lookup c with
      | some k => M.bnd (C.low k [d, e]) fun z => (match z with
        | .bl q => M.ret (.bl (if neg then !q else q))
        | _ => M.bad)
      | none => M.bad)) st2) Q) I1 ⟨φ1, st1, ρ, S1, E1, T1, Post.bnd p1⟩) fun u s2 ⟨y, H2, I2, ry, φ2, st2, e, s2', S2, T2, r2, p2⟩ => ?_
  obtain ⟨nn, aa, c, fs, dx, gs, rfl, hn, rfl, q, g1, g2, p2⟩ := clsOf_ok S2 (r1.step s2') p2
  obtain rfl : v = Value.ref aa := rx
  cases qe : P.eqs.lookup c with
  | none =>
    rw [qe] at p2
    unfold M.bnd at p2
    split at p2 <;> first | exact p2.elim | (rename_i z; unfold eqArg at z; repeat' (first | (cases z; done) | split at z))
  | some kk =>
    rw [qe] at p2
    obtain ⟨f, fd, ps, k1, k2, k3, k4, k5, k6, k7, k8⟩ := (eqf c kk qe).ex
    obtain ⟨⟨tb, hL, hF⟩, p3⟩ := eqArg_ok hK k5 I2 S2 r2 ry p2
    obtain ⟨mA, J, _⟩ := ins_get I2.hok g1
    obtain ⟨od, J, _⟩ := J.look
    obtain ⟨m0, hFr⟩ := I2.fr
    have p4 : Post R W σ φ2 H2 (RepV R) (C.low kk [.loc nn, e] st2) (fun v H' => ∃ q, v = .bl q ∧ Q (.bl (if neg then !q else q)) H') := by
      refine Post.mono (Post.bnd (A := RepV R) p3) fun v H3 ⟨φ3, st3, d3, s3, S3, T3, r3, p5⟩ => ?_
      cases d3 with
      | bl q => exact ⟨q, r3, p5 φ3 H3 _ (Step.refl _ _) S3 T3 rfl⟩
      | _ => exact False.elim p5
    have hl : ([PV.loc nn, e] : List PV).length = ps.length := k8 _ st2 fun z => by rw [z] at p4; exact p4
    have hx : RepL R φ2 H2 [.loc nn, e] [.ref aa, y] := ⟨_, _, rfl, r1.step s2', _, _, rfl, r2, rfl⟩
    have hv : Vals [V.ref aa, y] [Value.ref aa, u] := .cons rfl (.cons ry .nil)
    unfold compareOp
    subst ho
    cases neg with
    | false =>
      refine PySem.W.cmp_K (op := .Eq) (by have := hr.un; omega) hFr I2.ok.mod.kin J hL hF k1 k2 (wpAny_mono (run_MA k6 (hr.mono (Nat.le_succ n)) I2.env0 k7 tk I2 hv hl S2 T2 hx p4) (fun z s3 hz => ?_) fun _ _ z => z)
      obtain ⟨v', H3, I3, rv, q', ev, q3⟩ := hz
      subst ev
      obtain rfl : z = Value.bool q' := rv
      exact ⟨V.bl q', H3, I3, rfl, q3⟩
    | true =>
      refine PySem.W.ne_K (by have := hr.un; omega) hFr I2.ok.mod.kin J hL hF k3 k4 k1 k2 (wpAny_mono (run_MA k6 hr.in1 I2.env0.in1 k7 tk I2 hv hl S2 T2 hx p4) (fun z s3 hz => ?_) fun _ _ z => z)
      obtain ⟨v', H3, I3, rv, q', ev, q3⟩ := hz
      subst ev
      obtain rfl : z = Value.bool q' := rv
      exact ⟨q', rfl, V.bl (!q'), H3, I3, rfl, q3⟩
end
end Mp
namespace Mp
open PySem PySem.Spec PyProof.Rows L2
def RepF (R : Rc) (φ : List Addr) (H : Hp) (d : PV) (v : V) : Prop :=
  ∃ (ys : List PV) (a : Addr) (vs : List V) (o : Obj), d = .tup ys ∧ v = .ref a ∧ Own R φ H a (.frz o (.tup vs)) ∧ o.cls = .type "tuple" ∧ o.dict = none ∧ vs.length ≤ SZ ∧ RepL R φ H ys vs
theorem RepF.step {R : Rc} {φ φ' : List Addr} {H H' : Hp} (s : Step φ H φ' H') {d : PV} {v : V} (h : RepF R φ H d v) : RepF R φ' H' d v := by
  obtain ⟨ys, a, vs, o, e1, e2, h1, h2, h3, h4, h5⟩ := h
  exact ⟨ys, a, vs, o, e1, e2, h1.step s, h2, h3, h4, RepL.step s _ _ h5⟩
def tF (R : Rc) (G : Gm) (W : WX) (m : Env → M PV) : TE := fun σ H Q => ∃ φ st ρ, RepS R φ st H ∧ RepE R G φ H ρ σ ∧ Tbs R H ∧ Post R W σ φ H (RepF R) (m ρ st) Q
structure FnF (P : Program) (w : World) (K : PySem.W.Frag) (mg : Str → Option Value) (base : Heap) (R : Rc) (k : Nat) (f : Addr) (fd : FuncData) (ps : List Str) (m : List PV → M PV) : Prop where
  run : ∀ (hid : List Addr) (A : Around) (outer : List PySem.Env) (s : Shared) (H : Hp) (args : Args) (us : List Value) (vs : List V) (ds : List PV) (φ : List Addr) (st : Sto) (Q : VK) (E : XK), Room k A → Env0 P w K mg base A outer s H → BindsTo s fd args (ps.zip us) → Vals vs us → ds.length = ps.length →
    RepS (R.h hid) φ st H → Tbs R H → RepXL (R.h hid) ⟨s.heap, H, frs outer⟩ φ H ds vs → Post (R.h hid) (fun c d _ H => E c d H) [] φ H (RepF (R.h hid)) (m ds st) Q → codeAny (model P w) A (.call (.ref f) args) (CR (L2.CX P w) outer P w H s Q E) s
theorem FnF.h {P : Program} {w : World} {K : PySem.W.Frag} {mg : Str → Option Value} {base : Heap} {R : Rc} {hid : List Addr} {k : Nat} {f : Addr} {fd : FuncData} {ps : List Str} {m : List PV → M PV} (F : FnF P w K mg base R k f fd ps m) : FnF P w K mg base (R.h hid) k f fd ps m := ⟨F.run⟩
section
variable {X : Cx} {R : Rc} {G : Gm} {W : WX} {k : Nat} {f : Addr} {fd : FuncData} {ps : List Str} {m : List PV → M PV}
theorem f_tupleF (hK : R.K = X.K) : CallR X (.type "tuple") (fun xs H Q => ∃ φ st d x, xs = [x] ∧ RepS R φ st H ∧ Tbs R H ∧ RepV R φ H d x ∧ PostN R φ H (RepF R) (M.bnd (asL d) (fun ys => M.ret (.tup ys)) st) Q) := by
  intro pins s σ H xs us Q I r ⟨φ, st, d, x, e, S, T, rd, p⟩
  subst e
  obtain ⟨u, rfl, rx⟩ := vals1 r
  have core : ∀ {a : Addr} {ds : List PV} {vs : List V}, x = .ref a → SqL X.K H a vs → vs.length ≤ SZ → RepL R φ H ds vs → PostN R φ H (RepF R) (M.ret (.tup ds) st) Q → wpAny (model X.prog X.w) X.A (call (.type "tuple") [u]) (EP X pins σ Q) X.xe s := fun {a ds vs} e hq hz hl p => by
    subst e
    cases rx
    obtain ⟨its, r', pl, hz'⟩ := I.list hq
    have hlen := r'.length
    refine call_tuple_list pl.isList (fun h' kp => ?_) (by simp only [List.size_toArray] <;> omega)
    have I1 : Inv X pins σ H { s with heap := h' } := I.kept (t' := s.toks) kp
    have hn := I1.hok.fresh (Nat.le_refl _)
    have I2 : Inv X pins σ (upd H h'.objs.size (.frz { cls := .type "tuple", data := .seq its.toArray } (.tup vs))) { s with heap := h'.push { cls := .type "tuple", data := .seq its.toArray } } :=
      I1.laid (t' := s.toks) (fun b o e => Heap.get?_push_of_some _ e) (Nat.le_refl _) (show ObjOk X.prog X.w _ _ _ (.frz _ (.tup vs)) from ⟨Heap.get?_push_size _ rfl, hz', its, r', IsTup.new _ _⟩)
    exact ⟨.ref h'.objs.size, _, I2, rfl, p φ _ _ (step_new hn) (S.new hn) (T.new hn) ⟨ds, _, vs, _, rfl, rfl, ⟨upd_same, S.fresh hn, fun ps z => by cases z⟩, rfl, rfl, hz, RepL.step (step_new hn) _ _ hl⟩⟩
  cases d with
  | lst xs =>
    obtain ⟨a, vs, rfl, t, z, q⟩ := rd
    exact core rfl (.inl (.inl t.1)) z q p
  | loc n =>
    obtain ⟨a, ha, rfl⟩ := rd
    cases q : st[n]? with
    | none =>
      unfold M.bnd asL at p
      simp only [q] at p
      exact p.elim
    | some mo =>
      unfold M.bnd asL at p
      simp only [q] at p
      cases mo with
      | lst xs =>
        obtain ⟨vs, h1, h2, h3⟩ := S.at_ n _ a q ha
        exact core rfl (.inl (.inl h1)) h2 h3 p
      | _ => exact False.elim p
  | _ => exact False.elim p
theorem s_tupleF {x : Str} {p pos : Pos} {e : Expr} {ma : Env → M PV} (hK : R.K = X.K) (hg : Gl X x) (hm : X.mg x = none) (hv : bootBuiltins x = some (.type "tuple")) (hn : x ≠ "__name__") (hdb : (x == ("__debug__" : Str)) = false)
    (he : starEach [e] X.env = (false, eval e X.env) :: starEach [] X.env) (ha : PE X e (tM R G W ma)) :
    PE X (.Call (.Name x p) [e] [] pos) (tF R G W fun ρ => M.bnd (ma ρ) fun x => M.bnd (asL x) fun ys => M.ret (.tup ys)) :=
  (pe_callTy (f_tupleF hK) hg hm hv (a_cons ha a_nil he) hn hdb he (by rfl)).imp fun σ H Q ⟨φ, st, ρ, S, E, T, h⟩ => by
    refine ⟨φ, st, ρ, S, E, T, ?_⟩
    have h : Post R W σ φ H (RepF R) (M.bnd (ma ρ) (fun x => M.bnd (asL x) fun ys => M.ret (.tup ys)) st) Q := h
    show Post R W σ φ H (RepL R) (M.bnd (ma ρ) (fun x => M.bnd (M.ret []) fun xs => M.ret (x :: xs)) st) _
    unfold M.bnd at h ⊢
    cases q : ma ρ st with
    | ok d st1 =>
      rw [q] at h
      intro φ' H' vs s' S' T' r
      obtain ⟨v, r', rfl, rv, rfl⟩ := r
      exact ⟨φ', st1, d, v, rfl, S', T', rv, (Post.step s' h).n (NoX.bnd NoX.asL fun _ => NoX.ret _)⟩
    | exc c vs st1 =>
      rw [q] at h
      exact h
    | bad =>
      rw [q] at h
      exact h
theorem allS_ok {φ : List Addr} {H : Hp} : ∀ {ys : List PV} {vs : List V}, allS ys = true → RepL R φ H ys vs → ∃ zs : List Str, ys = zs.map .str ∧ vs = zs.map V.str
  | [], vs, _, r => ⟨[], rfl, r⟩
  | .str z :: ys, vs, h, r => by
    obtain ⟨v, r', rfl, rv, rr⟩ := r
    obtain ⟨zs, e1, e2⟩ := allS_ok (ys := ys) h rr
    exact ⟨z :: zs, by rw [e1]; rfl, by rw [e2, rv.1]; rfl⟩
  | .non :: _, _, h, _ => by cases h
  | .bl _ :: _, _, h, _ => by cases h
  | .int _ :: _, _, h, _ => by cases h
  | .tup _ :: _, _, h, _ => by cases h
  | .lst _ :: _, _, h, _ => by cases h
  | .loc _ :: _, _, h, _ => by cases h
  | .glo _ :: _, _, h, _ => by cases h
  | .scr _ :: _, _, h, _ => by cases h
  | .clo _ _ :: _, _, h, _ => by cases h
  | .exn _ _ _ :: _, _, h, _ => by cases h
theorem idxS_ok {z : Str} : ∀ {zs : List Str} {k : Nat}, idxS z (zs.map .str) = some k → zs[k]? = some z ∧ ∀ m, m < k → zs[m]? ≠ some z
  | [], k, h => by cases h
  | y :: zs, k, h => by
    have h : (if y = z then some 0 else (idxS z (zs.map .str)).map (· + 1)) = some k := h
    by_cases e : y = z
    · rw [if_pos e] at h
      cases h
      subst e
      exact ⟨rfl, fun m hm => absurd hm (Nat.not_lt_zero m)⟩
    · rw [if_neg e] at h
      cases q : idxS z (zs.map .str) with
      | none => rw [q] at h; cases h
      | some j =>
        rw [q] at h
        cases h
        obtain ⟨h1, h2⟩ := idxS_ok q
        refine ⟨h1, fun m hm => ?_⟩
        cases m with
        | zero => exact fun h => e (Option.some.inj h)
        | succ m => exact h2 m (Nat.lt_of_succ_lt_succ hm)
theorem NoX.idxV {x y : PV} : NoX (idxV x y) := by
  unfold Mp.idxV
  split <;> first | exact NoX.grd (NoX.bnd NoX.opt fun _ => NoX.ret _) | exact NoX.bad
theorem m_index (hK : R.K = X.K) : MtR X "tuple.index" (fun x xs H Q => ∃ φ st d e, RepS R φ st H ∧ Tbs R H ∧ RepF R φ H d x ∧ (∃ v, xs = [v] ∧ RepV R φ H e v) ∧ PostN R φ H (RepV R) (idxV d e st) Q) := MtR.imp mt_tup_index fun x xs H Q ⟨φ, st, d, e, S, T, rd, ⟨v, ev, re⟩, p⟩ => by
  obtain ⟨ys, a, vs, o, rfl, rfl, h1, h2, h3, h4, h5⟩ := rd
  subst ev
  cases e with
  | str z =>
    have p : PostN R φ H (RepV R) (M.grd (allS ys) (M.bnd (M.opt (idxS z ys)) fun k => M.ret (.int k)) st) Q := p
    obtain ⟨ha, p⟩ := grd_ok p
    obtain ⟨k, hk, p2⟩ := opt_ok p
    obtain ⟨zs, rfl, rfl⟩ := allS_ok ha h5
    obtain ⟨g1, g2⟩ := idxS_ok hk
    have p2 : PostN R φ H (RepV R) (M.ret (.int k) st) Q := p2
    exact ⟨a, zs, z, k, rfl, by rw [re.1], .inl (.inr ⟨o, h1.1⟩), g1, g2, PostN.here S T p2 rfl⟩
  | _ => exact p.elim
theorem s_idx {apos cpos : Pos} {o e : Expr} {mo ma : Env → M PV} (hK : R.K = X.K) (ho : PE X o (tF R G W mo)) (ha : PE X e (tM R G W ma)) (hbase : attributeBase o "index" X.env (eval o X.env) = eval o X.env)
    (hfew : ((backTo cpos (starEach [e] X.env)).all (fun x => !x.1) && (backToKw cpos (keywordEach [] X.env)).all (fun x => x.1.isSome) && decide (([e] : List Expr).length + ([] : List Keyword).length + (if ([] : List Keyword).isEmpty then 0 else 1) < 30)) = true)
    (hline : (apos.endLine == cpos.line) = true) (he : starEach [e] X.env = (false, eval e X.env) :: starEach [] X.env) :
    PE X (.Call (.Attribute o "index" apos) [e] [] cpos) (tM R G W fun ρ => M.bnd (mo ρ) fun x => M.bnd (ma ρ) fun y => idxV x y) := by
  refine ⟨fun pins s σ H Q I ⟨φ, st, ρ, S, E, T, h⟩ => ?_⟩
  have h : Post R W σ φ H (RepV R) (M.bnd (mo ρ) (fun x => M.bnd (ma ρ) fun y => idxV x y) st) Q := h
  refine wpAny_Call_method_late hbase hfew hline rfl (thn (ho.run pins s σ H (fun v H1 => ∃ φ1 st1 d, Step φ H φ1 H1 ∧ RepS R φ1 st1 H1 ∧ RepE R G φ1 H1 ρ σ ∧ Tbs R H1 ∧ RepF R φ1 H1 d v ∧ Post R W σ φ1 H1 (RepV R) (M.bnd (ma ρ) (fun y => idxV d y) st1) Q) I ⟨φ, st, ρ, S, E, T, Post.mono (Post.bnd (A := RepF R) h) fun v H1 ⟨φ1, st1, d, s1, S1, T1, r1, p1⟩ => ⟨φ1, st1, d, s1, S1, E.step s1, T1, r1, p1⟩⟩) fun v s1 ⟨x, H1, I1, rx, φ1, st1, d, s1', S1, E1, T1, r1, p1⟩ => ?_)
  obtain ⟨ys, a, vs, o', e1, rfl, k1, k2, k3, k4, k5⟩ := id r1
  cases rx
  have ho' : s1.heap.get? a = some o' := (show ObjOk X.prog X.w H1 s1.heap a (.frz o' (.tup vs)) from I1.hok a _ k1.1).1
  refine ⟨"tuple", "tuple.index", PySem.F.plainAttrs_tuple, PySem.F.slot_tuple_index, PySem.F.type_tuple_index, ⟨o', ho', k2⟩, fun a' z => by cases z; exact ⟨o', ho', k3⟩, ?_⟩
  have hA := (a_cons ha (a_nil (R := R) (G := G) (W := W)) he).run cpos pins s1 σ H1 (fun xs H2 => ∃ φ2 st2 e2, RepS R φ2 st2 H2 ∧ Tbs R H2 ∧ RepF R φ2 H2 d (.ref a) ∧ (∃ v, xs = [v] ∧ RepV R φ2 H2 e2 v) ∧ PostN R φ2 H2 (RepV R) (idxV d e2 st2) Q) I1 ⟨φ1, st1, ρ, S1, E1, T1, by
    show Post R W σ φ1 H1 (RepL R) (M.bnd (ma ρ) (fun x => M.bnd (M.ret []) fun xs => M.ret (x :: xs)) st1) _
    unfold M.bnd at p1 ⊢
    cases q : ma ρ st1 with
    | ok e2 st2 =>
      rw [q] at p1
      intro φ' H' vs' s' S' T' r
      obtain ⟨v, r', rfl, rv, rfl⟩ := r
      exact ⟨φ', st2, e2, S', T', r1.step s', ⟨v, rfl, rv⟩, (Post.step s' p1).n NoX.idxV⟩
    | exc c vs' st2 =>
      rw [q] at p1
      exact p1
    | bad =>
      rw [q] at p1
      exact p1⟩
  rw [he] at hA ⊢
  refine Calls.callWith_builtin (by rfl) (Calls.evalArgs_plain ?_)
  exact thn hA fun us s2 ⟨vs2, H2, I2, r2, φ2, st2, e2, S2, T2, rd2, rv2, p2⟩ => m_index (R := R) hK pins s2 σ H2 (.ref a) vs2 (.ref a) us Q I2 rfl r2 ⟨φ2, st2, d, e2, S2, T2, rd2, rv2, p2⟩
theorem s_callF {x : Str} {p pos : Pos} {e : Expr} {es : List Expr} {ms : Env → M (List PV)} (F : FnF X.prog X.w X.K X.mg X.base R k f fd ps m) (hn : ∀ ds st, m ds st ≠ .bad → ds.length = ps.length) (hr : Room k X.A) (hg : Gl X x) (hm : X.mg x = some (.ref f)) (hk : PySem.W.keepIn X.K (.ref f) = true)
    (hb : Binds X.K fd ps []) (tk : Takes X W) (ha : PA X (e :: es) (tMA' R G W ms)) (hdb : (x == ("__debug__" : Str)) = false) (he : starEach (e :: es) X.env = (false, eval e X.env) :: starEach es X.env) (hpl : (backTo pos (starEach es X.env)).any (·.1) = false) :
    PE X (.Call (.Name x p) (e :: es) [] pos) (tF R G W fun ρ => M.bnd (ms ρ) m) := by
  refine ⟨fun pins s σ H Q I ⟨φ, st, ρ, S, E, T, h⟩ => ?_⟩
  refine wpAny_Call_Name_kw (ld_glob I hg hm ?_ hdb)
  refine PySem.W.callWith_K (h₀ := X.base) I.ok.mod.kin hk (thn (ha.run pos pins s σ H (fun vs H1 => ∃ φ1 st1 ds, Step φ H φ1 H1 ∧ RepS R φ1 st1 H1 ∧ Tbs R H1 ∧ RepL R φ1 H1 ds vs ∧ Post R W σ φ1 H1 (RepF R) (m ds st1) Q) I ⟨φ, st, ρ, S, E, T, Post.bnd h⟩) fun us s1 ⟨vs, H1, I1, r, φ1, st1, ds, s1', S1, T1, x1, p1⟩ => ⟨I1.kIn, ?_⟩) he hpl
  have hl : ds.length = ps.length := hn _ st1 fun z => by rw [z] at p1; exact p1
  have hl2 : (us ++ []).length = ps.length := by rw [List.append_nil, ← r.length, ← x1.length]; exact hl
  have hbb := hb s1 us I1.kIn hl2
  rw [List.append_nil] at hbb
  refine wpAny_call (codeAny_mono (F.run R.hid X.A X.stack s1 H1 ⟨us, []⟩ us vs ds φ1 st1 Q (fun c d H => W c d σ H) hr I1.env0 hbb r hl S1 T1 (RepL.x x1) p1.wish) fun r s' hq => ?_)
  cases r with
  | error e => exact tk e s' (XE.of_call I1 (fun _ _ _ h => h) hq)
  | ok fl =>
    cases fl with
    | ret u => exact I1.after hq
    | next => exact False.elim hq
    | brk => exact False.elim hq
    | cont => exact False.elim hq
end
end Mp
namespace Mp
open PySem PySem.Spec PyProof.Rows L2
structure Sc where
  N : List Str
  sc : Scope
  vs : List Nat
  blk : Bool
  cells : Str → Bool
  qual : Str
  lamb : Bool
def relS (scope sc : Scope) : Scope := { scope with names := scope.names.map fun p => if (p.2 == NameKind.free && sc.kind == .function && sc.names.lookup p.1 == some .cell) then (p.1, NameKind.cell) else p }
def Sc.inner (S : Sc) (scope : Scope) (own : List Nat) : Sc := ⟨S.N, relS scope S.sc, own, true, fun x => scope.names.lookup x == some NameKind.cell, S.qual, false⟩
structure Dt where
  defn : List (Str × Nat)
  glob : List (Str × Nat)
  cls : List (Str × Nat)
  blt : List Str
  dfl : List (Nat × List PV)
  fld : List (Nat × Str)
  clsI : List (Nat × Nat)
  caps : List (Nat × List Nat)
  tabs : List (Addr × Str)
  kwt : List (Str × (List Str × List Nat))
  kwc : List (Str × (List Str × List Nat))
  fri : List Nat
  exm : List (Str × (Nat × Nat))
  exm0 : List (Str × Nat)
  xty : List (Str × (Bool × List Nat))
  lm : Nat → LamD → Bool
def notStar : Expr → Bool
  | .Starred _ _ => false
  | _ => true
def notSlc : Expr → Bool
  | .Slice _ _ _ _ => false
  | _ => true
def notSet : Expr → Bool
  | .Set _ _ _ => false
  | _ => true
def notCall0 : Expr → Bool
  | .Call (.Name _ _) [] [] _ => false
  | _ => true
def plainT : Expr → Bool
  | .UnaryOp .Not _ _ => false
  | .BoolOp _ _ _ => false
  | .IfExp _ _ _ _ => false
  | .Compare _ _ _ _ => false
  | _ => true
def notComp : Expr → Bool
  | .ListComp _ _ _ _ => false
  | .SetComp _ _ _ _ => false
  | .DictComp _ _ _ _ _ => false
  | _ => true
def isTup : Expr → Bool
  | .Tuple _ _ _ => true
  | _ => false
def okN (x : Str) : Bool := (x == ("__debug__" : Str)) == false && (x == ("__classdict__" : Str)) == false && decide (x ≠ "__name__")
def visB (S : Sc) (x : Str) : Bool := match S.sc.names.lookup x with
  | some .local => true
  | some .cell => true
  | some .free => true
  | _ => false
def glB (S : Sc) (x : Str) : Bool := match S.sc.names.lookup x with
  | some .globalImplicit => true
  | _ => false
def slot (S : Sc) (i : Nat) (x : Str) : Bool := decide (S.N[i]? = some x)
def cstB : Const → PV → Bool
  | .none, .non => true
  | .bool a, .bl b => a == b
  | .int i, .int j => i == j
  | .str x, .str y => x == y && okS y
  | _, _ => false
def opB : Bop → Operator → Bool
  | .add, .Add => true
  | .sub, .Sub => true
  | .mul, .Mult => true
  | .fdiv, .FloorDiv => true
  | .mod, .Mod => true
  | .pow, .Pow => true
  | _, _ => false
def copB : Cop → CmpOp → Bool
  | .eq, .Eq => true
  | .ne, .NotEq => true
  | .lt, .Lt => true
  | .le, .LtE => true
  | .gt, .Gt => true
  | .ge, .GtE => true
  | .is, .Is => true
  | .isnot, .IsNot => true
  | .in_, .In => true
  | .notin, .NotIn => true
  | _, _ => false
def bfN : Bf → Option Str
  | .len => some "len"
  | .abs => some "abs"
  | .int => some "int"
  | .divmod => some "divmod"
  | .min2 => some "min"
  | .max2 => some "max"
  | .sum => some "sum"
  | .all => some "all"
  | .any => some "any"
  | .minL => some "min"
  | .maxL => some "max"
  | .sorted => some "sorted"
  | .list => some "list"
  | .tuple => some "tuple"
  | .str => none
def bltB (D : Dt) (S : Sc) (x : Str) : Bool := D.blt.contains x && glB S x && okN x
def tyE (D : Dt) (S : Sc) : Ty → Expr → Bool
  | .int, .Name x _ => decide (x = "int") && bltB D S x
  | .bool, .Name x _ => decide (x = "bool") && bltB D S x
  | .str, .Name x _ => decide (x = "str") && bltB D S x
  | .tup, .Name x _ => decide (x = "tuple") && bltB D S x
  | .lst, .Name x _ => decide (x = "list") && bltB D S x
  | .dct, .Name x _ => decide (x = "dict") && bltB D S x
  | .own c, .Name x _ => decide (D.cls.lookup x = some c) && glB S x && okN x
  | .xc cs, .Name x _ => (decide (D.xty.lookup x = some (true, cs)) && bltB D S x) || (decide (D.xty.lookup x = some (false, cs)) && glB S x && okN x)
  | _, _ => false
def bmNm : Bm → Option Str
  | .append => some "append"
  | .extend => some "extend"
  | .pop => some "pop"
  | .split => some "split"
  | _ => none
def esLen : Es → Nat
  | .nil => 0
  | .cons _ r => esLen r + 1
def lamOf (D : Dt) (S : Sc) (k : Nat) (params : Arguments) (body : Expr) (scope : Scope) : LamD := ⟨S.qual ++ "<lambda>", params, body, scope, ((D.caps.lookup k).getD []).filterMap fun j => S.N[j]?⟩
def lamB (D : Dt) (S : Sc) (k : Nat) (params : Arguments) (body : Expr) (scope : Scope) : Bool := (D.caps.lookup k).isSome && decide (((D.caps.lookup k).getD []).map (fun j => S.N[j]?) = (lamOf D S k params body scope).fr.map some) &&
  D.lm k (lamOf D S k params body scope) && NdefX.ndefB S.sc scope (lamOf D S k params body scope).fr && params.defaults.isEmpty && params.kw_defaults.isEmpty
variable (D : Dt)
mutual
def chkE (S : Sc) : E → Expr → Bool
  | .var i, e => (match e with
    | .Name x _ => slot S i x && visB S x && okN x
    | _ => false)
  | .cst c, e => (match e with
    | .Constant k _ _ => cstB k c
    | _ => false)
  | .glo g, e => (match e with
    | .Name x _ => decide (D.glob.lookup x = some g) && glB S x && okN x
    | _ => false)
  | .bin o m a b, e => (match e with
    | .BinOp l op r _ => opB o op && chkE S a l && chkE S b r
    | _ => false)
  | .neg a, e => (match e with
    | .UnaryOp .USub l _ => chkE S a l
    | _ => false)
  | .cmp o a b, e => (match e with
    | .Compare l [op] [r] _ => copB o op && notSet r && chkE S a l && chkE S b r
    | _ => false)
  | .chn o o' a b c, e => (match e with
    | .Compare l [op, op'] [r, r'] _ => copB o op && copB o' op' && notSet r' && chkE S a l && chkE S b r && chkE S c r'
    | _ => false)
  | .and a b, e => (match e with
    | .BoolOp .And (v :: w :: []) p => chkE S a v && chkE S b w
    | .BoolOp .And (v :: w :: u :: r) p => chkE S a v && chkE S b (.BoolOp .And (w :: u :: r) p)
    | _ => false)
  | .or a b, e => (match e with
    | .BoolOp .Or (v :: w :: []) p => chkE S a v && chkE S b w
    | .BoolOp .Or (v :: w :: u :: r) p => chkE S a v && chkE S b (.BoolOp .Or (w :: u :: r) p)
    | _ => false)
  | .not a, e => (match e with
    | .UnaryOp .Not l _ => chkE S a l
    | _ => false)
  | .ite c a b, e => (match e with
    | .IfExp t x y _ => chkT S c t && chkE S a x && chkE S b y
    | _ => false)
  | .tup es, e => (match e with
    | .Tuple xs _ _ => chkEs S es xs
    | _ => false)
  | .lst m es, e => (match e with
    | .List xs _ => chkEs S es xs
    | _ => false)
  | .dct .nil .nil, e => (match e with
    | .Dict [] [] _ => true
    | _ => false)
  | .ix a i, e => (match e with
    | .Subscript l r _ => notSlc r && chkE S a l && chkE S i r
    | _ => false)
  | .dget a i, e => (match e with
    | .Subscript l r _ => notSlc r && chkE S a l && chkE S i r
    | _ => false)
  | .slc m a lo hi, e => (match e with
    | .Subscript l (.Slice x y none _) _ => chkE S a l && chkO S lo x && chkO S hi y
    | _ => false)
  | .atr a f, e => (match e with
    | .Attribute l nm _ => decide (D.fld.lookup f = some nm) && notCall0 l && chkE S a l
    | _ => false)
  | .call k es dv, e => (match e with
    | .Call (.Name x _) xs [] _ => decide (D.defn.lookup x = some k) && glB S x && okN x && xs.all notStar && decide (dv = ((D.dfl.lookup k).getD []).drop (((D.dfl.lookup k).getD []).length - dv.length)) && chkA S es xs
    | _ => false)
  | .callV i es, e => (match e with
    | .Call (.Name x _) (y :: xs) [] _ => !S.blk && slot S i x && visB S x && okN x && (y :: xs).all notStar && chkEs S es (y :: xs)
    | _ => false)
  | .mk c es, e => (match e with
    | .Call (.Name x _) (y :: xs) [] _ => decide (D.cls.lookup x = some c) && glB S x && okN x && (y :: xs).all notStar && chkEs S es (y :: xs)
    | _ => false)
  | .eqO neg a b, e => (match e with
    | .Compare l [op] [r] _ => copB (if neg then .ne else .eq) op && notSet r && chkE S a l && chkE S b r
    | _ => false)
  | .callK k .nil kw ord, e => (match e with
    | .Call (.Name x _) [] (q :: kws) _ => decide (D.defn.lookup x = some k) && glB S x && okN x && (D.kwt.any fun t => decide (t = (x, ((q :: kws).filterMap (·.arg), ord)))) && (q :: kws).all (·.arg.isSome) && chkEs S kw ((q :: kws).map (·.value))
    | _ => false)
  | .mkK c .nil kw ord, e => (match e with
    | .Call (.Name x _) [] (q :: kws) _ => decide (D.cls.lookup x = some c) && glB S x && okN x && (D.kwc.any fun t => decide (t = (x, ((q :: kws).filterMap (·.arg), ord)))) && (q :: kws).all (·.arg.isSome) && chkEs S kw ((q :: kws).map (·.value))
    | _ => false)
  | .exm c f (.cons a .nil), e => (match e with
    | .Call (.Name x _) [l] [] _ => decide (D.exm.lookup x = some (c, f)) && glB S x && okN x && notStar l && chkE S a l
    | .Call (.Name x _) [] [⟨some nm, l, _⟩] _ => decide (D.exm.lookup x = some (c, f)) && decide (D.fld.lookup f = some nm) && glB S x && okN x && chkE S a l
    | _ => false)
  | .exm c f .nil, e => (match e with
    | .Call (.Name x _) [] [] _ => decide (D.exm0.lookup x = some c) && glB S x && okN x
    | _ => false)
  | .bf f m es, e => (match e with
    | .Call (.Name x _) (y :: xs) [] _ => decide (bfN f = some x) && bltB D S x && (y :: xs).all notStar && chkEs S es (y :: xs)
    | _ => false)
  | .isi a t, e => (match e with
    | .Call (.Name x _) [l, c] [] _ => decide (x = "isinstance") && bltB D S x && notStar l && notStar c && tyE D S t c && chkE S a l
    | _ => false)
  | .bm f m o es, e => (match e with
    | .Call (.Attribute l nm ap) xs [] cp => decide (bmNm f = some nm) && notCall0 l && xs.all notStar && decide (xs.length < 30) && (ap.endLine == cp.line) && chkE S o l && chkEs S es xs
    | _ => false)
  | .callI k es a, e => (match e with
    | .Call (.Attribute (.Call (.Name x _) (y :: xs) [] _) nm ap) [r] [] cp => decide (nm = "index") && decide (D.defn.lookup x = some k) && D.fri.contains k && glB S x && okN x && (y :: xs).all notStar && notStar r && (ap.endLine == cp.line) && chkEs S es (y :: xs) && chkE S a r
    | _ => false)
  | .lc m own g it c x, e => (match e with
    | .ListComp elt [⟨tg, iter, ifs, k⟩] scope _ => decide (k = 0) && !S.blk && blkC S.N S.sc scope (own.filterMap fun i => (S.N[i]?).map fun y => (y, i)) && decide (own = (own.filterMap fun i => (S.N[i]?).map fun y => (y, i)).map (·.2)) && notSet iter && chkI S it tg iter &&
        chkG (S.inner scope own) g tg && chkC (S.inner scope own) c ifs && chkE (S.inner scope own) x elt
    | _ => false)
  | _, _ => false
def chkA (S : Sc) : As → List Expr → Bool
  | .nil, es => (match es with
    | [] => true
    | _ => false)
  | .cons a r, es => (match es with
    | e :: es => chkE S a e && chkA S r es
    | [] => false)
  | .fvar i r, es => (match es with
    | .Name x _ :: es => !S.blk && slot S i x && visB S x && okN x && chkA S r es
    | _ => false)
  | .lam k r, es => (match es with
    | .Lambda params body scope _ :: es => !S.blk && S.lamb && lamB D S k params body scope && chkA S r es
    | _ => false)
def chkT (S : Sc) : T → Expr → Bool
  | .of a, e => plainT e && chkE S a e
  | .cmp o a b, e => (match e with
    | .Compare l [op] [r] _ => copB o op && notSet r && chkE S a l && chkE S b r
    | _ => false)
  | .chn o o' a b c, e => (match e with
    | .Compare l [op, op'] [r, r'] _ => copB o op && copB o' op' && notSet r' && chkE S a l && chkE S b r && chkE S c r'
    | _ => false)
  | .and a b, e => (match e with
    | .BoolOp .And (v :: w :: []) p => chkT S a v && chkT S b w
    | .BoolOp .And (v :: w :: u :: r) p => chkT S a v && chkT S b (.BoolOp .And (w :: u :: r) p)
    | _ => false)
  | .or a b, e => (match e with
    | .BoolOp .Or (v :: w :: []) p => chkT S a v && chkT S b w
    | .BoolOp .Or (v :: w :: u :: r) p => chkT S a v && chkT S b (.BoolOp .Or (w :: u :: r) p)
    | _ => false)
  | .not a, e => (match e with
    | .UnaryOp .Not l _ => chkT S a l
    | _ => false)
def chkC (S : Sc) : OT → List Expr → Bool
  | .non, es => (match es with
    | [] => true
    | _ => false)
  | .som c, es => (match es with
    | [e] => chkT S c e
    | _ => false)
def chkO (S : Sc) : OE → Option Expr → Bool
  | .non, e => (match e with
    | none => true
    | _ => false)
  | .som a, e => (match e with
    | some e => chkE S a e
    | none => false)
def chkEs (S : Sc) : Es → List Expr → Bool
  | .nil, es => (match es with
    | [] => true
    | _ => false)
  | .cons a r, es => (match es with
    | e :: es => notStar e && chkE S a e && chkEs S r es
    | [] => false)
def chkG (S : Sc) : Tg → Expr → Bool
  | .name i, e => (match e with
    | .Name x _ => decide (i ∈ S.vs) && slot S i x && (match S.sc.names.lookup x with
      | some .local => true
      | some .cell => S.cells x
      | _ => false)
    | _ => false)
  | .tup gs, e => (match e with
    | .Tuple es _ _ => es.all notStar && chkGs S gs es
    | _ => false)
  | .sub o i, e => (match e with
    | .Subscript l r _ => notSlc r && chkE S o l && chkE S i r
    | _ => false)
  | _, _ => false
def chkGs (S : Sc) : Tgs → List Expr → Bool
  | .nil, es => (match es with
    | [] => true
    | _ => false)
  | .cons g r, es => (match es with
    | e :: es => chkG S g e && chkGs S r es
    | [] => false)
def chkI (S : Sc) : It → Expr → Expr → Bool
  | .of a, tg, e => chkE S a e
  | .rng a, tg, e => (match e with
    | .Call (.Name x _) [l] [] _ => decide (x = "range") && bltB D S x && notStar l && chkE S a l
    | _ => false)
  | .rng2 a b, tg, e => (match e with
    | .Call (.Name x _) [l, r] [] _ => decide (x = "range") && bltB D S x && notStar l && notStar r && chkE S a l && chkE S b r
    | _ => false)
  | .enu a, tg, e => (match e with
    | .Call (.Name x _) [l] [] _ => isTup tg && decide (x = "enumerate") && bltB D S x && notStar l && chkE S a l
    | _ => false)
  | .zip a b, tg, e => (match e with
    | .Call (.Name x _) [l, r] [] _ => isTup tg && decide (x = "zip") && bltB D S x && notStar l && notStar r && chkE S a l && chkE S b r
    | _ => false)
  | _, _, _ => false
end
end Mp
namespace Mp
open PySem PySem.Spec PyProof.Rows L2
def tyOfN (n : String) : Option Ty := if n = "int" then some .int else if n = "bool" then some .bool else if n = "str" then some .str else if n = "tuple" then some .tup else if n = "list" then some .lst else if n = "dict" then some .dct else none
structure DefF (X : Cx) (R : Rc) (n : Nat) (kt : List (Str × (List Str × List Nat))) (x : Str) (dfl : List PV) (m : List PV → M PV) : Prop where
  ex : ∃ (f : Addr) (fd : FuncData) (ps : List Str) (dvs : List V) (dds : List Value), X.mg x = some (.ref f) ∧ PySem.W.keepIn X.K (.ref f) = true ∧ FnM X.prog X.w X.K X.mg X.base R n f fd ps m ∧ (∀ ds st, m ds st ≠ .bad → ds.length = ps.length) ∧
    Vals dvs dds ∧ (∀ hid φ H, RepL (R.h hid) φ H dfl dvs) ∧ (∀ j, Binds X.K fd ps (dds.drop j)) ∧ ∀ q ∈ kt, q.1 = x → KwB X.K fd ps 0 q.2.1 q.2.2
structure Facts (D : Dt) (P : Prog) (C : Call) (R : Rc) (n : Nat) (X : Cx) : Prop where
  hK : R.K = X.K
  cts : R.cts = P.cts
  fld : R.fld = D.fld
  clsI : D.clsI = P.cls
  tabs : R.tabs = D.tabs
  lam : ∀ k L, D.lm k L = true → R.lam k L
  caps : ∀ k js, D.caps.lookup k = some js → ∃ l, P.lams.lookup k = some l ∧ l.caps = js
  defn : ∀ x k, D.defn.lookup x = some k → DefF X R (n + 1) D.kwt x ((D.dfl.lookup k).getD []) (C.def_ k)
  fri : ∀ x k, D.defn.lookup x = some k → D.fri.contains k = true → ∃ (f : Addr) (fd : FuncData) (ps : List Str), X.mg x = some (.ref f) ∧ PySem.W.keepIn X.K (.ref f) = true ∧ FnF X.prog X.w X.K X.mg X.base R (n + 1) f fd ps (C.def_ k) ∧ (∀ ds st, C.def_ k ds st ≠ .bad → ds.length = ps.length) ∧ Binds X.K fd ps []
  glob : ∀ x g, D.glob.lookup x = some g → ∃ d v u, P.globs.lookup g = some d ∧ X.mg x = some u ∧ RelV v u ∧ ∀ hid φ H, RepV (R.h hid) φ H d v
  blt : ∀ x, D.blt.contains x = true → X.mg x = none
  mkc : ∀ x c, D.cls.lookup x = some c → X.mg x = some (.ref (R.cad c)) ∧ ∃ f fd ps m, Mk X.K (R.cad c) f ∧ FnM X.prog X.w X.K X.mg X.base R n f fd ps m ∧ (∀ ds st, m ds st ≠ .bad → ds.length = ps.length) ∧ Binds X.K fd ps [] ∧ C.make c = mkM m c ∧ ∀ q ∈ D.kwc, q.1 = x → KwB X.K fd ps 1 q.2.1 (0 :: q.2.2.map (· + 1))
  clo : CloM X.prog X.w X.K X.mg X.base R (n + 1) C.clo
  cls : ClsOk R P.flds
  prop : ∀ c g j, P.props.lookup (c, g) = some j → PropM X.prog X.w X.K X.mg X.base R n c g (C.low j)
  isa : ∀ n ∈ ["int", "bool", "str", "tuple", "list", "dict"], ∀ t, tyOfN n = some t → IsaF R P.cls t (.type n)
  isaO : ∀ x c, D.cls.lookup x = some c → IsaF R P.cls (.own c) (.ref (R.cad c))
  eqf : ∀ c k, P.eqs.lookup c = some k → EqM X.prog X.w X.K X.mg X.base R n c (C.low k)
  xcl : XclOk R
  exm : ∀ x c f, D.exm.lookup x = some (c, f) → ExmF X.prog X.K X.mg R x c f
  exm0 : ∀ x c, D.exm0.lookup x = some c → ExmF0 X.K X.mg R x c
  xtyB : ∀ x cs, D.xty.lookup x = some (true, cs) → ∃ n : String, bootBuiltins x = some (.type n) ∧ IsaF R P.cls (.xc cs) (.type n)
  xtyO : ∀ x cs, D.xty.lookup x = some (false, cs) → ∃ a : Addr, X.mg x = some (.ref a) ∧ IsaF R P.cls (.xc cs) (.ref a)
theorem FnM.h {P : Program} {w : World} {K : PySem.W.Frag} {mg : Str → Option Value} {base : Heap} {R : Rc} {hid : List Addr} {k : Nat} {f : Addr} {fd : FuncData} {ps : List Str} {m : List PV → M PV} (F : FnM P w K mg base R k f fd ps m) : FnM P w K mg base (R.h hid) k f fd ps m := ⟨F.run⟩
theorem ClsOk.h {R : Rc} {hid : List Addr} {fl : List (Nat × List Nat)} (c : ClsOk R fl) : ClsOk (R.h hid) fl := ⟨c.cls, c.inj⟩
theorem IsaF.h {R : Rc} {hid : List Addr} {cl : List (Nat × Nat)} {t : Ty} {u : Value} (c : IsaF R cl t u) : IsaF (R.h hid) cl t u := ⟨c.ty, c.ins, c.exn⟩
theorem XclOk.h {R : Rc} {hid : List Addr} (c : XclOk R) : XclOk (R.h hid) := c
theorem ExmF.h {prog : Program} {K : PySem.W.Frag} {mg : Str → Option Value} {R : Rc} {hid : List Addr} {x : Str} {c f : Nat} (F : ExmF prog K mg R x c f) : ExmF prog K mg (R.h hid) x c f := ⟨F.mem, F.gm, F.kC, F.su, F.top, F.ex⟩
theorem ExmF0.h {K : PySem.W.Frag} {mg : Str → Option Value} {R : Rc} {hid : List Addr} {x : Str} {c : Nat} (F : ExmF0 K mg R x c) : ExmF0 K mg (R.h hid) x c := ⟨F.mem, F.gm, F.kC, F.ex⟩
section
variable {D : Dt} {P : Prog} {C : Call} {R : Rc} {n : Nat} {X : Cx}
theorem DefF.h {hid : List Addr} {kt : List (Str × (List Str × List Nat))} {x : Str} {dfl : List PV} {m : List PV → M PV} (F : DefF X R n kt x dfl m) : DefF X (R.h hid) n kt x dfl m := by
  obtain ⟨f, fd, ps, dvs, dds, h1, h2, h3, h4, h5, h6, h7⟩ := F.ex
  exact ⟨f, fd, ps, dvs, dds, h1, h2, h3.h, h4, h5, h6, h7⟩
theorem PropM.h {hid : List Addr} {k c f : Nat} {m : List PV → M PV} (F : PropM X.prog X.w X.K X.mg X.base R k c f m) : PropM X.prog X.w X.K X.mg X.base (R.h hid) k c f m := by
  obtain ⟨p, g, fd, ps, h1, h2, h3, h4, h5⟩ := F.ex
  exact ⟨p, g, fd, ps, h1, h2, h3.h, h4, h5⟩
theorem Facts.h {hid : List Addr} (F : Facts D P C R n X) : Facts D P C (R.h hid) n X where
  hK := F.hK
  cts := F.cts
  fld := F.fld
  clsI := F.clsI
  tabs := F.tabs
  lam := F.lam
  caps := F.caps
  defn := fun x k h => (F.defn x k h).h
  fri := fun x k h h' => by
    obtain ⟨f, fd, ps, h1, h2, h3, h4, h5⟩ := F.fri x k h h'
    exact ⟨f, fd, ps, h1, h2, h3.h, h4, h5⟩
  glob := F.glob
  blt := F.blt
  mkc := fun x c h => by
    obtain ⟨h1, f, fd, ps, m, h2, h3, h4, h5, h6⟩ := F.mkc x c h
    exact ⟨h1, f, fd, ps, m, h2, h3.h, h4, h5, h6⟩
  clo := fun hid' => F.clo hid'
  cls := F.cls.h
  prop := fun c g j h => (F.prop c g j h).h
  isa := fun n hn t ht => (F.isa n hn t ht).h
  isaO := fun x c h => (F.isaO x c h).h
  eqf := fun c k h => (F.eqf c k h).h
  xcl := F.xcl.h
  exm := fun x c f h => (F.exm x c f h).h
  exm0 := fun x c h => (F.exm0 x c h).h
  xtyB := fun x cs h => by
    obtain ⟨n, h1, h2⟩ := F.xtyB x cs h
    exact ⟨n, h1, h2.h⟩
  xtyO := fun x cs h => by
    obtain ⟨a, h1, h2⟩ := F.xtyO x cs h
    exact ⟨a, h1, h2.h⟩
theorem Facts.blk {s : Shared} {H : Hp} {scope : Scope} {ce : PySem.Env} {fp : List Addr} (F : Facts D P C R n X) : Facts D P C R n (X.blk s H scope ce fp) where
  hK := F.hK
  cts := F.cts
  fld := F.fld
  clsI := F.clsI
  tabs := F.tabs
  lam := F.lam
  caps := F.caps
  defn := fun x k h => ⟨(F.defn x k h).ex⟩
  fri := F.fri
  glob := F.glob
  blt := F.blt
  mkc := F.mkc
  clo := F.clo
  cls := F.cls
  prop := F.prop
  isa := F.isa
  isaO := F.isaO
  eqf := F.eqf
  xcl := F.xcl
  exm := F.exm
  exm0 := F.exm0
  xtyB := F.xtyB
  xtyO := F.xtyO
end
def noLam (D : Dt) : Dt := { D with lm := fun _ _ => false }
theorem Facts.noLam {D : Dt} {P : Prog} {C : Call} {R : Rc} {n : Nat} {X : Cx} (F : Facts D P C R n X) : Facts (Mp.noLam D) P C R n X :=
  { F with lam := fun k L h => (by cases h) }
structure Ctx (D : Dt) (S : Sc) (n : Nat) (X : Cx) (W : WX) : Prop where
  N : X.N = S.N
  sc : X.env.scope = S.sc
  nd : X.N.Nodup
  calm : X.calm = true
  room : Room (n + 1) X.A
  ex : S.blk = false → X.ex = []
  fnc : ∀ x, S.cells x = true → X.fn x = true
  tk : Takes X W
  qual : X.env.qual = S.qual
  tab : S.lamb = true → ∃ c P, LamX.TabB X.base X.mg c P ∧ X.env.code = .ref c ∧ (P, X.env.qual ++ "<lambda>") ∈ D.tabs ∧ ∀ p ∈ D.tabs, p.1 = P → p.2 = X.env.qual ++ "<lambda>"
  cf : S.lamb = true → ∀ (pins : List (Addr × Obj)) (σ : L2.St) (H : Hp) (s : Shared), Inv X pins σ H s → ∀ y c, X.env.cells.lookup y = some c → c ∉ X.fs
  po : PassesOwn (model X.prog X.w) X.A X.env X.xe
theorem Ctx.inBlk {D : Dt} {S : Sc} {n : Nat} {X : Cx} {W : WX} (c : Ctx D S n X W) {scope : Scope} {own : List Nat} {s : Shared} {H : Hp} {C : Addr} {cl : List (Str × Addr)} {fp : List Addr} : Ctx D (S.inner scope own) n (X.blk s H scope (compEnvC scope cl C X.env) fp) W0 where
  N := c.N
  sc := by
    show relabel scope X.env = relS scope S.sc
    rw [← c.sc]
    rfl
  nd := c.nd
  calm := c.calm
  room := c.room
  ex := fun h => by cases h
  fnc := fun x h => h
  tk := fun u s' h => by
    obtain ⟨_, _, _, _, _, _, _, _, _, _, _, _, _, _, _, _, z⟩ := h
    exact z.elim
  qual := c.qual
  tab := fun h => by cases h
  cf := fun h => by cases h
  po := PassesOwn.never
theorem RepX.g0 {R : Rc} {G : Gm} {φ : List Addr} {H : Hp} {d : PV} {v : V} (h : RepX R g0 φ H d v) : RepX R G φ H d v := by
  cases d with
  | clo k cs =>
    obtain ⟨f, vs, _, ⟨L, cl, c, pm, ctv, _, h2, _⟩, _⟩ := h
    exact absurd h2 (by simp [Mp.g0, Heap.get?])
  | _ => exact h
theorem RepE.g0 {R : Rc} {G : Gm} {φ : List Addr} {H : Hp} {ρ : Env} {σ : L2.St} (h : RepE R g0 φ H ρ σ) : RepE R G φ H ρ σ := ⟨h.len, fun i d e => by
  obtain ⟨v, a, b⟩ := h.at_ i d e
  exact ⟨v, a, b.g0⟩⟩
theorem PE.g0 {X : Cx} {R : Rc} {G : Gm} {W : WX} {e : Expr} {m : Env → M PV} (h : PE X e (tM R G W m)) : PE X e (tM R g0 W m) := h.imp fun σ H Q ⟨φ, st, ρ, S, E, T, p⟩ => ⟨φ, st, ρ, S, E.g0, T, p⟩
theorem PTs.g0 {X : Cx} {R : Rc} {G : Gm} {W : WX} {e : List Expr} {m : Env → M Bool} (h : PTs X e (tMT R G W m)) : PTs X e (tMT R g0 W m) := h.imp fun σ H Q ⟨φ, st, ρ, S, E, T, p⟩ => ⟨φ, st, ρ, S, E.g0, T, p⟩
end Mp
namespace Mp
open PySem PySem.Spec PyProof.Rows L2
section
variable {D : Dt} {P : Prog} {C : Call} {R : Rc} {n : Nat} {X : Cx} {S : Sc} {W : WX}
theorem Ctx.vis (c : Ctx D S n X W) {x : Str} (h : visB S x = true) : Vis X.env.scope x := by
  unfold visB at h
  unfold Vis
  rw [c.sc]
  split at h
  · rename_i q; exact .inl q
  · rename_i q; exact .inr (.inl q)
  · rename_i q; exact .inr (.inr q)
  · cases h
theorem Ctx.gl (c : Ctx D S n X W) {x : Str} (h : glB S x = true) : Gl X x := by
  unfold glB at h
  show X.env.scope.names.lookup x = some .globalImplicit
  rw [c.sc]
  split at h
  · rename_i q; exact q
  · cases h
theorem Ctx.slot (c : Ctx D S n X W) {x : Str} {i : Nat} (h : slot S i x = true) : X.N[i]? = some x := by
  rw [c.N]
  exact of_decide_eq_true h
theorem okN_1 {x : Str} (h : okN x = true) : (x == ("__debug__" : Str)) = false := by
  unfold okN at h
  simp only [Bool.and_eq_true, beq_iff_eq] at h
  exact h.1.1
theorem okN_2 {x : Str} (h : okN x = true) : (x == ("__classdict__" : Str)) = false := by
  unfold okN at h
  simp only [Bool.and_eq_true, beq_iff_eq] at h
  exact h.1.2
theorem okN_3 {x : Str} (h : okN x = true) : x ≠ "__name__" := by
  unfold okN at h
  simp only [Bool.and_eq_true, decide_eq_true_eq] at h
  exact h.2
theorem Facts.bltn (F : Facts D P C R n X) (c : Ctx D S n X W) {x : Str} (h : bltB D S x = true) : Gl X x ∧ X.mg x = none ∧ okN x = true := by
  unfold bltB at h
  simp only [Bool.and_eq_true] at h
  exact ⟨c.gl h.1.2, F.blt x h.1.1, h.2⟩
theorem star_cons {a : Expr} {es : List Expr} {env : PySem.Env} (h : notStar a = true) : starEach (a :: es) env = (false, eval a env) :: starEach es env := by
  cases a <;> first | rfl | cases h
theorem star_any {pos : Pos} {env : PySem.Env} : ∀ {es : List Expr}, es.all notStar = true → (backTo pos (starEach es env)).any (·.1) = false
  | [], _ => rfl
  | a :: es, h => by
    rw [List.all_cons, Bool.and_eq_true] at h
    rw [star_cons h.1]
    show (false || (backTo pos (starEach es env)).any (·.1)) = false
    rw [star_any h.2]
    rfl
theorem notSet_ok {op : CmpOp} {e : Expr} (h : notSet e = true) : behindInMarks op e = false := by
  cases e <;> first | rfl | cases h
theorem notSet_fold {e : Expr} {env : PySem.Env} (h : notSet e = true) : ∀ x, foldedSetIterable e env x = pure x := by
  intro x
  cases e <;> first | rfl | cases h
theorem notSlc_ok {e : Expr} (h : notSlc e = true) : PlainIx e := by
  intro o i
  cases e <;> first | rfl | cases h
theorem plainT_ok {e : Expr} {env : PySem.Env} (h : plainT e = true) : ∀ whole, isTrue e env whole = (do let v ← whole; standAt e.pos; holding [v] (truthy v)) := by
  intro whole
  cases e with
  | UnaryOp op x p => cases op <;> first | rfl | cases h
  | _ => first | rfl | cases h
theorem notCall0_ok {e : Expr} {f : Str} {env : PySem.Env} (h : notCall0 e = true) : attributeBase e f env (eval e env) = eval e env := by
  cases e with
  | Call g as ks p =>
    cases g with
    | Name y q =>
      cases as with
      | nil =>
        cases ks with
        | nil => cases h
        | cons k ks => rfl
      | cons a as => rfl
    | _ => rfl
  | _ => rfl
theorem cst_ok {k : Const} {d : PV} {j : Nat} {pos : Pos} {G : Gm} (h : cstB k d = true) : PE X (.Constant k j pos) (tM R G W fun _ => M.ret d) := by
  cases k <;> cases d <;> first
    | (cases h; done)
    | skip
  · exact s_cst pe_non fun _ _ => rfl
  · have e := eq_of_beq (show (_ == _) = true from h)
    subst e
    exact s_cst pe_bl fun _ _ => rfl
  · have e := eq_of_beq (show (_ == _) = true from h)
    subst e
    exact s_cst pe_int fun _ _ => rfl
  · unfold cstB at h
    rw [Bool.and_eq_true] at h
    have e := eq_of_beq h.1
    subst e
    exact s_cst pe_str fun _ _ => ⟨rfl, h.2⟩
theorem op_ok {o : Bop} {op : Operator} (F : Facts D P C R n X) (m : Bool) (h : opB o op = true) : OpR X (binaryOp op) (rM R (binV o m)) := by
  cases o <;> cases op <;> first
    | (cases h; done)
    | exact add_ok F.hK m
    | exact sub_ok m
    | exact mul_ok m
    | exact fdiv_ok m
    | exact mod_ok m
    | exact pow_ok m
theorem cop_ok {o : Cop} {op : CmpOp} (F : Facts D P C R n X) (c : Ctx D S n X W) (h : copB o op = true) : OpR X (compareOp op) (rMB R (cmpV P.cts o)) := by
  have hu := c.room.units
  cases o <;> cases op <;> first
    | (cases h; done)
    | exact eq_ok F.hK hu
    | exact ne_ok F.hK hu
    | exact lt_ok F.hK hu
    | exact le_ok
    | exact gt_ok
    | exact ge_ok
    | exact is_ok
    | exact isnot_ok
    | (have q := in_ok (R := R) F.hK hu
       rw [F.cts] at q
       exact q)
    | (have q := notin_ok (R := R) F.hK hu
       rw [F.cts] at q
       exact q)
theorem bf_ok {f : Bf} {m : Bool} {x : Str} {pos p : Pos} {e : Expr} {es : List Expr} {ms : Env → M (List PV)} {G : Gm} (F : Facts D P C R n X) (c : Ctx D S n X W) (h : bfN f = some x) (hb : bltB D S x = true) (hs : (e :: es).all notStar = true) (ha : PA X (e :: es) (tMA' R G W ms)) :
    PE X (.Call (.Name x p) (e :: es) [] pos) (tM R G W fun ρ => M.bnd (ms ρ) (bfV f m)) := by
  obtain ⟨hg, hm, hn⟩ := F.bltn c hb
  rw [List.all_cons, Bool.and_eq_true] at hs
  have he := star_cons (es := es) (env := X.env) hs.1
  have hpl := star_any (pos := pos) (env := X.env) hs.2
  have n1 := okN_3 hn
  have n2 := okN_1 hn
  have cl := c.calm
  have hu := c.room.units
  cases f <;> (try cases h)
  · exact s_bf (f_len F.hK) (fun _ => NoX.bfV) hg hm (by decide +kernel) ha n1 n2 he hpl
  · exact s_bf f_abs (fun _ => NoX.bfV) hg hm (by decide +kernel) ha n1 n2 he hpl
  · exact s_bfT f_int (fun _ => NoX.bfV) hg hm (by decide +kernel) ha n1 n2 he hpl
  · exact s_bf f_divmod (fun _ => NoX.bfV) hg hm (by decide +kernel) ha n1 n2 he hpl
  · exact s_bf (f_min2 cl) (fun _ => NoX.bfV) hg hm (by decide +kernel) ha n1 n2 he hpl
  · exact s_bf (f_max2 cl) (fun _ => NoX.bfV) hg hm (by decide +kernel) ha n1 n2 he hpl
  · exact s_bf (f_sum F.hK cl) (fun _ => NoX.bfV) hg hm (by decide +kernel) ha n1 n2 he hpl
  · exact s_bf (f_all F.hK cl) (fun _ => NoX.bfV) hg hm (by decide +kernel) ha n1 n2 he hpl
  · exact s_bf (f_any F.hK cl) (fun _ => NoX.bfV) hg hm (by decide +kernel) ha n1 n2 he hpl
  · exact s_bf (f_minL F.hK cl) (fun _ => NoX.bfV) hg hm (by decide +kernel) ha n1 n2 he hpl
  · exact s_bf (f_maxL F.hK cl) (fun _ => NoX.bfV) hg hm (by decide +kernel) ha n1 n2 he hpl
  · exact s_bf (f_sorted F.hK hu) (fun _ => NoX.bfV) hg hm (by decide +kernel) ha n1 n2 he hpl
  · exact s_bfT (f_list F.hK cl) (fun _ => NoX.bfV) hg hm (by decide +kernel) ha n1 n2 he hpl
  · exact s_bfT (f_tuple F.hK) (fun _ => NoX.bfV) hg hm (by decide +kernel) ha n1 n2 he hpl
theorem vals_drop : ∀ {vs : List V} {us : List Value} (j : Nat), Vals vs us → Vals (vs.drop j) (us.drop j)
  | _, _, 0, h => h
  | _, _, j + 1, .nil => .nil
  | _, _, j + 1, .cons _ h => vals_drop j h
theorem assign_len {env : PySem.Env} : ∀ {es : List Expr}, (assignEach es env).length = es.length
  | [] => rfl
  | e :: es => by
    have h := assign_len (env := env) (es := es)
    cases e <;> (show (assignEach es env).length + 1 = es.length + 1; rw [h])
theorem assign_none {env : PySem.Env} : ∀ {es : List Expr}, es.all notStar = true → (assignEach es env).findIdx? (·.1) = none
  | [], _ => rfl
  | e :: es, h => by
    rw [List.all_cons, Bool.and_eq_true] at h
    have q := assign_none (env := env) h.2
    have e1 : assignEach (e :: es) env = (false, assign e env) :: assignEach es env := by
      cases e <;> first | rfl | cases h.1
    rw [e1, List.findIdx?_cons]
    simp only [Bool.false_eq_true, if_false, q]
    rfl
theorem assign_cons {env : PySem.Env} {e : Expr} {es : List Expr} (h : notStar e = true) : (assignEach (e :: es) env).map (·.2) = assign e env :: (assignEach es env).map (·.2) := by
  cases e <;> first | rfl | cases h
theorem sub_assign {o i : Expr} {pos : Pos} {env : PySem.Env} (h : notSlc i = true) : ∀ v, assign (.Subscript o i pos) env v = (do
      let ov ← holding [v] (eval o env)
      let iv ← holding [v, ov] (eval i env)
      standAt pos
      holding [v, ov, iv] (setItem ov iv v)
      release [v, ov, iv] []) := by
  intro v
  cases i <;> first | rfl | cases h
theorem ty_ok {t : Ty} {c : Expr} (F : Facts D P C R n X) (k : Ctx D S n X W) (h : tyE D S t c = true) : ∃ cv u, IsaF R P.cls t u ∧ ClsV cv u ∧ PE X c (tC cv) := by
  have blt : ∀ (T : String) (x : Str) (p : Pos), c = .Name x p → x = Str.ofString T → T ∈ ["int", "bool", "str", "tuple", "list", "dict"] → tyOfN T = some t → bootBuiltins (Str.ofString T) = some (.type T) → bltB D S x = true → ∃ cv u, IsaF R P.cls t u ∧ ClsV cv u ∧ PE X c (tC cv) := fun T x p ec ex hT ht hb hk => by
    subst ec
    subst ex
    obtain ⟨hg, hm, hn⟩ := F.bltn k hk
    exact ⟨.ty T, .type T, F.isa T hT t ht, .ty T, pe_bltn hg hm hb rfl (okN_3 hn) (okN_1 hn)⟩
  cases c with
  | Name x p =>
    cases t with
    | int => unfold tyE at h; rw [Bool.and_eq_true] at h; exact blt "int" x p rfl (of_decide_eq_true h.1) (by simp) (by rfl) (by decide +kernel) h.2
    | bool => unfold tyE at h; rw [Bool.and_eq_true] at h; exact blt "bool" x p rfl (of_decide_eq_true h.1) (by simp) (by rfl) (by decide +kernel) h.2
    | str => unfold tyE at h; rw [Bool.and_eq_true] at h; exact blt "str" x p rfl (of_decide_eq_true h.1) (by simp) (by rfl) (by decide +kernel) h.2
    | tup => unfold tyE at h; rw [Bool.and_eq_true] at h; exact blt "tuple" x p rfl (of_decide_eq_true h.1) (by simp) (by rfl) (by decide +kernel) h.2
    | lst => unfold tyE at h; rw [Bool.and_eq_true] at h; exact blt "list" x p rfl (of_decide_eq_true h.1) (by simp) (by rfl) (by decide +kernel) h.2
    | dct => unfold tyE at h; rw [Bool.and_eq_true] at h; exact blt "dict" x p rfl (of_decide_eq_true h.1) (by simp) (by rfl) (by decide +kernel) h.2
    | own c =>
      unfold tyE at h
      simp only [Bool.and_eq_true, decide_eq_true_eq] at h
      obtain ⟨h1, _⟩ := F.mkc x c h.1.1
      exact ⟨.ref (R.cad c), .ref (R.cad c), F.isaO x c h.1.1, .own _, pe_glob (k.gl h.1.2) h1 rfl (okN_1 h.2)⟩
    | xc cs =>
      unfold tyE at h
      simp only [Bool.or_eq_true, Bool.and_eq_true, decide_eq_true_eq] at h
      rcases h with ⟨h1, h2⟩ | h
      · obtain ⟨hg, hm, hn⟩ := F.bltn k h2
        obtain ⟨n, b1, b2⟩ := F.xtyB x cs h1
        exact ⟨.ty n, .type n, b2, .ty n, pe_bltn hg hm b1 rfl (okN_3 hn) (okN_1 hn)⟩
      · obtain ⟨a, b1, b2⟩ := F.xtyO x cs h.1.1
        exact ⟨.ref a, .ref a, b2, .own _, pe_glob (k.gl h.1.2) b1 rfl (okN_1 h.2)⟩
  | _ => cases t <;> cases h
theorem DefF.call {x : Str} {p pos : Pos} {e : Expr} {es : List Expr} {ma : Mp.Env → M (List PV)} {m : List PV → M PV} {dfl dv : List PV} (c : Ctx D S n X W) (F : DefF X R (n + 1) D.kwt x dfl m) (hg : glB S x = true) (hx : okN x = true) (hs : (e :: es).all notStar = true) (hd : dv = dfl.drop (dfl.length - dv.length)) (ha : PX X R W (e :: es) ma) :
    PE X (.Call (.Name x p) (e :: es) [] pos) (tM R (gOf X) W fun ρ => M.bnd (ma ρ) fun xs => m (xs ++ dv)) := by
  obtain ⟨f, fd, ps, dvs, dds, h1, h2, h3, h4, h5, h6, h7, h8⟩ := F.ex
  generalize dfl.length - dv.length = j at hd
  subst hd
  rw [List.all_cons, Bool.and_eq_true] at hs
  exact s_call h3 h4 c.room (c.gl hg) h1 h2 (h7 j) (vals_drop j h5) (fun φ H => (h6 R.hid φ H).drop j) c.tk ha (okN_1 hx) (star_cons hs.1) (star_any hs.2)
theorem DefF.call0 {x : Str} {p pos : Pos} {m : List PV → M PV} {dfl dv : List PV} (c : Ctx D S n X W) (F : DefF X R (n + 1) D.kwt x dfl m) (hg : glB S x = true) (hx : okN x = true) (hd : dv = dfl.drop (dfl.length - dv.length)) :
    PE X (.Call (.Name x p) [] [] pos) (tM R (gOf X) W fun ρ => M.bnd (M.ret []) fun xs => m (xs ++ dv)) := by
  obtain ⟨f, fd, ps, dvs, dds, h1, h2, h3, h4, h5, h6, h7, h8⟩ := F.ex
  generalize dfl.length - dv.length = j at hd
  subst hd
  exact s_call0 h3 h4 c.room (c.gl hg) h1 h2 (h7 j) (vals_drop j h5) (fun φ H => (h6 R.hid φ H).drop j) c.tk (okN_1 hx)
theorem kw_all {pos : Pos} {env : PySem.Env} : ∀ {kws : List Keyword}, kws.all (·.arg.isSome) = true → (backToKw pos (keywordEach kws env)).all (·.1.isSome) = true ∧ (backToKw pos (keywordEach kws env)).any (·.1.isNone) = false ∧ (backToKw pos (keywordEach kws env)).filterMap (·.1) = kws.filterMap (·.arg)
  | [], _ => ⟨rfl, rfl, rfl⟩
  | ⟨some a, v, q⟩ :: r, h => by
    rw [List.all_cons, Bool.and_eq_true] at h
    obtain ⟨h1, h2, h3⟩ := kw_all (pos := pos) (env := env) h.2
    refine ⟨?_, ?_, ?_⟩
    · show (true && (backToKw pos (keywordEach r env)).all (·.1.isSome)) = true
      rw [h1]
      rfl
    · show (false || (backToKw pos (keywordEach r env)).any (·.1.isNone)) = false
      rw [h2]
      rfl
    · show a :: (backToKw pos (keywordEach r env)).filterMap (·.1) = a :: r.filterMap (·.arg)
      rw [h3]
  | ⟨none, v, q⟩ :: r, h => by
    rw [List.all_cons, Bool.and_eq_true] at h
    cases h.1
theorem kw_len : ∀ {kws : List Keyword}, kws.all (·.arg.isSome) = true → (kws.filterMap (·.arg)).length = (kws.map (·.value)).length
  | [], _ => rfl
  | ⟨some a, v, q⟩ :: r, h => by
    rw [List.all_cons, Bool.and_eq_true] at h
    show (r.filterMap (·.arg)).length + 1 = (r.map (·.value)).length + 1
    rw [kw_len h.2]
  | ⟨none, v, q⟩ :: r, h => by
    rw [List.all_cons, Bool.and_eq_true] at h
    cases h.1
theorem evs_len {ρ : Mp.Env} : ∀ {es : Es} {st st' : Sto} {xs : List PV}, evs P C ρ es st = .ok xs st' → xs.length = esLen es
  | .nil, st, st', xs, h => by cases h; rfl
  | .cons a r, st, st', xs, h => by
    have h : M.bnd (ev P C ρ a) (fun x => M.bnd (evs P C ρ r) fun xs => M.ret (x :: xs)) st = .ok xs st' := h
    unfold M.bnd at h
    cases e : ev P C ρ a st with
    | ok x s1 =>
      rw [e] at h
      simp only at h
      cases e2 : evs P C ρ r s1 with
      | ok ys s2 =>
        rw [e2] at h
        cases h
        show ys.length + 1 = esLen r + 1
        rw [evs_len e2]
      | exc c v s2 => rw [e2] at h; cases h
      | bad => rw [e2] at h; cases h
    | exc c v s1 => rw [e] at h; cases h
    | bad => rw [e] at h; cases h
theorem chkEs_len {Z : Sc} : ∀ {es : Es} {xs : List Expr}, chkEs D Z es xs = true → esLen es = xs.length
  | .nil, xs, h => by
    unfold chkEs at h
    split at h
    · rfl
    · cases h
  | .cons a r, xs, h => by
    unfold chkEs at h
    split at h
    · simp only [Bool.and_eq_true] at h
      show esLen r + 1 = _ + 1
      rw [chkEs_len h.2]
    · cases h
theorem DefF.callK {x : Str} {p pos : Pos} {kws : List Keyword} {mk : Mp.Env → M (List PV)} {m : List PV → M PV} {dfl : List PV} {ord : List Nat} (c : Ctx D S n X W) (F : DefF X R (n + 1) D.kwt x dfl m) (hg : glB S x = true) (hx : okN x = true) (hk : (D.kwt.any fun t => decide (t = (x, (kws.filterMap (·.arg), ord)))) = true) (ha : kws.all (·.arg.isSome) = true)
    (hkw : PK X kws (tMA' R (gOf X) W mk)) (hl : ∀ ρ st xs st', mk ρ st = .ok xs st' → xs.length = (kws.map (·.value)).length) :
    PE X (.Call (.Name x p) [] kws pos) (tM R (gOf X) W fun ρ => M.bnd (M.ret []) fun xs => M.bnd (mk ρ) fun ys => M.bnd (M.opt (argsBy (xs ++ ys) ord)) m) := by
  obtain ⟨f, fd, ps, dvs, dds, h1, h2, h3, h4, h5, h6, h7, h8⟩ := F.ex
  obtain ⟨t, ht, e⟩ := List.any_eq_true.mp hk
  have e := of_decide_eq_true e
  subst e
  obtain ⟨a1, a2, a3⟩ := kw_all (pos := pos) (env := X.env) ha
  exact s_callK0 h3 c.room (c.gl hg) h1 h2 (h8 _ ht rfl) c.tk hkw (fun ρ st xs st' q => by rw [hl ρ st xs st' q, kw_len ha]) a1 a3 (okN_1 hx) (by rw [a2]; rfl)
theorem x_one {e : Expr} {G : Gm} {W : WX} {m : Mp.Env → M PV} {op : BoolOp} {pos : Pos} (h : PE X e (tM R G W m)) : PE X (.BoolOp op [e] pos) (tM R G W m) := pe_one h
end
end Mp
namespace Mp
open PySem PySem.Spec PyProof.Rows L2
def Conv (X : Cx) (R : Rc) (W : WX) (G : Gm) : Prop := ∀ (e : Expr) (m : Mp.Env → M PV), PE X e (tM R (gOf X) W m) → PE X e (tM R G W m)
theorem Conv.id {X : Cx} {R : Rc} {W : WX} : Conv X R W (gOf X) := fun _ _ h => h
theorem Conv.g0 {X : Cx} {R : Rc} {W : WX} : Conv X R W g0 := fun _ _ h => PE.g0 h
theorem s_dct0 {X : Cx} {R : Rc} {G : Gm} {W : WX} {pos : Pos} : PE X (.Dict [] [] pos) (tM R G W fun ρ => M.bnd (M.ret []) fun ks => M.bnd (M.ret []) fun vs => newD ks vs) :=
  pe_dnewK.imp fun σ H Q ⟨φ, st, ρ, S, E, T, h⟩ => fun p hp => h (φ ++ [p]) (upd H p (.dK [])) (.ref p) (step_sto hp) (S.snoc (m := .dct []) hp (.inl ⟨[], upd_same, Nat.zero_le _, rfl⟩)) (T.new hp) ⟨p, by
    rw [List.getElem?_append_right (by rw [S.len]; exact Nat.le_refl _), S.len]
    simp, rfl⟩
theorem bm_ok {D : Dt} {P : Prog} {C : Call} {R : Rc} {n : Nat} {X : Cx} {S : Sc} {W : WX} {G : Gm} {f : Bm} {m : Bool} {nm : Str} {ap cp : Pos} {o : Expr} {xs : List Expr} {mo : Mp.Env → M PV} {ms : Mp.Env → M (List PV)} (F : Facts D P C R n X) (c : Ctx D S n X W) (hf : bmNm f = some nm) (hb : notCall0 o = true) (hs : xs.all notStar = true) (hl : xs.length < 30) (hp : (ap.endLine == cp.line) = true)
    (ho : PE X o (tM R G W mo)) (ha : ∀ y ys, xs = y :: ys → PA X (y :: ys) (tMA' R G W ms)) (h0 : xs = [] → ms = fun _ => M.ret []) : PE X (.Call (.Attribute o nm ap) xs [] cp) (tM R G W fun ρ => M.bnd (mo ρ) fun x => M.bnd (bmT f x) fun _ => M.bnd (ms ρ) (bmV P.cts f m x)) := by
  have e1 : ∀ {es : List Expr}, es.all notStar = true → (backTo cp (starEach es X.env)).all (fun x => !x.1) = true := fun {es} => by
    induction es with
    | nil => intro _; rfl
    | cons a es ih =>
      intro h
      rw [List.all_cons, Bool.and_eq_true] at h
      rw [star_cons h.1]
      show (true && (backTo cp (starEach es X.env)).all (fun x => !x.1)) = true
      rw [ih h.2]
      rfl
  have few : ((backTo cp (starEach xs X.env)).all (fun x => !x.1) && (backToKw cp (keywordEach [] X.env)).all (fun x => x.1.isSome) && decide (xs.length + ([] : List Keyword).length + (if ([] : List Keyword).isEmpty then 0 else 1) < 30)) = true := by
    rw [e1 hs]
    have : decide (xs.length + ([] : List Keyword).length + (if ([] : List Keyword).isEmpty then 0 else 1) < 30) = true := decide_eq_true (by simpa using hl)
    rw [this]
    rfl
  rw [← F.cts]
  have base := notCall0_ok (f := nm) (env := X.env) hb
  cases xs with
  | nil =>
    rw [h0 rfl]
    cases f <;> (try cases hf)
    · exact s_bm0 F.hK PySem.F.plainAttrs_list PySem.F.slot_list_append PySem.F.type_list_append m_append ho base hp
    · exact s_bm0 F.hK PySem.F.plainAttrs_list PySem.F.slot_list_pop PySem.F.type_list_pop m_pop ho base hp
    · exact s_bm0 F.hK PySem.F.plainAttrs_list PySem.F.slot_list_extend PySem.F.type_list_extend m_extend ho base hp
    · exact s_bm0 F.hK PySem.F.plainAttrs_str PySem.F.slot_str_split PySem.F.type_str_split m_split ho base hp
  | cons y ys =>
    have a := ha y ys rfl
    rw [List.all_cons, Bool.and_eq_true] at hs
    have s1 := star_cons (es := ys) (env := X.env) hs.1
    have s2 := star_any (pos := cp) (env := X.env) hs.2
    cases f <;> (try cases hf)
    · exact s_bm F.hK PySem.F.plainAttrs_list PySem.F.slot_list_append PySem.F.type_list_append m_append ho a base few hp s1 s2
    · exact s_bm F.hK PySem.F.plainAttrs_list PySem.F.slot_list_pop PySem.F.type_list_pop m_pop ho a base few hp s1 s2
    · exact s_bm F.hK PySem.F.plainAttrs_list PySem.F.slot_list_extend PySem.F.type_list_extend m_extend ho a base few hp s1 s2
    · exact s_bm F.hK PySem.F.plainAttrs_str PySem.F.slot_str_split PySem.F.type_str_split m_split ho a base few hp s1 s2
theorem lam_ok {D : Dt} {P : Prog} {C : Call} {R : Rc} {n : Nat} {X : Cx} {S : Sc} {W : WX} {k : Nat} {r : As} {params : Arguments} {body : Expr} {scope : Scope} {lpos : Pos} {es : List Expr} (c : Ctx D S n X W) (F : Facts D P C R n X) (nb : S.blk = false) (hl : S.lamb = true) (h : lamB D S k params body scope = true) (hr : PX X R W es fun ρ => eva P C ρ r) :
    PX X R W (.Lambda params body scope lpos :: es) fun ρ => eva P C ρ (.lam k r) := by
  unfold lamB at h
  simp only [Bool.and_eq_true, decide_eq_true_eq] at h
  obtain ⟨⟨⟨⟨⟨h1, h2⟩, h3⟩, h4⟩, h5⟩, h6⟩ := h
  obtain ⟨js, hj⟩ := Option.isSome_iff_exists.mp h1
  obtain ⟨l, l1, l2⟩ := F.caps k js hj
  obtain ⟨cc, PP, t1, t2, t3, t4⟩ := c.tab hl
  rw [hj] at h2
  have e : (fun ρ => eva P C ρ (.lam k r)) = fun ρ => M.bnd (caps ρ js) fun cs => M.bnd (eva P C ρ r) fun xs => M.ret (.clo k cs :: xs) := by
    funext ρ
    show (match P.lams.lookup k with
      | some l => M.bnd (caps ρ l.caps) fun cs => M.bnd (eva P C ρ r) fun xs => M.ret (PV.clo k cs :: xs)
      | none => M.bad) = _
    rw [l1, ← l2]
  rw [e]
  refine x_lam (L := lamOf D S k params body scope) (js := js) ⟨t1, t2, by rw [F.tabs]; exact t3, by rw [F.tabs]; exact t4⟩ ⟨F.lam k _ h3, by show S.qual ++ "<lambda>" = _; rw [c.qual], ?_, ?_, ?_, c.ex nb, c.cf hl⟩ ?_ hr
  · rw [c.sc]
    exact NdefX.ndef_free h4
  · exact NdefX.ndef_fr h4
  · rw [c.N]
    exact h2
  · show defaultsOf params X.env = ([], [])
    obtain ⟨p1, p2, p3, p4, kd, p6, df⟩ := params
    have e1 : df = [] := by simpa using h5
    have e2 : kd = [] := by simpa using h6
    subst e1
    subst e2
    rfl
section
variable {D : Dt} {P : Prog} {C : Call} {n : Nat}
mutual
theorem okE : ∀ (x : E) {S : Sc} {X : Cx} {R : Rc} {W : WX} {e : Expr}, Ctx D S n X W → Facts D P C R n X → chkE D S x e = true → PE X e (tM R (gOf X) W fun ρ => ev P C ρ x)
  | .var i, S, X, R, W, e, c, F, h => by
    unfold chkE at h
    split at h
    · simp only [Bool.and_eq_true] at h
      exact s_var (c.slot h.1.1) (c.vis h.1.2) (okN_1 h.2) (okN_2 h.2)
    · cases h
  | .cst k, S, X, R, W, e, c, F, h => by
    unfold chkE at h
    split at h
    · exact cst_ok h
    · cases h
  | .glo g, S, X, R, W, e, c, F, h => by
    unfold chkE at h
    split at h
    · simp only [Bool.and_eq_true, decide_eq_true_eq] at h
      obtain ⟨d, v, u, h1, h2, h3, h4⟩ := F.glob _ _ h.1.1
      exact (s_cst (R := R) (G := gOf X) (W := W) (pe_glob (c.gl h.1.2) h2 h3 (okN_1 h.2)) (fun φ H => h4 R.hid φ H)).imp fun σ H Q ⟨φ, st, ρ, S1, E1, T1, p⟩ => ⟨φ, st, ρ, S1, E1, T1, by
        have p : Post R W σ φ H (RepV R) (M.opt (P.globs.lookup g) st) Q := p
        rw [h1] at p
        exact p⟩
    · cases h
  | .bin o m a b, S, X, R, W, e, c, F, h => by
    unfold chkE at h
    split at h
    · simp only [Bool.and_eq_true] at h
      exact s_bin (op_ok F m h.1.1) (fun _ _ => NoX.binV) (okE a c F h.1.2) (okE b c F h.2)
    · cases h
  | .neg a, S, X, R, W, e, c, F, h => by
    unfold chkE at h
    split at h
    · exact s_neg (okE a c F h)
    · cases h
  | .cmp o a b, S, X, R, W, e, c, F, h => by
    unfold chkE at h
    split at h
    · simp only [Bool.and_eq_true] at h
      exact s_cmp (cop_ok F c h.1.1.1) (fun _ _ => NoX.cmpV) (notSet_ok h.1.1.2) (okE a c F h.1.2) (okE b c F h.2)
    · cases h
  | .not a, S, X, R, W, e, c, F, h => by
    unfold chkE at h
    split at h
    · exact s_not (okE a c F h)
    · cases h
  | .and a b, S, X, R, W, e, c, F, h => by
    unfold chkE at h
    split at h
    · simp only [Bool.and_eq_true] at h
      exact s_and (okE a c F h.1) (x_one (okE b c F h.2))
    · simp only [Bool.and_eq_true] at h
      exact s_and (okE a c F h.1) (okE b c F h.2)
    · cases h
  | .or a b, S, X, R, W, e, c, F, h => by
    unfold chkE at h
    split at h
    · simp only [Bool.and_eq_true] at h
      exact s_or (okE a c F h.1) (x_one (okE b c F h.2))
    · simp only [Bool.and_eq_true] at h
      exact s_or (okE a c F h.1) (okE b c F h.2)
    · cases h
  | .chn o o' a b d, S, X, R, W, e, c, F, h => by
    unfold chkE at h
    split at h
    · simp only [Bool.and_eq_true] at h
      exact s_chn (cop_ok F c h.1.1.1.1.1) (fun _ _ => NoX.cmpV) (cop_ok F c h.1.1.1.1.2) (fun _ _ => NoX.cmpV) (notSet_ok h.1.1.1.2) (okE a c F h.1.1.2) (okE b c F h.1.2) (okE d c F h.2)
    · cases h
  | .ite t a b, S, X, R, W, e, c, F, h => by
    unfold chkE at h
    split at h
    · simp only [Bool.and_eq_true] at h
      exact s_ite (okT t c F h.1.1).1 (okE a c F h.1.2) (okE b c F h.2)
    · cases h
  | .tup es, S, X, R, W, e, c, F, h => by
    unfold chkE at h
    split at h
    · exact s_tup (okEs es c F h)
    · cases h
  | .lst m es, S, X, R, W, e, c, F, h => by
    unfold chkE at h
    split at h
    · exact s_lst (okEs es c F h)
    · cases h
  | .dct .nil .nil, S, X, R, W, e, c, F, h => by
    unfold chkE at h
    split at h
    · exact s_dct0
    · cases h
  | .dct (.cons _ _) _, S, X, R, W, e, c, F, h => by
    unfold chkE at h
    cases h
  | .dct .nil (.cons _ _), S, X, R, W, e, c, F, h => by
    unfold chkE at h
    cases h
  | .ix a i, S, X, R, W, e, c, F, h => by
    unfold chkE at h
    split at h
    · simp only [Bool.and_eq_true] at h
      exact s_ix F.hK (okE a c F h.1.2) (okE i c F h.2) (notSlc_ok h.1.1)
    · cases h
  | .dget a i, S, X, R, W, e, c, F, h => by
    unfold chkE at h
    split at h
    · simp only [Bool.and_eq_true] at h
      show PE X _ (tM R (gOf X) W fun ρ => M.bnd (ev P C ρ a) fun x => M.bnd (ev P C ρ i) fun y => dgetV P.cts x y)
      rw [← F.cts]
      exact s_dget (by have := c.room.units; omega) (okE a c F h.1.2) (okE i c F h.2) (notSlc_ok h.1.1)
    · cases h
  | .slc m a lo hi, S, X, R, W, e, c, F, h => by
    unfold chkE at h
    split at h
    · simp only [Bool.and_eq_true] at h
      exact s_slc F.hK (okE a c F h.1.1) (okO lo c F h.1.2) (okO hi c F h.2)
    · cases h
  | .atr a f, S, X, R, W, e, c, F, h => by
    unfold chkE at h
    split at h
    · rename_i l nm p
      simp only [Bool.and_eq_true, decide_eq_true_eq] at h
      have en : nm = R.fnm f := by
        unfold Rc.fnm
        rw [F.fld, h.1.1]
        rfl
      subst en
      exact s_atr F.hK F.xcl F.cls F.prop c.room (okE a c F h.2) (notCall0_ok h.1.2)
    · cases h
  | .call k es dv, S, X, R, W, e, c, F, h => by
    unfold chkE at h
    split at h
    · rename_i x p xs pos
      simp only [Bool.and_eq_true, decide_eq_true_eq] at h
      cases xs with
      | nil =>
        cases es with
        | nil => exact DefF.call0 c (F.defn _ _ h.1.1.1.1.1) h.1.1.1.1.2 h.1.1.1.2 h.1.2
        | cons a r => cases h.2
        | lam k r => cases h.2
        | fvar i r => cases h.2
      | cons y xs => exact DefF.call c (F.defn _ _ h.1.1.1.1.1) h.1.1.1.1.2 h.1.1.1.2 h.1.1.2 h.1.2 (okA es c F h.2 h.1.1.2)
    · cases h
  | .callV i es, S, X, R, W, e, c, F, h => by
    unfold chkE at h
    split at h
    · simp only [Bool.and_eq_true] at h
      have hs := h.1.2
      rw [List.all_cons, Bool.and_eq_true] at hs
      exact s_callV F.clo c.room c.tk (c.ex (by simpa using h.1.1.1.1.1)) (c.slot h.1.1.1.1.2) (c.vis h.1.1.1.2) (okN_1 h.1.1.2) (okN_2 h.1.1.2) (okEs es c F h.2) (star_cons hs.1) (star_any hs.2)
    · cases h
  | .mk k es, S, X, R, W, e, c, F, h => by
    unfold chkE at h
    split at h
    · simp only [Bool.and_eq_true, decide_eq_true_eq] at h
      have hs := h.1.2
      rw [List.all_cons, Bool.and_eq_true] at hs
      obtain ⟨h1, f, fd, ps, m, h2, h3, h4, h5, h6, h7⟩ := F.mkc _ _ h.1.1.1.1
      show PE X _ (tM R (gOf X) W fun ρ => M.bnd (evs P C ρ es) (C.make k))
      rw [h6]
      exact s_mk h2 h3 h4 c.room (c.gl h.1.1.1.2) h1 h5 c.tk (okEs es c F h.2) (okN_1 h.1.1.2) (star_cons hs.1) (star_any hs.2)
    · cases h
  | .eqO neg a b, S, X, R, W, e, c, F, h => by
    unfold chkE at h
    split at h
    · rename_i op r p
      simp only [Bool.and_eq_true] at h
      have ho : op = if neg then .NotEq else .Eq := by
        cases neg <;> cases op <;> first | rfl | (cases h.1.1.1; done)
      have hm : behindInMarks op r = false := notSet_ok h.1.1.2
      exact s_eqO F.hK ho F.eqf c.room c.tk (okE a c F h.1.2) (okE b c F h.2) hm
    · cases h
  | .callK k .nil kw ord, S, X, R, W, e, c, F, h => by
    unfold chkE at h
    split at h
    · simp only [Bool.and_eq_true, decide_eq_true_eq] at h
      exact DefF.callK (mk := fun ρ => evs P C ρ kw) c (F.defn _ _ h.1.1.1.1.1) h.1.1.1.1.2 h.1.1.1.2 h.1.1.2 h.1.2 (okKw kw c F h.2) fun ρ st xs st' q => by rw [evs_len q]; exact chkEs_len h.2
    · cases h
  | .mkK k .nil kw ord, S, X, R, W, e, c, F, h => by
    unfold chkE at h
    split at h
    · simp only [Bool.and_eq_true, decide_eq_true_eq] at h
      obtain ⟨h1, f, fd, ps, m, h2, h3, h4, h5, h6, h7⟩ := F.mkc _ _ h.1.1.1.1.1
      obtain ⟨t, ht, et⟩ := List.any_eq_true.mp h.1.1.2
      have et := of_decide_eq_true et
      subst et
      obtain ⟨a1, a2, a3⟩ := kw_all (env := X.env) h.1.2
      show PE X _ (tM R (gOf X) W fun ρ => M.bnd (M.ret []) fun xs => M.bnd (evs P C ρ kw) fun ys => M.bnd (M.opt (argsBy (xs ++ ys) ord)) (C.make k))
      rw [h6]
      exact s_mkK0 (mk := fun ρ => evs P C ρ kw) h2 h3 h4 c.room (c.gl h.1.1.1.1.2) h1 (h7 _ ht rfl) c.tk (okKw kw c F h.2) (fun ρ st xs st' q => by rw [evs_len q, chkEs_len h.2, kw_len h.1.2]) a1 a3 (okN_1 h.1.1.1.2) (by rw [a2]; rfl)
    · cases h
  | .callK k (.cons a r) kw ord, S, X, R, W, e, c, F, h => by unfold chkE at h; cases h
  | .mkK k (.cons a r) kw ord, S, X, R, W, e, c, F, h => by unfold chkE at h; cases h
  | .exm k f (.cons a .nil), S, X, R, W, e, c, F, h => by
    have ee : (fun ρ => ev P C ρ (.exm k f (.cons a .nil))) = fun ρ => M.bnd (ev P C ρ a) fun v => M.ret (PV.exn k f [v]) := by
      funext ρ
      show M.bnd (M.bnd (ev P C ρ a) fun x => M.bnd (M.ret []) fun xs => M.ret (x :: xs)) (fun vs => M.ret (PV.exn k f vs)) = _
      rw [bnd_ret]
      rfl
    rw [ee]
    unfold chkE at h
    split at h
    · simp only [Bool.and_eq_true, decide_eq_true_eq] at h
      exact s_exm F.hK (F.exm _ _ _ h.1.1.1.1) c.room (c.gl h.1.1.1.2) (okE a c F h.2) (star_cons h.1.2) (okN_1 h.1.1.2)
    · simp only [Bool.and_eq_true, decide_eq_true_eq] at h
      exact s_exmK F.hK (F.exm _ _ _ h.1.1.1.1) (by rw [F.fld]; exact h.1.1.1.2) c.room (c.gl h.1.1.2) (okE a c F h.2) (by rfl) (by rfl) (okN_1 h.1.2) (by rfl)
    · cases h
  | .exm k f .nil, S, X, R, W, e, c, F, h => by
    unfold chkE at h
    split at h
    · simp only [Bool.and_eq_true, decide_eq_true_eq] at h
      exact s_exm0 (F.exm0 _ _ h.1.1) (c.gl h.1.2) (okN_1 h.2)
    · cases h
  | .exm k f (.cons a (.cons b r)), S, X, R, W, e, c, F, h => by unfold chkE at h; cases h
  | .bf f m es, S, X, R, W, e, c, F, h => by
    unfold chkE at h
    split at h
    · simp only [Bool.and_eq_true, decide_eq_true_eq] at h
      exact bf_ok F c h.1.1.1 h.1.1.2 h.1.2 (okEs es c F h.2)
    · cases h
  | .isi a t, S, X, R, W, e, c, F, h => by
    unfold chkE at h
    split at h
    · simp only [Bool.and_eq_true, decide_eq_true_eq] at h
      obtain ⟨cv, u, f1, f2, f3⟩ := ty_ok F c h.1.2
      obtain ⟨hg, hm, hn⟩ := F.bltn c h.1.1.1.1.2
      have ex := h.1.1.1.1.1
      subst ex
      exact s_isi F.hK F.xcl hg hm f1 f2 (okE a c F h.2) f3 (star_cons h.1.1.1.2) (star_cons h.1.1.2) (by rw [star_cons h.1.1.2]; rfl)
    · cases h
  | .bm f m o es, S, X, R, W, e, c, F, h => by
    unfold chkE at h
    split at h
    · simp only [Bool.and_eq_true, decide_eq_true_eq] at h
      exact bm_ok F c h.1.1.1.1.1.1 h.1.1.1.1.1.2 h.1.1.1.1.2 h.1.1.1.2 h.1.1.2 (okE o c F h.1.2) (fun y ys e => by
        subst e
        exact okEs es c F h.2) (fun e => by
        subst e
        cases es with
        | nil => rfl
        | cons a r => cases h.2)
    · cases h
  | .callI k es a, S, X, R, W, e, c, F, h => by
    unfold chkE at h
    split at h
    · rename_i x p0 y xs p1 nm ap r cp
      simp only [Bool.and_eq_true, decide_eq_true_eq] at h
      obtain ⟨⟨⟨⟨⟨⟨⟨⟨⟨e1, h1⟩, h2⟩, h3⟩, h4⟩, h5⟩, h6⟩, h7⟩, h8⟩, h9⟩ := h
      subst e1
      obtain ⟨f, fd, ps, g1, g2, g3, g4, g5⟩ := F.fri x k h1 h2
      rw [List.all_cons, Bool.and_eq_true] at h5
      have s1 := star_cons (es := xs) (env := X.env) h5.1
      have s2 := star_any (pos := p1) (env := X.env) h5.2
      have s3 := star_cons (es := []) (env := X.env) h6
      have q := s_idx F.hK (s_callF (R := R) (G := gOf X) (W := W) (pos := p1) (p := p0) g3 g4 c.room (c.gl h3) g1 g2 g5 c.tk (okEs es c F h8) (okN_1 h4) s1 s2) (okE a c F h9) (notCall0_ok (f := "index") (env := X.env) rfl) (cpos := cp) (by rw [s3]; rfl) h7 s3
      exact q.imp fun σ H Q ⟨φ, st, ρ, S', E, T, z⟩ => ⟨φ, st, ρ, S', E, T, by
        have e2 : ev P C ρ (.callI k es a) = M.bnd (M.bnd (evs P C ρ es) (C.def_ k)) fun x => M.bnd (ev P C ρ a) fun y => idxV x y := by
          rw [bnd_ret]
          rfl
        show Post R W σ φ H (RepV R) ((M.bnd (M.bnd (evs P C ρ es) (C.def_ k)) fun x => M.bnd (ev P C ρ a) fun y => idxV x y) st) Q
        rw [← e2]
        exact z⟩
    · cases h
  | .lc m own g it t x, S, X, R, W, e, c, F, h => by
    unfold chkE at h
    split at h
    · rename_i elt tg iter ifs kk scope pos
      simp only [Bool.and_eq_true, decide_eq_true_eq] at h
      have k0 := h.1.1.1.1.1.1.1.1
      subst k0
      have eo := h.1.1.1.1.1.2
      generalize (own.filterMap fun i => (S.N[i]?).map fun y => (y, i)) = ow at h eo
      subst eo
      have bk : BlkOk X.N X.env.scope scope ow := by
        rw [c.N, c.sc]
        exact blkOk_by h.1.1.1.1.1.1.2
      exact s_lc c.calm c.nd bk (okI it c F h.1.1.1.2) (fun hid Fr s H Cx cl fp hF => okG g (c.inBlk) (F.blk.h) h.1.1.2 Fr hF Mp.g0 Conv.g0) (fun hid s H Cx cl fp => PTs.g0 (okC t (c.inBlk) (F.blk.h) h.1.2)) (fun hid s H Cx cl fp => PE.g0 (okE x (c.inBlk) (F.blk.h) h.2)) (notSet_fold h.1.1.1.1.2)
    · cases h
  | .meth _ _ _ _, S, X, R, W, e, c, F, h => by unfold chkE at h; cases h
theorem okA : ∀ (x : As) {S : Sc} {X : Cx} {R : Rc} {W : WX} {es : List Expr}, Ctx D S n X W → Facts D P C R n X → chkA D S x es = true → es.all notStar = true → PX X R W es (fun ρ => eva P C ρ x)
  | .nil, S, X, R, W, es, c, F, h, hs => by
    unfold chkA at h
    split at h
    · exact x_nil
    · cases h
  | .cons a r, S, X, R, W, es, c, F, h, hs => by
    unfold chkA at h
    split at h
    · simp only [Bool.and_eq_true] at h
      rw [List.all_cons, Bool.and_eq_true] at hs
      exact x_cons (okE a c F h.1) (okA r c F h.2 hs.2) (star_cons hs.1)
    · cases h
  | .fvar i r, S, X, R, W, es, c, F, h, hs => by
    unfold chkA at h
    split at h
    · simp only [Bool.and_eq_true] at h
      rw [List.all_cons, Bool.and_eq_true] at hs
      exact x_fvar (c.ex (by simpa using h.1.1.1.1)) (c.slot h.1.1.1.2) (c.vis h.1.1.2) (okN_1 h.1.2) (okN_2 h.1.2) (okA r c F h.2 hs.2)
    · cases h
  | .lam k r, S, X, R, W, es, c, F, h, hs => by
    unfold chkA at h
    split at h
    · rename_i params body scope lpos es
      simp only [Bool.and_eq_true] at h
      rw [List.all_cons, Bool.and_eq_true] at hs
      exact lam_ok c F (by simpa using h.1.1.1) h.1.1.2 h.1.2 (okA r c F h.2 hs.2)
    · cases h
theorem okT : ∀ (x : T) {S : Sc} {X : Cx} {R : Rc} {W : WX} {e : Expr}, Ctx D S n X W → Facts D P C R n X → chkT D S x e = true → PT X e (tMT R (gOf X) W fun ρ => evT P C ρ x) ∧ ∀ op vs p, e = .BoolOp op vs p → PW X e (tMT R (gOf X) W fun ρ => evT P C ρ x)
  | .of a, S, X, R, W, e, c, F, h => by
    unfold chkT at h
    simp only [Bool.and_eq_true] at h
    exact ⟨t_of F.hK (okE a c F h.2) (plainT_ok h.1), fun op vs p q => by subst q; cases h.1⟩
  | .cmp o a b, S, X, R, W, e, c, F, h => by
    unfold chkT at h
    split at h
    · simp only [Bool.and_eq_true] at h
      exact ⟨t_cmp (cop_ok F c h.1.1.1) (fun _ _ => NoX.cmpV) (notSet_ok h.1.1.2) (okE a c F h.1.2) (okE b c F h.2), fun op vs p q => by cases q⟩
    · cases h
  | .chn o o' a b d, S, X, R, W, e, c, F, h => by
    unfold chkT at h
    split at h
    · simp only [Bool.and_eq_true] at h
      exact ⟨t_chn (cop_ok F c h.1.1.1.1.1) (fun _ _ => NoX.cmpV) (cop_ok F c h.1.1.1.1.2) (fun _ _ => NoX.cmpV) (notSet_ok h.1.1.1.2) (okE a c F h.1.1.2) (okE b c F h.1.2) (okE d c F h.2), fun op vs p q => by cases q⟩
    · cases h
  | .and a b, S, X, R, W, e, c, F, h => by
    unfold chkT at h
    split at h
    · simp only [Bool.and_eq_true] at h
      exact ⟨(t_and (okT a c F h.1).1 (pw_and1 (okT b c F h.2).1)).pt, fun _ _ _ _ => t_and (okT a c F h.1).1 (pw_and1 (okT b c F h.2).1)⟩
    · simp only [Bool.and_eq_true] at h
      exact ⟨(t_and (okT a c F h.1).1 ((okT b c F h.2).2 _ _ _ rfl)).pt, fun _ _ _ _ => t_and (okT a c F h.1).1 ((okT b c F h.2).2 _ _ _ rfl)⟩
    · cases h
  | .or a b, S, X, R, W, e, c, F, h => by
    unfold chkT at h
    split at h
    · simp only [Bool.and_eq_true] at h
      exact ⟨(t_or (okT a c F h.1).1 (pw_or1 (okT b c F h.2).1)).pt, fun _ _ _ _ => t_or (okT a c F h.1).1 (pw_or1 (okT b c F h.2).1)⟩
    · simp only [Bool.and_eq_true] at h
      exact ⟨(t_or (okT a c F h.1).1 ((okT b c F h.2).2 _ _ _ rfl)).pt, fun _ _ _ _ => t_or (okT a c F h.1).1 ((okT b c F h.2).2 _ _ _ rfl)⟩
    · cases h
  | .not a, S, X, R, W, e, c, F, h => by
    unfold chkT at h
    split at h
    · exact ⟨t_not (okT a c F h).1, fun op vs p q => by cases q⟩
    · cases h
theorem okC : ∀ (x : OT) {S : Sc} {X : Cx} {R : Rc} {W : WX} {es : List Expr}, Ctx D S n X W → Facts D P C R n X → chkC D S x es = true → PTs X es (tMT R (gOf X) W fun ρ => evC P C ρ x)
  | .non, S, X, R, W, es, c, F, h => by
    unfold chkC at h
    split at h
    · exact pts_nil.imp fun σ H Q ⟨φ, st, ρ, S1, E1, T1, p⟩ => p φ H true (Step.refl _ _) S1 T1 rfl
    · cases h
  | .som t, S, X, R, W, es, c, F, h => by
    unfold chkC at h
    split at h
    · exact pts_one (okT t c F h).1
    · cases h
theorem okO : ∀ (x : OE) {S : Sc} {X : Cx} {R : Rc} {W : WX} {e : Option Expr}, Ctx D S n X W → Facts D P C R n X → chkO D S x e = true → PO X e (tMO R (gOf X) W fun ρ => evo P C ρ x)
  | .non, S, X, R, W, e, c, F, h => by
    unfold chkO at h
    split at h
    · exact o_none
    · cases h
  | .som a, S, X, R, W, e, c, F, h => by
    unfold chkO at h
    split at h
    · exact o_some (okE a c F h)
    · cases h
theorem okEs : ∀ (x : Es) {S : Sc} {X : Cx} {R : Rc} {W : WX} {es : List Expr}, Ctx D S n X W → Facts D P C R n X → chkEs D S x es = true → PA X es (tMA' R (gOf X) W fun ρ => evs P C ρ x)
  | .nil, S, X, R, W, es, c, F, h => by
    unfold chkEs at h
    split at h
    · exact a_nil
    · cases h
  | .cons a r, S, X, R, W, es, c, F, h => by
    unfold chkEs at h
    split at h
    · simp only [Bool.and_eq_true] at h
      exact a_cons (okE a c F h.1.2) (okEs r c F h.2) (star_cons h.1.1)
    · cases h
theorem okKw : ∀ (x : Es) {S : Sc} {X : Cx} {R : Rc} {W : WX} {kws : List Keyword}, Ctx D S n X W → Facts D P C R n X → chkEs D S x (kws.map (·.value)) = true → PK X kws (tMA' R (gOf X) W fun ρ => evs P C ρ x)
  | .nil, S, X, R, W, kws, c, F, h => by
    cases kws with
    | nil => exact k_nil
    | cons q r => unfold chkEs at h; cases h
  | .cons a r, S, X, R, W, kws, c, F, h => by
    cases kws with
    | nil => unfold chkEs at h; cases h
    | cons q ks =>
      obtain ⟨nm, v, kp⟩ := q
      have h : (notStar v && chkE D S a v && chkEs D S r (ks.map (·.value))) = true := by
        rw [List.map_cons] at h
        unfold chkEs at h
        exact h
      simp only [Bool.and_eq_true] at h
      exact k_cons (okE a c F h.1.2) (okKw r c F h.2)
theorem okG : ∀ (x : Tg) {S : Sc} {X : Cx} {R : Rc} {W : WX} {e : Expr}, Ctx D S n X W → Facts D P C R n X → chkG D S x e = true → ∀ Fm : Fr, Fm.vs = S.vs → ∀ G : Gm, Conv X R W G → PG X e (tG R G W Fm (evg P C x))
  | .name i, S, X, R, W, e, c, F, h, Fm, hF, G, cv => by
    unfold chkG at h
    split at h
    · simp only [Bool.and_eq_true, decide_eq_true_eq] at h
      obtain ⟨⟨h1, h2⟩, h3⟩ := h
      split at h3
      · rename_i q
        rw [← c.sc] at q
        exact g_name (by rw [hF]; exact h1) c.nd (c.slot h2) (.inl q) (.inr q)
      · rename_i q
        rw [← c.sc] at q
        exact g_name (by rw [hF]; exact h1) c.nd (c.slot h2) (.inr q) (.inl (c.fnc _ h3))
      · cases h3
    · cases h
  | .tup gs, S, X, R, W, e, c, F, h, Fm, hF, G, cv => by
    unfold chkG at h
    split at h
    · simp only [Bool.and_eq_true] at h
      obtain ⟨q1, q2⟩ := okGs gs c F h.2 h.1 Fm hF G cv
      exact g_tup F.hK c.calm q1 (by rw [assign_len]; exact q2) (assign_none h.1)
    · cases h
  | .sub o i, S, X, R, W, e, c, F, h, Fm, hF, G, cv => by
    unfold chkG at h
    split at h
    · simp only [Bool.and_eq_true] at h
      rw [show evg P C (.sub o i) = fun v ρ => M.bnd (ev P C ρ o) fun x => M.bnd (ev P C ρ i) fun y => M.bnd (setV R.cts x y v) fun _ => M.ret ρ by rw [F.cts]; rfl]
      exact g_sub (by have := c.room.units; omega) (cv _ _ (okE o c F h.1.2)) (cv _ _ (okE i c F h.2)) (sub_assign h.1.1)
    · cases h
  | .fld _ _, S, X, R, W, e, c, F, h, Fm, hF, G, cv => by unfold chkG at h; cases h
theorem okGs : ∀ (x : Tgs) {S : Sc} {X : Cx} {R : Rc} {W : WX} {es : List Expr}, Ctx D S n X W → Facts D P C R n X → chkGs D S x es = true → es.all notStar = true → ∀ Fm : Fr, Fm.vs = S.vs → ∀ G : Gm, Conv X R W G → PGs X es (tGs R G W Fm (evgs P C x)) ∧ es.length = gsLen x
  | .nil, S, X, R, W, es, c, F, h, hs, Fm, hF, G, cv => by
    unfold chkGs at h
    split at h
    · exact ⟨gs_nil, rfl⟩
    · cases h
  | .cons g r, S, X, R, W, es, c, F, h, hs, Fm, hF, G, cv => by
    unfold chkGs at h
    split at h
    · simp only [Bool.and_eq_true] at h
      rw [List.all_cons, Bool.and_eq_true] at hs
      obtain ⟨q1, q2⟩ := okGs r c F h.2 hs.2 Fm hF G cv
      exact ⟨gs_cons (okG g c F h.1 Fm hF G cv) q1 (assign_cons hs.1), by show _ + 1 = _ + 1; rw [q2]⟩
    · cases h
theorem okI : ∀ (x : It) {S : Sc} {X : Cx} {R : Rc} {W : WX} {tg e : Expr}, Ctx D S n X W → Facts D P C R n X → chkI D S x tg e = true → PI X tg e (tI R (gOf X) W fun ρ => evi P C ρ x)
  | .of a, S, X, R, W, tg, e, c, F, h => by
    unfold chkI at h
    exact i_of F.hK (okE a c F h)
  | .rng a, S, X, R, W, tg, e, c, F, h => by
    unfold chkI at h
    split at h
    · simp only [Bool.and_eq_true, decide_eq_true_eq] at h
      obtain ⟨hg, hm, hn⟩ := F.bltn c h.1.1.2
      have ex := h.1.1.1
      subst ex
      exact i_rng hg hm (a_cons (okE a c F h.2) a_nil (star_cons h.1.2)) (by rw [star_cons h.1.2]; rfl)
    · cases h
  | .rng2 a b, S, X, R, W, tg, e, c, F, h => by
    unfold chkI at h
    split at h
    · simp only [Bool.and_eq_true, decide_eq_true_eq] at h
      obtain ⟨hg, hm, hn⟩ := F.bltn c h.1.1.1.1.2
      have ex := h.1.1.1.1.1
      subst ex
      exact i_rng2 hg hm (a_cons (okE a c F h.1.2) (a_cons (okE b c F h.2) a_nil (star_cons h.1.1.2)) (star_cons h.1.1.1.2)) (by rw [star_cons h.1.1.1.2, star_cons h.1.1.2]; rfl) (by rw [star_cons h.1.1.2]; rfl)
    · cases h
  | .enu a, S, X, R, W, tg, e, c, F, h => by
    unfold chkI at h
    split at h
    · simp only [Bool.and_eq_true, decide_eq_true_eq] at h
      obtain ⟨hg, hm, hn⟩ := F.bltn c h.1.1.2
      have ex := h.1.1.1.2
      subst ex
      cases tg with
      | Tuple es k p => exact i_enu F.hK hg hm (okE a c F h.2) (star_cons h.1.2) (by rw [star_cons h.1.2]; rfl)
      | _ => cases h.1.1.1.1
    · cases h
  | .zip a b, S, X, R, W, tg, e, c, F, h => by
    unfold chkI at h
    split at h
    · simp only [Bool.and_eq_true, decide_eq_true_eq] at h
      obtain ⟨hg, hm, hn⟩ := F.bltn c h.1.1.1.1.2
      have ex := h.1.1.1.1.1.2
      subst ex
      cases tg with
      | Tuple es k p => exact i_zip F.hK hg hm (a_cons (okE a c F h.1.2) (a_cons (okE b c F h.2) a_nil (star_cons h.1.1.2)) (star_cons h.1.1.1.2)) (star_cons h.1.1.1.2) (by rw [star_cons h.1.1.2]; rfl)
      | _ => cases h.1.1.1.1.1.1
    · cases h
  | .items _, S, X, R, W, tg, e, c, F, h => by unfold chkI at h; cases h
end
end
end Mp
namespace Mp
open PySem PySem.Spec PyProof.Rows L2
theorem notComp_ok {v : Expr} {t : Option Expr} {l : Nat} {env : PySem.Env} (h : notComp v = true) : swapsWith v t l env = pure false := by
  cases v <;> first | rfl | cases h
def notName : Expr → Bool
  | .Name _ _ => false
  | _ => true
theorem swaps_tgt {v tg : Expr} {l : Nat} {env : PySem.Env} (h : notName tg = true) : swapsWith v (some tg) l env = pure false := by
  cases v <;> first | rfl | (cases tg <;> first | rfl | cases h)
def notTup : Expr → Bool
  | .Tuple _ _ _ => false
  | _ => true
def notLst : Expr → Bool
  | .List _ _ => false
  | _ => true
theorem swapped_none {v tg : Expr} {env : PySem.Env} (h : (notTup v || (notTup tg && notLst tg)) = true) : swappedStores [tg] v env = pure none := by
  cases v <;> first
    | rfl
    | (cases tg <;> first | rfl | cases h)
theorem swapped_many {ts vs : List Expr} {k k2 : Nat} {p p2 : Pos} {env : PySem.Env} (h : (!(ts.length == 2 || ts.length == 3) || vs.length != ts.length) = true) : swappedStores [.Tuple ts k p] (.Tuple vs k2 p2) env = pure none := by
  unfold swappedStores
  simp only [h, Bool.true_or, if_true]
theorem swapped_two {x y : Str} {px py : Pos} {a b : Expr} {k k2 : Nat} {p p2 : Pos} {env : PySem.Env} (hb : env.blockKind = .function) (hx : env.kindOf x = some .local) (hy : env.kindOf y = some .local) (hl : (py.line == px.line) = true) (hxy : x ≠ y) (ha : notStar a = true) (hb2 : notStar b = true)
    (hf : ([a, b].all (foldedForSure 8)) = false) (hc : ([a, b].all (constantsAlone 8)) = false) : swappedStores [.Tuple [.Name x px, .Name y py] k p] (.Tuple [a, b] k2 p2) env = pure (some [x, y]) := by
  have hl' : py.line = px.line := eq_of_beq hl
  have e2 : (y == x) = false := by
    cases z : y == x with
    | false => rfl
    | true => exact absurd (eq_of_beq z).symm hxy
  have e3 : ¬ y = x := fun z => hxy z.symm
  unfold swappedStores
  simp [hb, hx, hy, hl', Expr.pos, List.filterMap_cons, List.filterMap_nil, List.eraseDups, List.eraseDupsBy, List.eraseDupsBy.loop, e2, e3]
  rw [if_neg, if_neg, if_neg]
  · rintro ⟨h1, h2⟩
    simp [h1, h2] at hc
  · rintro ⟨h1, h2⟩
    simp [h1, h2] at hf
  · rintro (z | z)
    · cases a <;> first | (cases z; done) | (cases ha; done)
    · cases b <;> first | (cases z; done) | (cases hb2; done)
def many (tg v : Expr) : Bool := match tg, v with
  | .Tuple ts _ _, .Tuple vs _ _ => !(ts.length == 2 || ts.length == 3) || vs.length != ts.length
  | _, _ => false
theorem many_ok {tg v : Expr} {env : PySem.Env} (h : many tg v = true) : swappedStores [tg] v env = pure none := by
  unfold many at h
  split at h
  · exact swapped_many h
  · cases h
def plainSw (tg v : Expr) : Bool := notTup v || (notTup tg && notLst tg) || many tg v
theorem plainSw_ok {tg v : Expr} {env : PySem.Env} (h : plainSw tg v = true) : swappedStores [tg] v env = pure none := by
  unfold plainSw at h
  rw [Bool.or_eq_true] at h
  rcases h with h | h
  · exact swapped_none h
  · exact many_ok h
def cellNm (Z : Sc) : Expr → Bool
  | .Name x _ => !(Z.sc.names.lookup x == some NameKind.local)
  | _ => false
theorem cellNm_ok {Z : Sc} {v tg : Expr} {l : Nat} {env : PySem.Env} (he : env.scope = Z.sc) (h : cellNm Z tg = true) : swapsWith v (some tg) l env = pure false := by
  unfold cellNm at h
  split at h
  · rename_i x p
    have e : (env.kindOf x == some NameKind.local) = false := by
      show (env.scope.names.lookup x == some NameKind.local) = false
      rw [he]
      simpa using h
    cases v <;> first
      | rfl
      | (show (pure (env.blockKind == .function && env.kindOf x == some .local && _ && _) : Sem Bool) = pure false
         rw [e, Bool.and_false]
         rfl)
  · cases h
def cellSw (Z : Sc) : Expr → Bool
  | .Tuple ts _ _ => ts.any (cellNm Z)
  | _ => false
theorem filterMap_lt {α β : Type} {f : α → Option β} : ∀ {l : List α}, (∃ x ∈ l, f x = none) → (l.filterMap f).length < l.length
  | [], ⟨_, h, _⟩ => by cases h
  | y :: l, ⟨x, h, e⟩ => by
    rw [List.filterMap_cons]
    rcases List.mem_cons.mp h with rfl | h
    · rw [e]
      exact Nat.lt_succ_of_le (List.length_filterMap_le f l)
    · have := filterMap_lt ⟨x, h, e⟩
      cases f y with
      | none => exact Nat.lt_succ_of_lt this
      | some z => exact Nat.succ_lt_succ this
theorem cellSw_ok {Z : Sc} {v tg : Expr} {env : PySem.Env} (he : env.scope = Z.sc) (h : cellSw Z tg = true) : swappedStores [tg] v env = pure none := by
  unfold cellSw at h
  split at h
  · rename_i ts k p
    obtain ⟨t, ht, hc⟩ := List.any_eq_true.mp h
    cases v with
    | Tuple vs k2 p2 =>
      unfold swappedStores
      by_cases h1 : (!(ts.length == 2 || ts.length == 3) || vs.length != ts.length || env.blockKind != .function) = true
      · simp only [h1, if_true]
      · have h1 := Bool.eq_false_iff.mpr h1
        simp only [h1, Bool.false_eq_true, if_false]
        split
        · rfl
        · split
          · rfl
          · rename_i h3
            refine absurd ?_ h3
            rw [Bool.or_eq_true]
            left
            rw [bne_iff_ne]
            refine Nat.ne_of_lt (filterMap_lt ⟨t, ht, ?_⟩)
            unfold cellNm at hc
            split at hc
            · rename_i x p3
              have e : (env.kindOf x == some NameKind.local) = false := by
                show (env.scope.names.lookup x == some NameKind.local) = false
                rw [he]
                simpa using hc
              simp only [e, Bool.false_and, Bool.false_eq_true, if_false]
            · cases hc
    | _ => rfl
  · cases h
variable (D : Dt)
def chkPl (Z : Sc) (g : Tg) (e : E) (tg v : Expr) : Bool := (notComp v || notName tg || cellNm Z tg) && (plainSw tg v || cellSw Z tg) && notStar tg && chkG D Z g tg && chkE D Z e v
def chkFl (Z : Sc) (g : Tg) (e : E) (tg v : Expr) : Bool := match g, tg with
  | .fld o f, .Attribute l nm _ => decide (D.fld.lookup f = some nm) && notComp v && chkE D Z e v && chkE D Z o l
  | _, _ => false
def chkLc (Z : Sc) (g : Tg) (e : E) (tg v : Expr) : Bool := match g, e, tg, v with
  | .name i, .lc m own g it c x, .Name y py, .ListComp elt [⟨tg2, iter, ifs, k⟩] scope pos => decide (k = 0) && !Z.blk && decide (Z.sc.kind = .function) && decide (i ∈ Z.vs) && slot Z i y && decide (Z.sc.names.lookup y = some .local) && (py.line == pos.line) && !(scope.names.any fun (n, k) => n == y && (k == .local || k == .cell)) &&
      blkC Z.N Z.sc scope (own.filterMap fun i => (Z.N[i]?).map fun y => (y, i)) && decide (own = (own.filterMap fun i => (Z.N[i]?).map fun y => (y, i)).map (·.2)) && notSet iter && chkI D Z it tg2 iter && chkG D (Z.inner scope own) g tg2 && chkC D (Z.inner scope own) c ifs && chkE D (Z.inner scope own) x elt
  | _, _, _, _ => false
def chkPa (Z : Sc) (g : Tg) (e : E) (tg v : Expr) : Bool := match g, e, tg, v with
  | .tup (.cons (.name i) (.cons (.name j) .nil)), .tup es, .Tuple [.Name x px, .Name y py] _ _, .Tuple [a, b] _ _ => decide (Z.sc.kind = .function) && decide (i ∈ Z.vs) && decide (j ∈ Z.vs) && slot Z i x && slot Z j y && decide (i ≠ j) && decide (Z.sc.names.lookup x = some .local) && decide (Z.sc.names.lookup y = some .local) && (py.line == px.line) && decide (x ≠ y) &&
      notStar a && notStar b && !([a, b].all (foldedForSure 8)) && !([a, b].all (constantsAlone 8)) && chkEs D Z es [a, b]
  | _, _, _, _ => false
mutual
def chkS (Z : Sc) : S → Stmt → Bool
  | .expr e, s => (match s with
    | .Expr v _ => notComp v && chkE D Z e v
    | _ => false)
  | .asg g e, s => (match s with
    | .Assign [tg] v _ => chkPl D Z g e tg v || chkFl D Z g e tg v || chkLc D Z g e tg v || chkPa D Z g e tg v
    | _ => false)
  | .ret e, s => (match s with
    | .Return (some v) _ => chkE D Z e v
    | _ => false)
  | .retN, s => (match s with
    | .Return none _ => true
    | _ => false)
  | .cond c a b, s => (match s with
    | .If t x y _ => chkT D Z c t && chkSs Z a x && chkSs Z b y
    | _ => false)
  | .for_ g it b, s => (match s with
    | .For tg iter x [] _ => notSet iter && chkI D Z it tg iter && chkG D Z g tg && chkSs Z b x
    | _ => false)
  | .whl c b, s => (match s with
    | .While t x [] _ => chkT D Z c t && chkSs Z b x
    | _ => false)
  | .pass, s => (match s with
    | .Pass _ => true
    | _ => false)
  | .brk, s => (match s with
    | .Break _ => true
    | _ => false)
  | .cont, s => (match s with
    | .Continue _ => true
    | _ => false)
  | .never, _ => true
  | .raise _ _, _ => false
def chkSs (Z : Sc) : Ss → List Stmt → Bool
  | .nil, s => (match s with
    | [] => true
    | _ => false)
  | .cons a r, s => (match s with
    | x :: xs => chkS Z a x && chkSs Z r xs
    | [] => false)
end
section
variable {D : Dt} {P : Prog} {C : Call} {n : Nat} {Z : Sc} {X : Cx} {R : Rc} {W : WX}
theorem Ctx.bk (c : Ctx D Z n X W) (h : Z.sc.kind = .function) : X.env.blockKind = .function := by
  unfold Env.blockKind
  rw [c.sc, h]
  rfl
theorem okPl {g : Tg} {e : E} {tg v : Expr} {pos : Pos} (c : Ctx D Z n X W) (F : Facts D P C R n X) (h : chkPl D Z g e tg v = true) (Fm : Fr) (hF : Fm.vs = Z.vs) : PS X (.Assign [tg] v pos) (tS R (gOf X) W Fm (ex P C (.asg g e))) := by
  unfold chkPl at h
  simp only [Bool.and_eq_true] at h
  refine st_asg (okE e c F h.2) (okG g c F h.1.2 Fm hF _ Conv.id) ?_ ?_ (by rw [assign_cons h.1.1.2]; rfl)
  · have q := h.1.1.1.1
    rw [Bool.or_eq_true, Bool.or_eq_true] at q
    rcases q with (q | q) | q
    · exact notComp_ok q
    · exact swaps_tgt q
    · exact cellNm_ok c.sc q
  · have q := h.1.1.1.2
    rw [Bool.or_eq_true] at q
    rcases q with q | q
    · exact plainSw_ok q
    · exact cellSw_ok c.sc q
theorem okFl {g : Tg} {e : E} {tg v : Expr} {pos : Pos} (c : Ctx D Z n X W) (F : Facts D P C R n X) (h : chkFl D Z g e tg v = true) (Fm : Fr) (hF : Fm.vs = Z.vs) : PS X (.Assign [tg] v pos) (tS R (gOf X) W Fm (ex P C (.asg g e))) := by
  unfold chkFl at h
  split at h
  · rename_i o f l nm p
    simp only [Bool.and_eq_true, decide_eq_true_eq] at h
    have en : nm = R.fnm f := by
      unfold Rc.fnm
      rw [F.fld, h.1.1.1]
      rfl
    subst en
    exact st_fld F.hK F.cls (okE e c F h.1.2) (okE o c F h.2) (notComp_ok h.1.1.2)
  · cases h
theorem okLc {g : Tg} {e : E} {tg v : Expr} {pos : Pos} (c : Ctx D Z n X W) (F : Facts D P C R n X) (h : chkLc D Z g e tg v = true) (Fm : Fr) (hF : Fm.vs = Z.vs) : PS X (.Assign [tg] v pos) (tS R (gOf X) W Fm (ex P C (.asg g e))) := by
  unfold chkLc at h
  split at h
  · rename_i i m own g it t x y py elt tg2 iter ifs kk scope lpos
    simp only [Bool.and_eq_true, decide_eq_true_eq] at h
    obtain ⟨⟨⟨⟨⟨⟨⟨⟨⟨⟨⟨⟨⟨⟨k0, nb⟩, kf⟩, iv⟩, sl⟩, lo⟩, ln⟩, an⟩, bc⟩, eo⟩, ns⟩, hi⟩, hg⟩, ht⟩, he⟩ := h
    subst k0
    generalize (own.filterMap fun i => (Z.N[i]?).map fun y => (y, i)) = ow at bc eo
    subst eo
    have bk : BlkOk X.N X.env.scope scope ow := by
      rw [c.N, c.sc]
      exact blkOk_by bc
    have lo' : X.env.scope.names.lookup y = some .local := by rw [c.sc]; exact lo
    refine st_setLc (by rw [hF]; exact iv) (c.slot sl) lo' ?_ c.calm c.nd bk (okI it c F hi) (fun hid Fr s H Cx cl fp hF => okG g (c.inBlk) (F.blk.h) hg Fr hF Mp.g0 Conv.g0) (fun hid s H Cx cl fp => PTs.g0 (okC t (c.inBlk) (F.blk.h) ht)) (fun hid s H Cx cl fp => PE.g0 (okE x (c.inBlk) (F.blk.h) he)) (notSet_fold ns)
    show (pure (X.env.blockKind == .function && X.env.kindOf y == some .local && py.line == lpos.line && !(scope.names.any fun (n, k) => n == y && (k == .local || k == .cell))) : Sem Bool) = pure true
    have e1 : X.env.kindOf y = some .local := lo'
    rw [c.bk kf, e1, ln, an]
    rfl
  · cases h
theorem okPa {g : Tg} {e : E} {tg v : Expr} {pos : Pos} (c : Ctx D Z n X W) (F : Facts D P C R n X) (h : chkPa D Z g e tg v = true) (Fm : Fr) (hF : Fm.vs = Z.vs) : PS X (.Assign [tg] v pos) (tS R (gOf X) W Fm (ex P C (.asg g e))) := by
  unfold chkPa at h
  split at h
  · rename_i i j es x px y py k p a b k2 p2
    simp only [Bool.and_eq_true, decide_eq_true_eq] at h
    obtain ⟨⟨⟨⟨⟨⟨⟨⟨⟨⟨⟨⟨⟨⟨kf, iv⟩, jv⟩, si⟩, sj⟩, ij⟩, lx⟩, ly⟩, ln⟩, xy⟩, na⟩, nb⟩, hf⟩, hc⟩, he⟩ := h
    have lx' : X.env.scope.names.lookup x = some .local := by rw [c.sc]; exact lx
    have ly' : X.env.scope.names.lookup y = some .local := by rw [c.sc]; exact ly
    exact st_par (by rw [hF]; exact iv) (by rw [hF]; exact jv) c.calm c.nd (c.slot si) (c.slot sj) ij lx' ly' (okEs es c F he) (swapped_two (c.bk kf) lx' ly' ln xy na nb ((Bool.not_eq_true' _).mp hf) ((Bool.not_eq_true' _).mp hc))
  · cases h
mutual
theorem okSt : ∀ (x : S) {Z : Sc} {X : Cx} {R : Rc} {W : WX} {s : Stmt}, Ctx D Z n X W → Facts D P C R n X → chkS D Z x s = true → ∀ Fm : Fr, Fm.vs = Z.vs → PS X s (tS R (gOf X) W Fm (ex P C x))
  | .expr e, Z, X, R, W, s, c, F, h, Fm, hF => by
    unfold chkS at h
    split at h
    · simp only [Bool.and_eq_true] at h
      exact st_expr (okE e c F h.2) (notComp_ok h.1)
    · cases h
  | .asg g e, Z, X, R, W, s, c, F, h, Fm, hF => by
    unfold chkS at h
    split at h
    · simp only [Bool.or_eq_true] at h
      rcases h with ((h | h) | h) | h
      · exact okPl c F h Fm hF
      · exact okFl c F h Fm hF
      · exact okLc c F h Fm hF
      · exact okPa c F h Fm hF
    · cases h
  | .ret e, Z, X, R, W, s, c, F, h, Fm, hF => by
    unfold chkS at h
    split at h
    · exact st_ret (okE e c F h)
    · cases h
  | .retN, Z, X, R, W, s, c, F, h, Fm, hF => by
    unfold chkS at h
    split at h
    · exact st_retN
    · cases h
  | .cond t a b, Z, X, R, W, s, c, F, h, Fm, hF => by
    unfold chkS at h
    split at h
    · simp only [Bool.and_eq_true] at h
      exact st_cond (okT t c F h.1.1).1 (okSs a c F h.1.2 Fm hF) (okSs b c F h.2 Fm hF)
    · cases h
  | .for_ g it b, Z, X, R, W, s, c, F, h, Fm, hF => by
    unfold chkS at h
    split at h
    · simp only [Bool.and_eq_true] at h
      exact st_for c.po c.calm (okI it c F h.1.1.2) (okG g c F h.1.2 Fm hF _ Conv.id) (okSs b c F h.2 Fm hF) (notSet_fold h.1.1.1)
    · cases h
  | .whl t b, Z, X, R, W, s, c, F, h, Fm, hF => by
    unfold chkS at h
    split at h
    · simp only [Bool.and_eq_true] at h
      exact st_while c.po (okT t c F h.1).1 (okSs b c F h.2 Fm hF) FUEL
    · cases h
  | .pass, Z, X, R, W, s, c, F, h, Fm, hF => by
    unfold chkS at h
    split at h
    · exact st_pass
    · cases h
  | .brk, Z, X, R, W, s, c, F, h, Fm, hF => by
    unfold chkS at h
    split at h
    · exact st_brk
    · cases h
  | .cont, Z, X, R, W, s, c, F, h, Fm, hF => by
    unfold chkS at h
    split at h
    · exact st_cnt
    · cases h
  | .never, Z, X, R, W, s, c, F, h, Fm, hF => st_never
  | .raise _ _, Z, X, R, W, s, c, F, h, Fm, hF => by unfold chkS at h; cases h
theorem okSs : ∀ (x : Ss) {Z : Sc} {X : Cx} {R : Rc} {W : WX} {s : List Stmt}, Ctx D Z n X W → Facts D P C R n X → chkSs D Z x s = true → ∀ Fm : Fr, Fm.vs = Z.vs → PSs X s (tS R (gOf X) W Fm (exs P C x))
  | .nil, Z, X, R, W, s, c, F, h, Fm, hF => by
    unfold chkSs at h
    split at h
    · exact ss_nil
    · cases h
  | .cons a r, Z, X, R, W, s, c, F, h, Fm, hF => by
    unfold chkSs at h
    split at h
    · simp only [Bool.and_eq_true] at h
      exact ss_cons (okSt a c F h.1 Fm hF) (okSs r c F h.2 Fm hF)
    · cases h
end
end
end Mp
namespace Mp
open PySem PySem.Spec PyProof.Rows L2
def bodyZ (N : List Str) (sc : Scope) (qual : Str) (lamb : Bool) : Sc := ⟨N, sc, List.range N.length, false, fun _ => true, qual ++ ".<locals>.", lamb⟩
def lamZ (N : List Str) (sc : Scope) (qual : Str) : Sc := ⟨N, sc, [], false, fun _ => false, qual ++ ".<locals>.", false⟩
def TabT (D : Dt) (base : Heap) (mg : Str → Option Value) (cdv : Value) (qual : Str) : Prop :=
  ∃ c PP, LamX.TabB base mg c PP ∧ cdv = .ref c ∧ (PP, (qual ++ ".<locals>.") ++ "<lambda>") ∈ D.tabs ∧ ∀ p ∈ D.tabs, p.1 = PP → p.2 = (qual ++ ".<locals>.") ++ "<lambda>"
section
variable {D : Dt} {Pg : Prog} {C : Call} {R : Rc} {P : Program} {w : World} {K : PySem.W.Frag} {mg : Str → Option Value} {base : Heap}
def FactsA (D : Dt) (Pg : Prog) (C : Call) (R : Rc) (n : Nat) (P : Program) (w : World) (K : PySem.W.Frag) (mg : Str → Option Value) (base : Heap) : Prop :=
  ∀ X : Cx, X.prog = P → X.w = w → X.K = K → X.mg = mg → X.base = base → Facts D Pg C R n X
theorem ctx_body {n : Nat} {N ps : List Str} {qual : Str} {scope : Scope} {f : Addr} {cdv : Value} {A : Around} {outer : List PySem.Env} {s : Shared} {H : Hp} {E : XK} {lamb : Bool} (S : FnScope N ps scope)
    (htab : lamb = true → TabT D base mg cdv qual) (hr : Room (n + 1) (A.deeper (envOfC qual scope s.heap.objs.size f cdv))) :
    Ctx D (bodyZ N scope qual lamb) n (cxOf (L2.CX P w) P w K mg base N qual scope f cdv A outer s H E) (fun c d _ H => E c d H) where
  N := rfl
  sc := rfl
  nd := S.nd
  calm := rfl
  room := hr
  ex := fun _ => rfl
  fnc := fun _ _ => rfl
  tk := takes_of rfl rfl rfl rfl
  qual := rfl
  tab := fun h => by
    obtain ⟨c, PP, h1, h2, h3, h4⟩ := htab h
    exact ⟨c, PP, h1, h2, h3, h4⟩
  cf := fun _ pins σ H' s' I y c e hc => by
    have h1 := I.ok.cab y c rfl e
    obtain ⟨_, o, ho, _⟩ := I.ok.funs.mem hc
    exact absurd (Heap.lt_size ho) (Nat.not_lt.mpr h1)
  po := passes_of rfl
theorem body_ends {Q : VK} {E : XK} {m : M (Fl × Env)} {G : Gm} {Fm : Fr} {φ : List Addr} {st : Sto} {H : Hp} (h : Post R (fun c d _ H => E c d H) [] φ H (RepV R) (M.bnd m (fun q => (match q.1 with
  | .nx => M.ret .non
  | .ret v => M.ret v
  | _ => M.bad : M PV)) st) Q) : PostS R G (fun c d _ H => E c d H) Fm φ H (m st) { nx := fun _ H' => Q .non H', rt := Q } := by
  unfold M.bnd at h
  cases e : m st with
  | ok q st1 =>
    rw [e] at h
    intro φ' H' σ' s1 S1 T1 E1 ag
    obtain ⟨fl, ρ⟩ := q
    cases fl with
    | nx => exact h φ' H' .non s1 S1 T1 rfl
    | ret v => exact fun u r => h φ' H' u s1 S1 T1 r
    | brk => exact h.elim
    | cnt => exact h.elim
  | exc c v s1 =>
    rw [e] at h
    exact fun φ' H' dx a b cc d σ' ag => h φ' H' dx a b cc d
  | bad =>
    rw [e] at h
    exact h
theorem def_run {n : Nat} {f : Addr} {name qual : Str} {params : Arguments} {bodyE : List Stmt} {scope : Scope} {dV kV doc pm cdv ct oc : Value} {an od : Option Addr} {osl : Array (Option Value)} {N ps : List Str} {d : Def} {lamb : Bool}
    (lk : K.lookup f = some ⟨oc, od, .func (PySem.W.fnOf name qual params bodyE scope dV kV doc pm an cdv ct), osl⟩) (hcd : PySem.W.codeIn K cdv qual = true) (S : FnScope N ps scope) (hnp : d.np = ps.length) (hnl : d.nl = N.length)
    (hck : chkSs D (bodyZ N scope qual lamb) d.body bodyE = true) (htab : lamb = true → TabT D base mg cdv qual) (hF : FactsA D Pg C R n P w K mg base) :
    FnM P w K mg base R (n + 2) f (PySem.W.fnOf name qual params bodyE scope dV kV doc pm an cdv ct) ps (body Pg C d) := by
  refine ⟨fun hid A outer s H args us vs ds φ st Q E hr e0 hb r hl S0 T0 x0 p => ?_⟩
  have hvl : vs.length = ps.length := by rw [← x0.length]; exact hl
  refine LamX.run_ofS lk hcd S hr e0 hb r hvl fun hr' => ?_
  have c := ctx_body (D := D) (P := P) (w := w) (K := K) (E := E) (outer := outer) (H := H) S htab hr'
  have F := hF (cxOf (L2.CX P w) P w K mg base N qual scope f cdv A outer s H E) rfl rfl rfl rfl rfl
  refine ⟨_, okSs (n := n) d.body c (F.h (hid := hid)) hck ⟨L2.start N vs, List.range N.length⟩ rfl, ?_⟩
  have hb0 : body Pg C d ds = M.bnd (exs Pg C d.body (ds.map some ++ List.replicate (d.nl - d.np) none)) fun q => (match q.1 with
    | .nx => M.ret .non
    | .ret v => M.ret v
    | _ => M.bad) := by
    unfold body
    rw [if_pos (by rw [hnp]; exact hl)]
    all_goals (refine congrArg _ (funext fun q => ?_); obtain ⟨f, ρ⟩ := q; cases f <;> rfl)
  rw [hb0] at p
  refine ⟨φ, st, _, S0, ?_, ⟨rfl, fun _ _ => rfl⟩, T0, body_ends p⟩
  unfold L2.start
  refine ⟨by rw [List.length_append, List.length_append, List.length_map, List.length_map, List.length_replicate, List.length_replicate, x0.length, hnp, hnl, hvl], fun i dd e => ?_⟩
  by_cases hi : i < ds.length
  · rw [List.getElem?_append_left (by rw [List.length_map]; exact hi), List.getElem?_map] at e
    cases q : ds[i]? with
    | none => rw [q] at e; cases e
    | some d' =>
      rw [q] at e
      cases e
      obtain ⟨v, g1, g2⟩ := x0.get q
      refine ⟨v, ?_, g2⟩
      rw [List.getElem?_append_left (by rw [List.length_map, ← x0.length]; exact hi), List.getElem?_map, g1]
      rfl
  · rw [List.getElem?_append_right (by rw [List.length_map]; omega), List.getElem?_replicate] at e
    split at e <;> cases e
theorem start_rep {Rr : Rc} {G : Gm} {φ : List Addr} {H : Hp} {N ps : List Str} {d : Def} {vs : List V} {ds : List PV} (hnp : d.np = ps.length) (hnl : d.nl = N.length) (hvl : vs.length = ps.length) (x0 : RepXL Rr G φ H ds vs) : RepE Rr G φ H (ds.map some ++ List.replicate (d.nl - d.np) none) (L2.start N vs) := by
  unfold L2.start
  refine ⟨by rw [List.length_append, List.length_append, List.length_map, List.length_map, List.length_replicate, List.length_replicate, x0.length, hnp, hnl, hvl], fun i dd e => ?_⟩
  by_cases hi : i < ds.length
  · rw [List.getElem?_append_left (by rw [List.length_map]; exact hi), List.getElem?_map] at e
    cases q : ds[i]? with
    | none => rw [q] at e; cases e
    | some d' =>
      rw [q] at e
      cases e
      obtain ⟨v, g1, g2⟩ := x0.get q
      refine ⟨v, ?_, g2⟩
      rw [List.getElem?_append_left (by rw [List.length_map, ← x0.length]; exact hi), List.getElem?_map, g1]
      rfl
  · rw [List.getElem?_append_right (by rw [List.length_map]; omega), List.getElem?_replicate] at e
    split at e <;> cases e
theorem lc_lst {own : List Nat} {g : Tg} {it : It} {c : OT} {e : E} {ρ : Env} {f h : PV → M PV} (hf : ∀ xs, f (.lst xs) = h (.lst xs)) : M.bnd (ev Pg C ρ (.lc false own g it c e)) f = M.bnd (ev Pg C ρ (.lc false own g it c e)) h := by
  have key : ∀ (m : M (List PV)), M.bnd (M.bnd m (newL false)) f = M.bnd (M.bnd m (newL false)) h := fun m => by
    funext s
    unfold M.bnd newL
    cases m s with
    | ok xs s' =>
      simp only
      by_cases z : xs.length ≤ SZ
      · simp only [z, if_true, Bool.false_eq_true, if_false]
        rw [hf]
      · simp only [z, if_false]
    | exc c v s' => rfl
    | bad => rfl
  have e1 : ev Pg C ρ (.lc false own g it c e) = M.bnd (evi Pg C ρ it) fun xs => M.bnd (mapM xs.2 (fun x => M.nox (M.bnd (evg Pg C g x (wipe own ρ)) fun ρ' => M.bnd (evC Pg C ρ' c) fun k => if k then M.bnd (ev Pg C ρ' e) fun y => M.ret (some y) else M.ret none)) xs.1 []) (newL false) := rfl
  rw [e1, ← bnd_ret]
  exact key _
theorem body_tup {np nl : Nat} {a : E} {ds : List PV} (hl : ds.length = np) : body Pg C ⟨np, nl, .cons (.ret (.bf .tuple false (.cons a .nil))) .nil⟩ ds = M.bnd (ev Pg C (ds.map some ++ List.replicate (nl - np) none) a) fun x => M.bnd (asS x) fun ys => M.ret (.tup ys) := by
  unfold body
  rw [if_pos hl]
  funext s
  simp only [exs, ex, ev, evs]
  generalize ev Pg C (ds.map some ++ List.replicate (nl - np) none) a = m
  unfold M.bnd M.ret
  cases m s with
  | ok x s1 =>
    simp only [bfV]
    unfold M.bnd M.ret
    cases asS x s1 <;> rfl
  | exc c v s1 => rfl
  | bad => rfl
theorem def_runF {n : Nat} {f : Addr} {name qual : Str} {params : Arguments} {bodyE : List Stmt} {scope : Scope} {dV kV doc pm cdv ct oc : Value} {an od : Option Addr} {osl : Array (Option Value)} {N ps : List Str} {np nl : Nat} {own : List Nat} {g : Tg} {it : It} {oc' : OT} {e : E} {lamb : Bool}
    (lk : K.lookup f = some ⟨oc, od, .func (PySem.W.fnOf name qual params bodyE scope dV kV doc pm an cdv ct), osl⟩) (hcd : PySem.W.codeIn K cdv qual = true) (S : FnScope N ps scope) (hnp : np = ps.length) (hnl : nl = N.length)
    (hck : chkSs D (bodyZ N scope qual lamb) (.cons (.ret (.bf .tuple false (.cons (.lc false own g it oc' e) .nil))) .nil) bodyE = true) (htab : lamb = true → TabT D base mg cdv qual) (hF : FactsA D Pg C R n P w K mg base) :
    FnF P w K mg base R (n + 2) f (PySem.W.fnOf name qual params bodyE scope dV kV doc pm an cdv ct) ps (body Pg C ⟨np, nl, .cons (.ret (.bf .tuple false (.cons (.lc false own g it oc' e) .nil))) .nil⟩) := by
  refine ⟨fun hid A outer s H args us vs ds φ st Q E hr e0 hb r hl S0 T0 x0 p => ?_⟩
  have hvl : vs.length = ps.length := by rw [← x0.length]; exact hl
  refine LamX.run_ofS lk hcd S hr e0 hb r hvl fun hr' => ?_
  have c := ctx_body (D := D) (P := P) (w := w) (K := K) (E := E) (outer := outer) (H := H) S htab hr'
  have F := (hF (cxOf (L2.CX P w) P w K mg base N qual scope f cdv A outer s H E) rfl rfl rfl rfl rfl).h (hid := hid)
  have hb0 : body Pg C ⟨np, nl, .cons (.ret (.bf .tuple false (.cons (.lc false own g it oc' e) .nil))) .nil⟩ ds = M.bnd (ev Pg C (ds.map some ++ List.replicate (nl - np) none) (.lc false own g it oc' e)) fun x => M.bnd (asL x) fun ys => M.ret (.tup ys) := by
    have h1 : body Pg C ⟨np, nl, .cons (.ret (.bf .tuple false (.cons (.lc false own g it oc' e) .nil))) .nil⟩ ds = M.bnd (ev Pg C (ds.map some ++ List.replicate (nl - np) none) (.lc false own g it oc' e)) fun x => M.bnd (asS x) fun ys => M.ret (.tup ys) := by
      exact body_tup (by rw [hnp]; exact hl)
    rw [h1]
    exact lc_lst fun xs => rfl
  rw [hb0] at p
  unfold chkSs at hck
  split at hck
  · rename_i x1 xs1
    rw [Bool.and_eq_true] at hck
    obtain ⟨k1, k2⟩ := hck
    unfold chkSs at k2
    split at k2
    · unfold chkS at k1
      split at k1
      · rename_i v1 p1
        unfold chkE at k1
        split at k1
        · rename_i x2 p2 y2 xs2 p3
          simp only [Bool.and_eq_true, decide_eq_true_eq] at k1
          obtain ⟨⟨⟨q1, q2⟩, q3⟩, q4⟩ := k1
          unfold chkEs at q4
          rw [Bool.and_eq_true, Bool.and_eq_true] at q4
          obtain ⟨⟨q5, q6⟩, q7⟩ := q4
          unfold chkEs at q7
          split at q7
          · obtain ⟨hg, hm, hn⟩ := F.bltn c q2
            obtain rfl : (("tuple" : Str)) = x2 := Option.some.inj q1
            have s1 := star_cons (es := []) (env := (cxOf (L2.CX P w) P w K mg base N qual scope f cdv A outer s H E).env) q5
            refine ⟨_, pss_cons (ps_ret (s_tupleF F.hK hg hm (by decide +kernel) (okN_3 hn) (okN_1 hn) s1 (okE (n := n) _ c F q6))) pss_nil, ?_⟩
            exact ⟨φ, st, _, S0, start_rep (d := ⟨np, nl, .nil⟩) hnp hnl hvl x0, T0, p⟩
          · cases q7
        · cases k1
      · cases k1
    · cases k2
  · cases hck
structure LamT (D : Dt) (Pg : Prog) (k : Nat) (L : LamD) : Prop where
  ex : ∃ (l : Lam) (N ps : List Str), Pg.lams.lookup k = some l ∧ l.np = ps.length ∧ l.nl = N.length ∧ L.fr.length = l.caps.length ∧ NdefX.NScope N ps L.fr L.scope ∧
    (∀ (cl : List (Str × Addr)) (pm cv ctv : Value) (us : List Value), us.length = ps.length → bindArgs (PySem.W.kla_fn "<lambda>" L.qual L.params L.body L.scope cl pm cv ctv) ⟨us, []⟩ = pure (ps.zip us)) ∧ chkE (noLam D) (lamZ N L.scope L.qual) l.body L.body = true
theorem ctx_lam {n : Nat} {N ps : List Str} {L : LamD} {cl : List (Str × Addr)} {c f : Addr} {A : Around} {outer : List PySem.Env} {s : Shared} {H : Hp} {E : XK} (S : NdefX.NScope N ps L.fr L.scope) (hr : Room (n + 1) (A.deeper (NdefX.envF (nfOf L cl c) f s.heap.objs.size))) :
    Ctx D (lamZ N L.scope L.qual) n (lcx P w K mg base N L cl c f A outer s H E) (fun c d _ H => E c d H) where
  N := rfl
  sc := rfl
  nd := S.nd
  calm := rfl
  room := hr
  ex := fun _ => rfl
  fnc := fun _ h => by cases h
  tk := takes_of rfl rfl rfl rfl
  qual := rfl
  tab := fun h => by cases h
  cf := fun h => by cases h
  po := passes_of rfl
theorem lam_run {n : Nat} {C' : Nat → List PV → List PV → M PV} (hC : ∀ k cs args, C' k cs args = (match Pg.lams.lookup k with
      | some l => lamBody Pg C l cs args
      | none => M.bad)) (hL : ∀ k L, R.lam k L → LamT D Pg k L) (hF : FactsA D Pg C R n P w K mg base) : CloM P w K mg base R (n + 2) C' := by
  intro hid kk f A outer s H φ st vs avs cs ds us Q E hr e0 Cl xc rv xa S0 T0 p
  obtain ⟨L0, cl0, c0, pm0, ctv0, h1, _, _, _, _, _, _, h8⟩ := Cl
  have Cl : CloAt (R.h hid) ⟨s.heap, H, frs outer⟩ φ H f kk vs := ⟨L0, cl0, c0, pm0, ctv0, h1, by assumption, by assumption, by assumption, by assumption, by assumption, by assumption, h8⟩
  obtain ⟨l, N, ps, g1, g2, g3, g4, g5, g6, g7⟩ := (hL kk L0 h1).ex
  have e1 : C' kk cs ds = lamBody Pg C l cs ds := by rw [hC, g1]
  rw [e1] at p
  unfold lamBody at p
  by_cases hz : ds.length = l.np ∧ cs.length = l.caps.length
  · rw [if_pos hz] at p
    refine clo_run (np := l.np) (nl := l.nl) (nc := l.caps.length) (k := kk) (mb := fun ρ => ev Pg C ρ l.body) (n := n + 1) (fun L hL' => ?_) hr e0 Cl xc rv xa hz.1 S0 T0 p
    obtain ⟨l', N', ps', q1, q2, q3, q4, q5, q6, q7⟩ := (hL kk L hL').ex
    rw [g1] at q1
    cases q1
    exact ⟨N', ps', q2.symm, q3.symm, q4, q5, q6, fun cl c f A outer s H E hr' hcf => okE (n := n) l.body (ctx_lam (D := noLam D) q5 hr') ((hF (lcx P w K mg base N' L cl c f A outer s H E) rfl rfl rfl rfl rfl).noLam.h (hid := hid)) q7⟩
  · rw [if_neg hz] at p
    exact p.elim
theorem bad_fnm {k : Nat} {f : Addr} {fd : FuncData} {ps : List Str} : FnM P w K mg base R k f fd ps (fun _ => M.bad) := ⟨fun hid A outer s H args us vs ds φ st Q E hr e0 hb r hl S0 T0 x0 p => p.elim⟩
theorem bad_clo {k : Nat} : CloM P w K mg base R k (fun _ _ _ => M.bad) := fun hid kk f A outer s H φ st vs avs cs ds us Q E hr e0 Cl xc rv xa S0 T0 p => p.elim
structure DefG (D : Dt) (Pg : Prog) (K : PySem.W.Frag) (mg : Str → Option Value) (base : Heap) (k : Nat) (f : Addr) (fd : FuncData) (ps : List Str) : Prop where
  ex : ∃ (name qual : Str) (params : Arguments) (bodyE : List Stmt) (scope : Scope) (dV kV doc pm cdv ct oc : Value) (an od : Option Addr) (osl : Array (Option Value)) (N : List Str) (d : Def) (lamb : Bool),
    fd = PySem.W.fnOf name qual params bodyE scope dV kV doc pm an cdv ct ∧ K.lookup f = some ⟨oc, od, .func (PySem.W.fnOf name qual params bodyE scope dV kV doc pm an cdv ct), osl⟩ ∧ PySem.W.codeIn K cdv qual = true ∧ FnScope N ps scope ∧ Pg.defs.lookup k = some d ∧ d.np = ps.length ∧ d.nl = N.length ∧
    chkSs D (bodyZ N scope qual lamb) d.body bodyE = true ∧ (lamb = true → TabT D base mg cdv qual)
def friB (Pg : Prog) (k : Nat) : Bool := match Pg.defs.lookup k with
  | some ⟨_, _, .cons (.ret (.bf .tuple false (.cons (.lc false _ _ _ _ _) .nil))) .nil⟩ => true
  | _ => false
theorem friB_ok {k : Nat} (h : friB Pg k = true) : ∃ np nl own g it c e, Pg.defs.lookup k = some ⟨np, nl, .cons (.ret (.bf .tuple false (.cons (.lc false own g it c e) .nil))) .nil⟩ := by
  unfold friB at h
  split at h
  · rename_i q
    exact ⟨_, _, _, _, _, _, _, q⟩
  · cases h
structure Stat (D : Dt) (Pg : Prog) (R : Rc) (P : Program) (w : World) (K : PySem.W.Frag) (mg : Str → Option Value) (base : Heap) : Prop where
  hK : R.K = K
  cts : R.cts = Pg.cts
  fld : R.fld = D.fld
  clsI : D.clsI = Pg.cls
  tabs : R.tabs = D.tabs
  lam : ∀ k L, D.lm k L = true → R.lam k L
  caps : ∀ k js, D.caps.lookup k = some js → ∃ l, Pg.lams.lookup k = some l ∧ l.caps = js
  lamT : ∀ k L, R.lam k L → LamT D Pg k L
  defn : ∀ x k, D.defn.lookup x = some k → ∃ (f : Addr) (fd : FuncData) (ps : List Str) (dvs : List V) (dds : List Value), mg x = some (.ref f) ∧ PySem.W.keepIn K (.ref f) = true ∧ DefG D Pg K mg base k f fd ps ∧
    Vals dvs dds ∧ (∀ hid φ H, RepL (R.h hid) φ H ((D.dfl.lookup k).getD []) dvs) ∧ (∀ j, Binds K fd ps (dds.drop j)) ∧ ∀ q ∈ D.kwt, q.1 = x → KwB K fd ps 0 q.2.1 q.2.2
  fri : ∀ k, D.fri.contains k = true → friB Pg k = true ∧ (D.dfl.lookup k).getD [] = []
  glob : ∀ x g, D.glob.lookup x = some g → ∃ d v u, Pg.globs.lookup g = some d ∧ mg x = some u ∧ RelV v u ∧ ∀ hid φ H, RepV (R.h hid) φ H d v
  blt : ∀ x, D.blt.contains x = true → mg x = none
  mkc : ∀ x c, D.cls.lookup x = some c → mg x = some (.ref (R.cad c)) ∧ ∃ k f fd ps, Pg.cls.lookup c = some k ∧ Mk K (R.cad c) f ∧ DefG D Pg K mg base k f fd ps ∧ Binds K fd ps [] ∧ ∀ q ∈ D.kwc, q.1 = x → KwB K fd ps 1 q.2.1 (0 :: q.2.2.map (· + 1))
  cls : ClsOk R Pg.flds
  prop : ∀ c g j, Pg.props.lookup (c, g) = some j → ∃ (p f : Addr) (fd : FuncData) (ps : List Str), Cls K (R.cad c) ∧ PropOf K (R.cad c) (R.fnm g) p f ∧ DefG D Pg K mg base j f fd ps ∧ Binds K fd ps [] ∧ ps.length = 1
  isa : ∀ n ∈ ["int", "bool", "str", "tuple", "list", "dict"], ∀ t, tyOfN n = some t → IsaF R Pg.cls t (.type n)
  isaO : ∀ x c, D.cls.lookup x = some c → IsaF R Pg.cls (.own c) (.ref (R.cad c))
  eqf : ∀ c k, Pg.eqs.lookup c = some k → ∃ (f : Addr) (fd : FuncData) (ps : List Str), PySem.W.findIn K (.ref (R.cad c)) "__eq__" = some (some (.ref f)) ∧ PySem.W.isFn K (.ref f) = true ∧ PySem.W.findIn K (.ref (R.cad c)) "__ne__" = some (some (.builtin "object.__ne__")) ∧ PySem.W.mroIn K (R.cad c) (.type "object") = some true ∧
    PySem.W.notFirst K (R.cad c) (.type "tuple") = true ∧ DefG D Pg K mg base k f fd ps ∧ Binds K fd ps []
  xcl : XclOk R
  exm : ∀ x c f, D.exm.lookup x = some (c, f) → ExmF P K mg R x c f
  exm0 : ∀ x c, D.exm0.lookup x = some c → ExmF0 K mg R x c
  xtyB : ∀ x cs, D.xty.lookup x = some (true, cs) → ∃ n : String, bootBuiltins x = some (.type n) ∧ IsaF R Pg.cls (.xc cs) (.type n)
  xtyO : ∀ x cs, D.xty.lookup x = some (false, cs) → ∃ a : Addr, mg x = some (.ref a) ∧ IsaF R Pg.cls (.xc cs) (.ref a)
theorem fnm_of {m : Nat} {k : Nat} {f : Addr} {fd : FuncData} {ps : List Str} (G : DefG D Pg K mg base k f fd ps) (hF : ∀ j, j + 1 = m → FactsA D Pg (runs Pg j) R j P w K mg base) :
    FnM P w K mg base R (m + 1) f fd ps ((runs Pg m).def_ k) ∧ ∀ ds st, (runs Pg m).def_ k ds st ≠ .bad → ds.length = ps.length := by
  obtain ⟨name, qual, params, bodyE, scope, dV, kV, doc, pm, cdv, ct, oc, an, od, osl, N, d, lamb, rfl, h1, h2, h3, h4, h5, h6, h7, h8⟩ := G.ex
  cases m with
  | zero => exact ⟨bad_fnm, fun ds st h => absurd rfl h⟩
  | succ m =>
    have e : (runs Pg (m + 1)).def_ k = body Pg (runs Pg m) d := by
      funext args
      show (match Pg.defs.lookup k with
        | some d => body Pg (runs Pg m) d args
        | none => M.bad) = _
      rw [h4]
    rw [e]
    refine ⟨def_run h1 h2 h3 h5 h6 h7 h8 (hF m rfl), fun ds st h => ?_⟩
    unfold body at h
    by_cases hl : ds.length = d.np
    · rw [← h5]; exact hl
    · rw [if_neg hl] at h
      exact absurd rfl h
theorem fnf_of {m : Nat} {k : Nat} {f : Addr} {fd : FuncData} {ps : List Str} (G : DefG D Pg K mg base k f fd ps) (hk : friB Pg k = true) (hF : ∀ j, j + 1 = m → FactsA D Pg (runs Pg j) R j P w K mg base) :
    FnF P w K mg base R (m + 1) f fd ps ((runs Pg m).def_ k) := by
  obtain ⟨name, qual, params, bodyE, scope, dV, kV, doc, pm, cdv, ct, oc, an, od, osl, N, d, lamb, rfl, h1, h2, h3, h4, h5, h6, h7, h8⟩ := G.ex
  obtain ⟨np, nl, own, g, it, c, e, q⟩ := friB_ok hk
  rw [h4] at q
  cases q
  cases m with
  | zero => exact ⟨fun hid A outer s H args us vs ds φ st Q E hr e0 hb r hl S0 T0 x0 p => p.elim⟩
  | succ m =>
    have e : (runs Pg (m + 1)).def_ k = body Pg (runs Pg m) ⟨np, nl, .cons (.ret (.bf .tuple false (.cons (.lc false own g it c e) .nil))) .nil⟩ := by
      funext args
      show (match Pg.defs.lookup k with
        | some d => body Pg (runs Pg m) d args
        | none => M.bad) = _
      rw [h4]
    rw [e]
    exact def_runF h1 h2 h3 h5 h6 h7 h8 (hF m rfl)
theorem facts_step (Z : Stat D Pg R P w K mg base) {m : Nat} (hF : ∀ j, j < m → FactsA D Pg (runs Pg j) R j P w K mg base) : FactsA D Pg (runs Pg m) R m P w K mg base := by
  intro X e1 e2 e3 e4 e5
  subst e1 e2 e3 e4 e5
  refine ⟨Z.hK, Z.cts, Z.fld, Z.clsI, Z.tabs, Z.lam, Z.caps, fun x k h => ?_, fun x k h h' => ?_, Z.glob, Z.blt, fun x c h => ?_, ?_, Z.cls, fun c g j h => ?_, Z.isa, Z.isaO, fun c k h => ?_, Z.xcl, Z.exm, Z.exm0, Z.xtyB, Z.xtyO⟩
  · obtain ⟨f, fd, ps, dvs, dds, h1, h2, h3, h4, h5, h6, h7⟩ := Z.defn x k h
    obtain ⟨q1, q2⟩ := fnm_of (P := X.prog) (w := X.w) (R := R) (m := m) h3 fun j hj => hF j (by omega)
    exact ⟨f, fd, ps, dvs, dds, h1, h2, q1, q2, h4, h5, h6, h7⟩
  · obtain ⟨f, fd, ps, dvs, dds, h1, h2, h3, h4, h5, h6, h7⟩ := Z.defn x k h
    obtain ⟨k1, k2⟩ := Z.fri k h'
    have q2 := (fnm_of (P := X.prog) (w := X.w) (R := R) (m := m) h3 fun j hj => hF j (by omega)).2
    refine ⟨f, fd, ps, h1, h2, fnf_of (m := m) h3 k1 fun j hj => hF j (by omega), q2, ?_⟩
    have := h6 dds.length
    rw [List.drop_length] at this
    exact this
  · obtain ⟨h1, k, f, fd, ps, h2, h3, h4, h5, h6⟩ := Z.mkc x c h
    refine ⟨h1, f, fd, ps, ?_⟩
    cases m with
    | zero => exact ⟨fun _ => M.bad, h3, bad_fnm, fun ds st h => absurd rfl h, h5, rfl, h6⟩
    | succ m =>
      obtain ⟨q1, q2⟩ := fnm_of (P := X.prog) (w := X.w) (R := R) (m := m) h4 fun j hj => hF j (by omega)
      refine ⟨(runs Pg m).def_ k, h3, q1, q2, h5, ?_, h6⟩
      funext args
      show (match Pg.cls.lookup c with
        | some k => mkM ((runs Pg m).def_ k) c args
        | none => M.bad) = _
      rw [h2]
  · cases m with
    | zero => exact bad_clo
    | succ m => exact lam_run (C := runs Pg m) (fun k cs args => rfl) Z.lamT (hF m (Nat.lt_succ_self m))
  · obtain ⟨p, f, fd, ps, h1, h2, h3, h4, h5⟩ := Z.prop c g j h
    cases m with
    | zero => exact ⟨p, f, fd, ps, h1, h2, bad_fnm, h4, h5⟩
    | succ m =>
      obtain ⟨q1, q2⟩ := fnm_of (P := X.prog) (w := X.w) (R := R) (m := m) h3 fun j hj => hF j (by omega)
      exact ⟨p, f, fd, ps, h1, h2, q1, h4, h5⟩
  · obtain ⟨f, fd, ps, h1, h2, h3, h4, h5, h6, h7⟩ := Z.eqf c k h
    cases m with
    | zero => exact ⟨f, fd, ps, h1, h2, h3, h4, h5, bad_fnm, h7, fun ds st z => absurd rfl z⟩
    | succ m =>
      obtain ⟨q1, q2⟩ := fnm_of (P := X.prog) (w := X.w) (R := R) (m := m) h6 fun j hj => hF j (by omega)
      exact ⟨f, fd, ps, h1, h2, h3, h4, h5, q1, h7, q2⟩
theorem facts_all (Z : Stat D Pg R P w K mg base) (m : Nat) : FactsA D Pg (runs Pg m) R m P w K mg base := by
  induction m using Nat.strongRecOn with
  | ind m ih => exact facts_step Z ih
theorem def_all (Z : Stat D Pg R P w K mg base) (m : Nat) {k : Nat} {f : Addr} {fd : FuncData} {ps : List Str} (G : DefG D Pg K mg base k f fd ps) : FnM P w K mg base R (m + 1) f fd ps ((runs Pg m).def_ k) :=
  (fnm_of G fun j _ => facts_all Z j).1
end
end Mp
namespace Mp
open PySem PySem.Spec PyProof.Rows L2 He
theorem oxB_ok {K : PySem.W.Frag} {C : Addr} (q : oxB K C = true) : ∃ nm q N bs bm sn sub ab col dd k0 k1 k2 k3 k5, K.lookup C = some (excClassObj nm q C N bs bm true sn sub ab col dd k0 k1 k2 k3 k5 "ValueError.__new__") ∧ PySem.HandSPX.refsVE bm = true ∧ PySem.W.alongIn K "__init__" bm = some (some (.builtin "ValueError.__init__")) := by
  unfold oxB at q
  split at q
  · rename_i dd cd sl ho
    split at q
    · rename_i C' bm k0 k1 k2 k3 n k5 hm hs
      simp only [Bool.and_eq_true, beq_iff_eq, Bool.not_eq_true', decide_eq_true_eq] at q
      obtain ⟨⟨⟨⟨⟨rfl, rfl⟩, hdel⟩, hdc⟩, ht⟩, ha⟩ := q
      obtain ⟨nm, bs, mro, ns, qn, hd, sn, sub, ab, col, del⟩ := cd
      dsimp only at hm hdel hdc
      subst hm hdel hdc
      have hsl : sl = #[k0, k1, k2, k3, some (.builtin "ValueError.__new__"), k5] := by
        obtain ⟨l⟩ := sl
        simp only at hs
        rw [hs]
      subst hsl
      exact ⟨nm, qn, ns, bs, bm, sn, sub, ab, col, dd, k0, k1, k2, k3, k5, ho, ht, ha⟩
    · cases q
  · cases q
theorem xclB_ok {K : PySem.W.Frag} {C : Addr} (h : xclB K C = true) : XcF K C := by
  obtain ⟨h1, h⟩ := ba h
  obtain ⟨h2, h⟩ := ba h
  obtain ⟨h3, h⟩ := ba h
  obtain ⟨h4, h⟩ := ba h
  obtain ⟨h5, h⟩ := ba h
  obtain ⟨h6, h⟩ := ba h
  obtain ⟨h7, h⟩ := ba h
  obtain ⟨h8, h9⟩ := ba h
  have xf := xfB_ok h5
  obtain ⟨nm, q, N, bs, bm, sn, sub, ab, col, dd, k0, k1, k2, k3, k5, e1, e2, e3⟩ := oxB_ok h1
  exact ⟨⟨⟨nm, q, N, bs, bm, sn, sub, ab, col, dd, k0, k1, k2, k3, k5, e1, e2⟩, of_decide_eq_true h2, xf.exC, of_decide_eq_true h3, h4⟩, xf, ⟨xf.ga, xf.gg, xf.exC, xf.hdC, of_decide_eq_true h6, of_decide_eq_true h7, of_decide_eq_true h8, of_decide_eq_true h9⟩⟩
theorem noneV_ok {v : Value} (h : noneV v = true) : v = .none := by
  cases v with
  | none => rfl
  | _ => cases h
theorem shB_ok {f : Str} {b : List Stmt} (h : shB f b = true) : ∃ p0 p1 p2 p3 p4 q0 q1 q2 q3, b = PySem.W.xiBody f f p0 p1 p2 p3 p4 q0 q1 q2 q3 ∧ (p2.endLine == p3.line) = true := by
  unfold shB at h
  split at h
  · simp only [Bool.and_eq_true] at h
    obtain ⟨⟨⟨⟨⟨h1, h2⟩, h3⟩, h4⟩, h5⟩, h6⟩ := h
    cases eq_of_beq h1
    cases eq_of_beq h2
    cases eq_of_beq h3
    cases eq_of_beq h4
    cases eq_of_beq h5
    exact ⟨_, _, _, _, _, _, _, _, _, rfl, h6⟩
  · cases h
theorem methEq_of {o : Expr} {name : Str} {ap cp : Pos} (h : (ap.endLine == cp.line) = true) : PySem.W.MethEq o name ap cp := by
  intro env
  refine ⟨do return (← importBound o env).getD true, ?_⟩
  have e : methodCallForm (([] : List Expr).length + ([] : List Keyword).length) (backTo cp (starEach [] env)) (backToKw cp (keywordEach [] env)) = true := rfl
  simp only [eval, methodCall, methodCallPos, e, h, calleeOf, Bool.not_true, Bool.false_or, if_true, pure_bind]
  rfl
theorem xiC_of {prog : Program} {K : PySem.W.Frag} {x f q : Str} {a : Arguments} {b : List Stmt} {sc : Scope} (hw : xiW K x = (some (("__init__" : Str), q, a, FuncBody.stmts b, sc, mainGlobals, [("__class__" : Str)], builtinsNs) : XiW)) (ha : shA f a = true) (h0 : xclB K (He.ga K x) = true) (h1 : xiB K prog.main.file (He.ga K x) (He.ma K (He.ga K x) "__init__") = true) (h2 : xi2B K (He.ga K x) (He.ma K (He.ga K x) "__init__") f = true)
    (hb : shB f b = true) (hs : shS f sc = true) (hf : f ≠ "self") (hd : (f == ("__debug__" : Str)) = false) :
    ∃ fd : FuncData, PySem.W.XiC prog K (He.ga K x) (He.ma K (He.ga K x) "__init__") fd f f ∧ ∃ (name qual : Str) (kV doc pm cdv ct : Value) (an : Option Addr) (cc : Addr), fd = PySem.W.ksFn name qual a b sc .none kV doc pm an cdv ct cc := by
  unfold xiW at hw
  cases e : K.lookup (He.ma K (He.ga K x) "__init__") with
  | none => rw [e] at hw; cases hw
  | some o =>
    obtain ⟨oc, od, dt, osl⟩ := o
    rw [e] at hw
    cases dt with
    | func fd =>
      obtain ⟨n1, n2, n3, n4, n5, n6, n7, n8, n9, n10, n11, n12, n13, n14, n15⟩ := fd
      have e2 : (some (n1, n2, n3, n4, n5, n6, n7.map (·.1), n15) : XiW) = some (("__init__" : Str), q, a, FuncBody.stmts b, sc, mainGlobals, [("__class__" : Str)], builtinsNs) := hw
      simp only [Option.some.injEq, Prod.mk.injEq] at e2
      obtain ⟨g1, g2, g3, g4, g5, g6, g7, g8⟩ := e2
      subst g1 g2 g3 g4 g5 g6 g8
      unfold xiB at h1
      rw [e] at h1
      simp only at h1
      split at h1
      · rename_i _ _ nm cc cda
        have g7 : nm = ("__class__" : Str) := by simpa using g7
        subst g7
        simp only [Bool.and_eq_true] at h1
        obtain ⟨⟨⟨c1, c2⟩, c3⟩, c4⟩ := h1
        have c4 := noneV_ok c4
        subst c4
        cases e3 : K.lookup cda with
        | none => rw [e3] at c2; cases c2
        | some o3 =>
          obtain ⟨oc3, od3, dt3, osl3⟩ := o3
          rw [e3] at c2
          cases dt3 with
          | fields vs =>
            simp only at c2
            cases e4 : (vs[2]? : Option Value) with
            | none => rw [e4] at c2; cases c2
            | some v =>
              rw [e4] at c2
              cases v with
              | str fl tf =>
                simp only at c2
                cases e5 : K.lookup cc with
                | none => rw [e5] at c3; cases c3
                | some o5 =>
                  obtain ⟨oc5, od5, dt5, osl5⟩ := o5
                  rw [e5] at c3
                  cases dt5 with
                  | cell vv =>
                    cases vv with
                    | none => cases c3
                    | some w =>
                      cases w with
                      | ref C' =>
                        simp only at c3
                        have c3 := eq_of_beq c3
                        subst c3
                        obtain ⟨p0, p1, p2, p3, p4, q0, q1, q2, q3, hbody, hline⟩ := shB_ok hb
                        subst hbody
                        unfold shS at hs
                        simp only [Bool.and_eq_true, decide_eq_true_eq, Bool.not_eq_true', List.all_eq_true, decide_eq_false_iff_not] at hs
                        obtain ⟨⟨⟨⟨⟨⟨⟨s1, s2⟩, s3⟩, s4⟩, s5⟩, s6⟩, s7⟩, s8⟩ := hs
                        unfold xi2B at h2
                        obtain ⟨x1, h2⟩ := ba h2
                        obtain ⟨x2, h2⟩ := ba h2
                        obtain ⟨x3, h2⟩ := ba h2
                        obtain ⟨x4, h2⟩ := ba h2
                        obtain ⟨x5, x6⟩ := ba h2
                        have X := xclB_ok h0
                        obtain ⟨y1, _⟩ := ba h0
                        have ha2 : ∃ ar, (n3.posonlyargs ++ n3.args).head? = some ar ∧ ar.arg = "self" := by
                          unfold shA at ha
                          split at ha
                          · simp only [Bool.and_eq_true] at ha
                            exact ⟨_, rfl, eq_of_beq ha.1⟩
                          · cases ha
                        obtain ⟨ar, a1, a2⟩ := ha2
                        refine ⟨_, ⟨⟨_, _, _, _, _, _, _, _, _, _, _, _, _, _, _, _, _, _, _, cc, cda, ar, vs, fl, tf, p0, p1, p2, p3, p4, q0, q1, q2, q3, rfl, e, c1, a1, a2, e3, e4, c2, e5, s1, s2, s3, s4, s5, s6, s7, s8, hf, hd, methEq_of hline⟩, oxB_ok y1, of_decide_eq_true x1, of_decide_eq_true x2, X.ox.sa, of_decide_eq_true x3, of_decide_eq_true x4, of_decide_eq_true x5, of_decide_eq_true x6⟩, _, _, _, _, _, _, _, _, cc, rfl⟩
                      | _ => cases c3
                  | _ => cases c3
              | _ => cases c2
          | _ => cases c2
      · cases h1
    | _ => cases hw
end Mp
namespace Mp
open PySem PySem.Spec PyProof.Rows L2 He
theorem binds_given {name qual : Str} {a : Arguments} {b : List Stmt} {sc : Scope} {kV doc pm cdv ct : Value} {an : Option Addr} {cc : Addr} (h : shA "given" a = true) (e : Addr) (u : Value) (s : Shared) :
    BindsTo s (PySem.W.ksFn name qual a b sc .none kV doc pm an cdv ct cc) ⟨[.ref e, u], []⟩ [("self", .ref e), ("given", u)] ∧ BindsTo s (PySem.W.ksFn name qual a b sc .none kV doc pm an cdv ct cc) ⟨[.ref e], [("given", u)]⟩ [("self", .ref e), ("given", u)] := by
  unfold shA at h
  split at h
  · simp only [Bool.and_eq_true] at h
    obtain ⟨h1, h2⟩ := h
    cases eq_of_beq h1
    cases eq_of_beq h2
    exact ⟨.of_eq (by rfl), .of_eq (by rfl)⟩
  · cases h
theorem binds_index {name qual : Str} {a : Arguments} {b : List Stmt} {sc : Scope} {kV doc pm cdv ct : Value} {an : Option Addr} {cc : Addr} (h : shA "index" a = true) (e : Addr) (u : Value) (s : Shared) :
    BindsTo s (PySem.W.ksFn name qual a b sc .none kV doc pm an cdv ct cc) ⟨[.ref e, u], []⟩ [("self", .ref e), ("index", u)] ∧ BindsTo s (PySem.W.ksFn name qual a b sc .none kV doc pm an cdv ct cc) ⟨[.ref e], [("index", u)]⟩ [("self", .ref e), ("index", u)] := by
  unfold shA at h
  split at h
  · simp only [Bool.and_eq_true] at h
    obtain ⟨h1, h2⟩ := h
    cases eq_of_beq h1
    cases eq_of_beq h2
    exact ⟨.of_eq (by rfl), .of_eq (by rfl)⟩
  · cases h
theorem exmF_of {prog : Program} {K : PySem.W.Frag} {mg : Str → Option Value} {R : Rc} {x nm : Str} {c f i : Nat} (hmem : c ∈ R.xcl) (hcad : R.cad c = He.ga K x) (hgm : mg x = some (.ref (He.ga K x))) (hsu : mg "super" = none) (htop : (prog.main.scope.names.lookup ("super" : Str)).isSome = false) (hfl : R.fld.lookup f = some nm) (hg : gix nm = true)
    (hw : xiW K x = xiVal prog x i) (h0 : xclB K (He.ga K x) = true) (h1 : xiB K prog.main.file (He.ga K x) (He.ma K (He.ga K x) "__init__") = true) (h2 : xi2B K (He.ga K x) (He.ma K (He.ga K x) "__init__") nm = true)
    (ha : shA nm (defArgs (iniOf (topS prog i))) = true) (hb : shB nm (defBody (iniOf (topS prog i))) = true) (hs : shS nm (defScope (iniOf (topS prog i))) = true) : ExmF prog K mg R x c f := by
  have hn : nm ≠ "self" ∧ (nm == ("__debug__" : Str)) = false := by
    unfold gix at hg
    rw [Bool.or_eq_true] at hg
    rcases hg with hg | hg
    · cases eq_of_beq hg
      decide
    · cases eq_of_beq hg
      decide
  obtain ⟨fd, T, name, qual, kV, doc, pm, cdv, ct, an, cc, rfl⟩ := xiC_of hw ha h0 h1 h2 hb hs hn.1 hn.2
  refine ⟨hmem, by rw [hcad]; exact hgm, by rw [hcad]; exact (xclB_ok h0).ox.kC, hsu, htop, _, _, nm, nm, hfl, by rw [hcad]; exact T, ?_, ?_⟩
  · intro e u s
    unfold gix at hg
    rw [Bool.or_eq_true] at hg
    rcases hg with hg | hg
    · cases eq_of_beq hg
      exact (binds_given ha e u s).1
    · cases eq_of_beq hg
      exact (binds_index ha e u s).1
  · intro e u s
    unfold gix at hg
    rw [Bool.or_eq_true] at hg
    rcases hg with hg | hg
    · cases eq_of_beq hg
      exact (binds_given ha e u s).2
    · cases eq_of_beq hg
      exact (binds_index ha e u s).2
theorem kitBs_ok {K : PySem.W.Frag} {as : List Addr} {u : Value} {cs : List Nat} (h : kitBs K as u cs = true) : (∀ (c : Nat) (a : Addr), as[c]? = some a → PySem.W.kitOne K (.ref a) u = some (decide (c ∈ cs))) ∧ ∀ n ∈ seven, PySem.W.kitOne K (.type n) u = some false := by
  unfold kitBs at h
  obtain ⟨h1, h2⟩ := ba h
  refine ⟨fun c a e => ?_, fun n hn => of_decide_eq_true (List.all_eq_true.mp h2 n hn)⟩
  have m : (a, c) ∈ as.zipIdx := by
    rw [List.mem_zipIdx_iff_getElem?]
    exact e
  exact of_decide_eq_true (List.all_eq_true.mp h1 (a, c) m)
theorem isaX_of {R : Rc} {cl : List (Nat × Nat)} {u : Value} {cs : List Nat} {as : List Addr} (hcl : cl = []) (hc : ∀ c ∈ R.xcl, as[c]? = some (R.cad c)) (h : kitBs R.K as u cs = true) : IsaF R cl (.xc cs) u := by
  obtain ⟨h1, h2⟩ := kitBs_ok h
  subst hcl
  refine ⟨fun n hn => h2 n hn, (fun c z => by cases z), fun cs' e c m => ?_⟩
  cases e
  exact h1 c _ (hc c m)
theorem isaT_of {R : Rc} {cl : List (Nat × Nat)} (hcl : cl = []) : ∀ n ∈ ["int", "bool", "str", "tuple", "list", "dict"], ∀ t, tyOfN n = some t → IsaF R cl t (.type n) := by
  subst hcl
  intro n hn t ht
  refine ⟨fun m hm => ?_, (fun c z => by cases z), fun cs e => ?_⟩
  · have key : ∀ n ∈ ["int", "bool", "str", "tuple", "list", "dict"], ∀ m ∈ ["NoneType", "bool", "int", "str", "tuple", "list", "dict"], (tyOfN n).map (fun t => kitB m n = some (tyAns t m)) = some (kitB m n = some ((((tyOfN n).map fun t => tyAns t m)).getD false)) := by
      intro n hn m hm
      cases q : tyOfN n with
      | none => simp [tyOfN] at q hn; rcases hn with rfl | rfl | rfl | rfl | rfl | rfl <;> simp at q
      | some t => rfl
    have k2 : (["int", "bool", "str", "tuple", "list", "dict"].all fun n => ["NoneType", "bool", "int", "str", "tuple", "list", "dict"].all fun m => decide (kitB m n = some ((((tyOfN n).map fun t => tyAns t m)).getD false))) = true := by decide +kernel
    have k3 := of_decide_eq_true (List.all_eq_true.mp (List.all_eq_true.mp k2 n hn) m hm)
    rw [ht] at k3
    exact kit_ty k3
  · subst e
    simp [tyOfN] at ht hn
    rcases hn with rfl | rfl | rfl | rfl | rfl | rfl <;> simp at ht
theorem defG_of {D : Dt} {Pg : Prog} {K : PySem.W.Frag} {mg : Str → Option Value} {base : Heap} {x q : Str} {params : Arguments} {bodyE : List Stmt} {scope : Scope} {dvs : List V} {kws : List (Str × V)} {f : Addr} {fd : FuncData} {N ps : List Str} {k : Nat} {df : Def} {lamb : Bool} (F : FunD K x q params bodyE scope dvs kws f fd)
    (S : FnScope N ps scope) (hd : Pg.defs.lookup k = some df) (hp : df.np = ps.length) (hl : df.nl = N.length) (hck : chkSs D (bodyZ N scope q lamb) df.body bodyE = true) (ht : ∀ cdv, lamb = true → TabT D base mg cdv q) : DefG D Pg K mg base k f fd ps := by
  obtain ⟨oc, od, dV, kV, doc, pm, an, cdv, ct, osl, rfl, h1, h2, _, _⟩ := F.ex
  exact ⟨x, q, params, bodyE, scope, dV, kV, doc, pm, cdv, ct, oc, an, od, osl, N, df, lamb, rfl, h1, h2, S, hd, hp, hl, hck, ht cdv⟩
def plainP (ps : List Str) : Arguments → Bool
  | ⟨[], as, none, [], [], none, []⟩ => decide (as.map (·.arg) = ps)
  | _ => false
theorem fn0 {P : Program} {w : World} {K : PySem.W.Frag} {mg : Str → Option Value} {base : Heap} {k : Nat} {f : Addr} {fd : FuncData} {ps : List Str} {sp : Sp} (F : FnOk P w K mg base (L2.CX P w) k f fd ps sp) : FnOk P w K mg base (fun _ _ _ _ _ _ => False) k f fd ps (fun vs H Q _ => sp vs H Q fun _ _ _ => False) := by
  refine ⟨fun vs H Q E h => F.len vs H Q _ h, fun A outer s H args us vs Q E hr e0 hb r h => codeAny_mono (F.run A outer s H args us vs Q _ hr e0 hb r h) fun r s' hq => ?_⟩
  cases r with
  | error e =>
    obtain ⟨_, _, _, _, _, _, _, _, _, _, _, _, z⟩ := hq
    exact z.elim
  | ok fl =>
    cases fl with
    | ret u => exact hq
    | next => exact hq
    | brk => exact hq
    | cont => exact hq
end Mp
namespace Mp
open PySem PySem.Spec PyProof.Rows L2 He
theorem emptyT_ok {K : PySem.W.Frag} {P : Addr} (h : emptyT K P = true) : K.lookup P = some { cls := .none, data := .fields #[] } := by
  unfold emptyT at h
  split at h
  · assumption
  · cases h
theorem cut_lookup {ps : List Addr} {a : Addr} : ∀ {K : PySem.W.Frag}, (cutK K ps).lookup a = if ps.contains a then none else K.lookup a
  | [] => by
    show none = _
    split <;> rfl
  | (b, o) :: K => by
    unfold cutK
    rw [List.filter_cons]
    have ih := cut_lookup (ps := ps) (a := a) (K := K)
    unfold cutK at ih
    by_cases hb : ps.contains b = true
    · simp only [hb, Bool.not_true, Bool.false_eq_true, if_false]
      rw [ih, List.lookup_cons]
      by_cases e : a = b
      · subst e
        rw [if_pos hb, if_pos hb]
      · have : (a == b) = false := by simpa using e
        rw [this]
    · have hb' : ps.contains b = false := by simpa using hb
      simp only [hb', Bool.not_false, if_true]
      rw [List.lookup_cons, List.lookup_cons, ih]
      by_cases e : a = b
      · subst e
        simp only [beq_self_eq_true, hb', Bool.false_eq_true, if_false]
      · have : (a == b) = false := by simpa using e
        rw [this]
theorem cut_in {K : PySem.W.Frag} {ps : List Addr} {h : Heap} (X : K.In h) : (cutK K ps).In h := fun b o e => by
  rw [cut_lookup] at e
  split at e
  · cases e
  · exact X b o e
theorem cut_at {K : PySem.W.Frag} {ps : List Addr} {a : Addr} {o : Obj} (e : (cutK K ps).lookup a = some o) : K.lookup a = some o := by
  rw [cut_lookup] at e
  split at e
  · cases e
  · exact e
structure TabIn (ls : LmD) (chk : PySem.W.Frag → Bool) (fn : List (Str × Option Str)) (xs : List Str) (vf : List FnW) (vx : List XiW) (K : PySem.W.Frag) : Prop where
  nd : ((tabs K ls).map (·.2)).Nodup
  tb : ∀ l ∈ ls, tabB K (fAd K l.1) (tabF K (fAd K l.1)) = true
  ob : obsM chk fn xs (cutK K ((tabs K ls).map (·.2))) = (true, vf, vx)
theorem tabIn_of {ls : LmD} {chk : PySem.W.Frag → Bool} {fn : List (Str × Option Str)} {xs : List Str} {vf : List FnW} {vx : List XiW} {K : PySem.W.Frag} (h : obsT ls chk fn xs K = (true, vf, vx)) : TabIn ls chk fn xs vf vx K := by
  unfold obsT at h
  rw [frL_eq, frK_eq] at h
  have h1 := congrArg (fun z : AlM => z.1) h
  obtain ⟨a1, a2⟩ := ba h1
  obtain ⟨a2, a3⟩ := ba a2
  refine ⟨of_decide_eq_true a2, fun l hl => List.all_eq_true.mp a1 l hl, ?_⟩
  have h2 := congrArg (fun z : AlM => z.2) h
  exact Prod.ext a3 h2
section
variable {ls : LmD} {chk : PySem.W.Frag → Bool} {fn : List (Str × Option Str)} {xs : List Str} {vf : List FnW} {vx : List XiW} {K : PySem.W.Frag}
theorem TabIn.heap (T : TabIn ls chk fn xs vf vx K) {h : Heap} (X : K.In h) : (∀ p ∈ tabs K ls, h.get? p.2 = some { cls := .none, data := .fields #[] }) ∧ (∀ p ∈ tabs K ls, (cutK K ((tabs K ls).map (·.2))).lookup p.2 = none) ∧ ∀ p ∈ tabs K ls, PySem.W.CodeHd h p.1 p.2 := by
  refine ⟨fun p hp => ?_, fun p hp => ?_, fun p hp => ?_⟩
  · obtain ⟨l, hl, rfl⟩ := List.mem_map.mp hp
    exact X _ _ (emptyT_ok (ba (ba (T.tb l hl)).2).2)
  · rw [cut_lookup, if_pos (List.contains_iff_mem.mpr (List.mem_map.mpr ⟨p, hp, rfl⟩))]
  · obtain ⟨l, hl, rfl⟩ := List.mem_map.mp hp
    exact PySem.W.codeHd_of_K X (ba (ba (T.tb l hl)).2).1
theorem TabIn.tab (T : TabIn ls chk fn xs vf vx K) {D : Dt} {base : Heap} {mg : Str → Option Value} {p : Str × Option Str} {q : Str} (hD : D.tabs = lamTabs K ls) (hB : ∀ p ∈ tabs K ls, LamX.TabB base mg p.1 p.2) (hl : (p, q) ∈ ls) {oc : Value} {od : Option Addr} {fd : FuncData} {osl : Array (Option Value)}
    (e : (cutK K ((tabs K ls).map (·.2))).lookup (fAd K p) = some ⟨oc, od, .func fd, osl⟩) : TabT D base mg fd.code q := by
  have e0 := cut_at e
  obtain ⟨b1, _⟩ := ba (T.tb _ hl)
  have hm : tabF K (fAd K p) ∈ tabs K ls := List.mem_map.mpr ⟨_, hl, rfl⟩
  unfold codeB at b1
  rw [e0] at b1
  simp only at b1
  cases ec : fd.code with
  | ref c =>
    rw [ec] at b1
    simp only at b1
    have ec2 : c = (tabF K (fAd K p)).1 := eq_of_beq b1
    refine ⟨_, _, hB _ hm, by rw [ec2], ?_, ?_⟩
    · rw [hD]
      exact List.mem_map.mpr ⟨_, hl, rfl⟩
    · intro r hr er
      rw [hD] at hr
      obtain ⟨l2, hl2, rfl⟩ := List.mem_map.mp hr
      have nd := T.nd
      have e2 : (tabF K (fAd K l2.1)).2 = (tabF K (fAd K p)).2 := er
      have key : ∀ (l : LmD), ((l.map fun l => tabF K (fAd K l.1)).map (·.2)).Nodup → ∀ a ∈ l, ∀ b ∈ l, (tabF K (fAd K a.1)).2 = (tabF K (fAd K b.1)).2 → a = b := by
        intro l
        induction l with
        | nil => intro _ a ha; cases ha
        | cons x l ih =>
          intro nd a ha b hb h
          rw [List.map_cons, List.map_cons, List.nodup_cons] at nd
          rcases List.mem_cons.mp ha with rfl | ha'
          · rcases List.mem_cons.mp hb with rfl | hb'
            · rfl
            · exact absurd (by rw [h]; exact List.mem_map.mpr ⟨_, List.mem_map.mpr ⟨b, hb', rfl⟩, rfl⟩) nd.1
          · rcases List.mem_cons.mp hb with rfl | hb'
            · exact absurd (by rw [← h]; exact List.mem_map.mpr ⟨_, List.mem_map.mpr ⟨a, ha', rfl⟩, rfl⟩) nd.1
            · exact ih nd.2 a ha' b hb' h
      have := key ls nd l2 hl2 _ hl e2
      rw [this]
  | _ => rw [ec] at b1; cases b1
end
def LawAtE (l : PySem.W.OpenLaw) (w : World) (CX : CXT) (k n : Nat) (x : Str) (mg : Str → Option Value) (fa : Addr) (h : Heap) : Prop :=
  ∃ (K : PySem.W.Frag) (fd : FuncData) (cs : List (Addr × Addr)) (sp : Sp), K.In h ∧ (∀ p ∈ cs, h.get? p.2 = some { cls := .none, data := .fields #[] }) ∧ (∀ p ∈ cs, K.lookup p.2 = none) ∧ (∀ p ∈ cs, PySem.W.CodeHd h p.1 p.2) ∧ (∀ (s : Shared) (u : Value), BindsTo s fd ⟨[u], []⟩ [(x, u)]) ∧
    (∀ (H : Hp) (a : Addr) (ns : List Int), ns.length ≤ n → (∀ p ∈ cs, H p.2 = some (.tbl #[])) → SqL K H a (ns.map V.int) → sp [.ref a] H (fun v _ => v = .bl true) fun _ _ _ => False) ∧
    ∀ base : Heap, K.In base → base.Ns mainGlobals mg → (∀ p ∈ cs, LamX.TabB base mg p.1 p.2) → FnOk l.prog w K mg base CX k fa fd [x] sp
theorem walk_ofTE {l : PySem.W.OpenLaw} {n k : Nat} {q : Program} {loose : List Str} {XP : (Str → Option Value) → Heap → Prop} {YP : World → Heap → Prop} {d : DefRec} {CX : World → CXT} {x : Str}
    (hn : l.most = some n) (hn2 : n ≤ sizeLine) (hdf : d.params.defaults = []) (hr : Room k callerA)
    (F : ∀ (w : World) (mg : Str → Option Value) (fa : Addr) (h : Heap), YP w h → h.Ns mainGlobals mg → mg d.name = some (.ref fa) → LawAtE l w (CX w) k n x mg fa h)
    (hCX : ∀ (w : World) (H : Hp) (s : Shared) (e : Value) (s' : Shared), CX w [] H s (fun _ _ _ => False) e s' → False) :
    PySem.W.WalkO q loose XP YP l.row.toRowW d [] (fun f vs => PySem.call f vs) := by
  refine Att.attach_callB hn hdf fun w s₀ s₁ mg mb fa o pm cd doc a vs ns G Y ho hd hcd hmg hobj hints hlen hbits hg => ?_
  obtain ⟨K, fd, cs, sp, KX, hT, nT, C, hb, hsp, hF⟩ := F w mg fa _ Y G.T.g hmg
  exact LamX.law_callTs KX G.T.g G.T.b G.T.builtins G.T.nolimit hg hT nT C G.T.bmain hobj hints (Nat.le_trans hlen hn2) hr hF hb (fun H hH hS => hsp H a ns hlen hH hS) fun H e s' => hCX w H s₁ e s'
end Mp
namespace Mp
open PySem PySem.Spec PyProof.Rows L2 He
def parB (ps : List Str) : Arguments → Bool
  | ⟨[], as, none, [], [], none, []⟩ => decide (as.map (·.arg) = ps)
  | _ => false
def lamPs : List (List Str) := [[], ["each"], ["ahead", "each"]]
theorem lam_bind {ps : List Str} {params : Arguments} (hp : ps ∈ lamPs) (h : parB ps params = true) {qual : Str} {body : Expr} {scope : Scope} {cl : List (Str × Addr)} {pm cv ctv : Value} {us : List Value} (hl : us.length = ps.length) :
    bindArgs (PySem.W.kla_fn "<lambda>" qual params body scope cl pm cv ctv) ⟨us, []⟩ = pure (ps.zip us) := by
  unfold parB at h
  split at h
  · rename_i as
    have h := of_decide_eq_true h
    simp only [lamPs, List.mem_cons, List.not_mem_nil, or_false] at hp
    rcases hp with rfl | rfl | rfl
    · match as, h, us, hl with
      | [], _, [], _ => rfl
    · match as, h, us, hl with
      | [⟨a, _, _⟩], h, [u], _ =>
        obtain rfl : a = "each" := (List.cons.inj h).1
        rfl
    · match as, h, us, hl with
      | [⟨a, _, _⟩, ⟨b, _, _⟩], h, [u, v], _ =>
        obtain rfl : a = "ahead" := (List.cons.inj h).1
        obtain rfl : b = "each" := (List.cons.inj (List.cons.inj h).2).1
        rfl
  · cases h
abbrev LamE : Type := List Str × List Str
def lmF (P : Prog) (D1 : Dt) (t : List (Nat × LamE)) (k : Nat) (L : LamD) : Bool := match P.lams.lookup k, t.lookup k with
  | some l, some (N, ps) => decide (ps ∈ lamPs) && parB ps L.params && decide (L.fr.length = l.caps.length) && decide (l.np = ps.length) && decide (l.nl = N.length) && NdefX.nscB N ps L.fr L.scope && chkE (noLam D1) (lamZ N L.scope L.qual) l.body L.body
  | _, _ => false
theorem lamT_of {D D1 : Dt} {Pg : Prog} {t : List (Nat × LamE)} (hD : D = { D1 with lm := lmF Pg D1 t }) {k : Nat} {L : LamD} (h : D.lm k L = true) : LamT D Pg k L := by
  subst hD
  have h : lmF Pg D1 t k L = true := h
  unfold lmF at h
  split at h
  · rename_i l N ps g1 g2
    simp only [Bool.and_eq_true, decide_eq_true_eq] at h
    obtain ⟨⟨⟨⟨⟨⟨h1, h2⟩, h3⟩, h4⟩, h5⟩, h6⟩, h7⟩ := h
    exact ⟨l, N, ps, g1, h4, h5, h3, NdefX.nscope_by h6, fun cl pm cv ctv us hl => lam_bind h1 h2 hl, h7⟩
  · cases h
end Mp
namespace Mp
open PySem PySem.Spec PyProof.Rows L2 He
theorem FnE.funD {p : Program} {K : PySem.W.Frag} {e : FnE} (h : fnP K e = e.val p) (c : e.ok K = true) : ∃ fd, FunD K e.name e.qual (defArgs (e.stm p)) (defBody (e.stm p)) (defScope (e.stm p)) [] [] (e.ad K) fd := by
  unfold FnE.ok at c
  rw [HandSHeadRun.frNat_eq] at c
  obtain ⟨kp, c2⟩ := ba c
  unfold fnP at h
  cases q : K.lookup (e.ad K) with
  | none =>
    rw [q] at c2
    cases c2
  | some o =>
    obtain ⟨oc, od, dt, osl⟩ := o
    rw [q] at c2 h
    cases dt with
    | func fd =>
      obtain ⟨n1, n2, n3, n4, n5, n6, n7, n8, n9, n10, n11, n12, n13, n14, n15⟩ := fd
      have e2 : (some (n1, n2, n3, n4, n5, n6, n7, n15) : FnW) = some (e.name, e.qual, defArgs (e.stm p), .stmts (defBody (e.stm p)), defScope (e.stm p), mainGlobals, [], builtinsNs) := h
      simp only [Option.some.injEq, Prod.mk.injEq] at e2
      obtain ⟨h1, h2, h3, h4, h5, h6, h7, h8⟩ := e2
      subst h1 h2 h3 h4 h5 h6 h7 h8
      have c3 : (PySem.W.codeIn K n13 e.qual && noneV n8) = true := c2
      obtain ⟨k1, k2⟩ := ba c3
      have k2 := noneV_ok k2
      subst k2
      exact ⟨_, ⟨oc, od, .none, n9, n10, n11, n12, n13, n14, osl, rfl, q, k1, .inl ⟨rfl, rfl⟩, .inl rfl⟩, kp⟩
    | _ => cases c2
mutual
theorem relG_ok {R : Rc} : ∀ (d : PV) (u : Value), relG R.K R.cts d u = true → ∃ v, RelV v u ∧ ∀ hid φ H, RepV (R.h hid) φ H d v
  | .non, u, h => by
    unfold relG at h
    split at h
    · exact ⟨.non, rfl, fun _ _ _ => rfl⟩
    · cases h
  | .bl b, u, h => by
    unfold relG at h
    split at h
    · exact ⟨.bl b, by rw [eq_of_beq h]; rfl, fun _ _ _ => rfl⟩
    · cases h
  | .int i, u, h => by
    unfold relG at h
    split at h
    · rename_i j t
      exact ⟨.int i, ⟨t, by rw [of_decide_eq_true h]⟩, fun _ _ _ => rfl⟩
    · cases h
  | .str x, u, h => by
    unfold relG at h
    split at h
    · rename_i j t
      obtain ⟨h1, h2⟩ := ba h
      exact ⟨.str x, ⟨t, by rw [of_decide_eq_true h1]⟩, fun _ _ _ => ⟨rfl, h2⟩⟩
    · cases h
  | .tup ds, u, h => by
    unfold relG at h
    split at h
    · rename_i a
      split at h
      · rename_i c od its n sl q
        obtain ⟨h1, h⟩ := ba h
        obtain ⟨h2, h⟩ := ba h
        obtain ⟨h3, h4⟩ := ba h
        obtain ⟨vs, g1, g2⟩ := relGs_ok ds its.toList h4
        have hz := of_decide_eq_true h2
        refine ⟨.ref a, rfl, fun hid φ H => ⟨a, vs, rfl, .inr ⟨fun hk => ?_, _, its, n, q, congrArg Value.type (of_decide_eq_true h1), rfl, hz, g1⟩, ?_, g2 hid φ H⟩⟩
        · have hk : ds.all isK = true := hk
          rw [hk] at h3
          exact List.contains_iff_mem.mp h3
        · rw [g1.length, Array.length_toList, ← sz_eq]
          exact hz
      · cases h
    · cases h
  | .lst _, u, h => by unfold relG at h; cases h
  | .loc _, u, h => by unfold relG at h; cases h
  | .glo _, u, h => by unfold relG at h; cases h
  | .scr _, u, h => by unfold relG at h; cases h
  | .clo _ _, u, h => by unfold relG at h; cases h
  | .exn _ _ _, u, h => by unfold relG at h; cases h
theorem relGs_ok {R : Rc} : ∀ (ds : List PV) (us : List Value), relGs R.K R.cts ds us = true → ∃ vs, Vals vs us ∧ ∀ hid φ H, RepL (R.h hid) φ H ds vs
  | [], us, h => by
    unfold relGs at h
    split at h
    · exact ⟨[], .nil, fun _ _ _ => rfl⟩
    · cases h
  | d :: ds, us, h => by
    unfold relGs at h
    split at h
    · rename_i u us
      obtain ⟨h1, h2⟩ := ba h
      obtain ⟨v, g1, g2⟩ := relG_ok d u h1
      obtain ⟨vs, g3, g4⟩ := relGs_ok ds us h2
      exact ⟨v :: vs, .cons g1 g3, fun hid φ H => ⟨v, vs, rfl, g2 hid φ H, g4 hid φ H⟩⟩
    · cases h
end
theorem propB_ok {K : PySem.W.Frag} {C : Addr} {f : Str} (h : propB K C f = true) : PropOf K C f (ma K C f) (getterOf K (ma K C f)) := by
  unfold propB at h
  rw [HandSHeadRun.frNat_eq] at h
  obtain ⟨h1, h⟩ := ba h
  obtain ⟨h2, h⟩ := ba h
  obtain ⟨h3, h⟩ := ba h
  refine ⟨of_decide_eq_true h1, of_decide_eq_true h2, of_decide_eq_true h3, ?_⟩
  unfold getterOf
  split at h
  · rename_i g rest q
    rw [q]
    exact ⟨rest, rfl⟩
  · cases h
theorem eqB_ok {K : PySem.W.Frag} {C : Addr} (h : eqB K C = true) : PySem.W.findIn K (.ref C) "__eq__" = some (some (.ref (ma K C "__eq__"))) ∧ PySem.W.isFn K (.ref (ma K C "__eq__")) = true ∧ PySem.W.findIn K (.ref C) "__ne__" = some (some (.builtin "object.__ne__")) ∧ PySem.W.mroIn K C (.type "object") = some true ∧ PySem.W.notFirst K C (.type "tuple") = true := by
  unfold eqB at h
  rw [HandSHeadRun.frNat_eq] at h
  obtain ⟨h1, h⟩ := ba h
  obtain ⟨h2, h⟩ := ba h
  obtain ⟨h3, h⟩ := ba h
  obtain ⟨h4, h5⟩ := ba h
  exact ⟨of_decide_eq_true h1, h2, of_decide_eq_true h3, of_decide_eq_true h4, h5⟩
theorem zip_look {x : Str} : ∀ {ps : List Str} {us : List Value}, us.length = ps.length → x ∈ ps → ((ps.zip us).lookup x).isNone = false
  | [], _, _, h => by cases h
  | p :: ps, [], hl, _ => by cases hl
  | p :: ps, u :: us, hl, h => by
    rw [List.zip_cons_cons, List.lookup_cons]
    by_cases e : x = p
    · subst e; simp
    · have : (x == p) = false := by simpa using e
      rw [this]
      exact zip_look (by simpa using hl) ((List.mem_cons.mp h).resolve_left e)
theorem filterMap_eq {α β : Type} {f g : α → Option β} : ∀ {l : List α}, (∀ x ∈ l, f x = g x) → l.filterMap f = l.filterMap g
  | [], _ => rfl
  | x :: l, h => by
    rw [List.filterMap_cons, List.filterMap_cons, h x (by simp), filterMap_eq fun y hy => h y (List.mem_cons_of_mem _ hy)]
theorem zip_map : ∀ {ps : List Str} {us : List Value}, us.length = ps.length → ps.Nodup → (ps.filterMap fun n => ((ps.zip us).lookup n).map (n, ·)) = ps.zip us
  | [], us, _, _ => by simp
  | p :: ps, [], hl, _ => by cases hl
  | p :: ps, u :: us, hl, h => by
    rw [List.nodup_cons] at h
    rw [List.zip_cons_cons, List.filterMap_cons, List.lookup_cons_self]
    simp only [Option.map_some]
    congr 1
    rw [filterMap_eq (g := fun n => ((ps.zip us).lookup n).map (n, ·))]
    · exact zip_map (by simpa using hl) h.2
    · intro n hn
      rw [List.lookup_cons]
      have : (n == p) = false := by
        simp only [beq_eq_false_iff_ne, ne_eq]
        intro e
        subst e
        exact h.1 hn
      rw [this]
theorem bind_plain {name qual : Str} {as : List Arg} {body : List Stmt} {scope : Scope} {kV doc pm : Value} {an : Option Addr} {cdv ct : Value} {us : List Value} (hn : (as.map (·.arg)).Nodup) (hl : us.length = (as.map (·.arg)).length) :
    bindArgs (PySem.W.fnOf name qual ⟨[], as, none, [], [], none, []⟩ body scope .none kV doc pm an cdv ct) ⟨us, []⟩ = pure ((as.map (·.arg)).zip us) := by
  unfold bindArgs PySem.W.fnOf
  have e1 : notAStandIn Value.none = pure () := rfl
  have e2 : ((as.map (·.arg)).filter fun n => (((as.map (·.arg)).zip us).lookup n).isNone) = [] := by
    rw [List.filter_eq_nil_iff]
    intro x hx
    rw [zip_look hl hx]
    simp
  have e3 : (as.map (·.arg)).take as.length = as.map (·.arg) := by
    rw [← List.length_map (as := as) (f := (·.arg)), List.take_length]
  have e4 := zip_map hl hn
  rw [List.filterMap_map] at e4
  have hl' : us.length = as.length := by rw [hl, List.length_map]
  simp [seqItems?, e1, e2, e3, hl', e4]
def dT (P : Prog) (D0 : Dt) (lt : List (Nat × LamE)) (T : List (Addr × Str)) : Dt := { { D0 with tabs := T } with lm := lmF P { D0 with tabs := T } lt }
def plainA (ps : List Str) : Arguments → Bool
  | ⟨[], as, none, [], [], none, []⟩ => decide (as.map (·.arg) = ps)
  | _ => false
theorem plainA_ok {ps : List Str} {a : Arguments} (h : plainA ps a = true) : ∃ as, a = ⟨[], as, none, [], [], none, []⟩ ∧ as.map (·.arg) = ps := by
  unfold plainA at h
  split at h
  · exact ⟨_, rfl, of_decide_eq_true h⟩
  · cases h
def chkF (L : HkD) (P : Prog) (D0 : Dt) (lt : List (Nat × LamE)) (T : List (Addr × Str)) (e : FnE) : Bool := match P.defs.lookup e.id with
  | some d => decide (d.np = e.ps.length) && (decide (d.nl = e.N.length) && (C8.scC e.N e.ps (defScope (e.stm L.pr)) && (plainA e.ps (defArgs (e.stm L.pr)) && (decide e.ps.Nodup && ((!e.lamb || (L.ls.contains (e.at_, e.qual) && (!e.prop && (e.at_.2.isNone && L.glos.contains e.at_.1)))) && chkSs (dT P D0 lt T) (bodyZ e.N (defScope (e.stm L.pr)) e.qual e.lamb) d.body (defBody (e.stm L.pr)))))))
  | none => false
def fnAt (L : HkD) (at_ : Str × Option Str) (prop : Bool) (id : Nat) : Bool := L.fns.any fun e => decide (e.at_ = at_) && (decide (e.prop = prop) && decide (e.id = id))
def clAt (L : HkD) (x : Str) (c : Nat) : Bool := L.cls.any fun e => decide (e.x = x) && decide (e.c = c)
def cnm (L : HkD) (c : Nat) : Str := match L.cls.find? fun e => decide (e.c = c) with
  | some e => e.x
  | none => ""
structure PureB (L : HkD) (P : Prog) (D0 : Dt) : Prop where
  cts : L.cts = P.cts
  clsI : D0.clsI = P.cls
  caps : D0.caps.all (fun p => match P.lams.lookup p.1 with
    | some l => decide (l.caps = p.2)
    | none => false) = true
  dfl : D0.dfl = []
  defn : D0.defn.all (fun p => L.glos.contains p.1 && fnAt L (p.1, none) false p.2) = true
  fri : D0.fri.all (friB P) = true
  glob : D0.glob.all (fun p => L.globs.any fun q => decide (q.1 = p.1) && decide (P.globs.lookup p.2 = some q.2)) = true
  blt : D0.blt.all L.blt.contains = true
  cls : D0.cls.all (fun p => L.glos.contains p.1 && clAt L p.1 p.2) = true
  clE : L.cls.all (fun e => decide (cnm L e.c = e.x) && (decide (P.cls.lookup e.c = some e.ini) && fnAt L (e.x, some "__init__") false e.ini)) = true
  clP : P.cls.all (fun p => L.cls.any fun e => decide (e.c = p.1)) = true
  flds : P.flds.all (fun p => p.2.all fun f => L.cls.any fun e => decide (e.c = p.1) && e.flds.any fun q => decide (q.1 = f) && decide (D0.fld.lookup f = some q.2)) = true
  props : P.props.all (fun p => L.cls.any fun e => decide (e.c = p.1.1) && e.props.any fun q => decide (q.1 = p.1.2) && (decide (q.2.2 = p.2) && (decide (D0.fld.lookup p.1.2 = some q.2.1) && fnAt L (e.x, some q.2.1) true p.2))) = true
  eqs : P.eqs.all (fun p => L.cls.any fun e => decide (e.c = p.1) && (decide (e.eq = some p.2) && fnAt L (e.x, some "__eq__") false p.2)) = true
  fldN : (D0.fld.map (·.2)).Nodup
  exm : D0.exm = []
  exm0 : D0.exm0 = []
  xty : D0.xty = []
  one : ∀ e ∈ L.fns, e.prop = true → e.ps.length = 1
def KwP (L : HkD) (e : FnE) (n : Nat) (ks : List Str) (ord : List Nat) : Prop := ord.length = e.ps.length ∧ ∀ (kV doc pm : Value) (an : Option Addr) (cdv ct : Value) (us ws zs : List Value), us.length = n → ws.length = ks.length → argsBy (us ++ ws) ord = some zs →
  bindArgs (PySem.W.fnOf e.name e.qual (defArgs (e.stm L.pr)) (defBody (e.stm L.pr)) (defScope (e.stm L.pr)) .none kV doc pm an cdv ct) ⟨us, ks.zip ws⟩ = pure (e.ps.zip zs)
structure LwOk (L : HkD) (P : Prog) (D0 : Dt) (lt : List (Nat × LamE)) : Prop where
  pure_ : PureB L P D0
  chk : ∀ T, L.fns.all (chkF L P D0 lt T) = true
  kwt : ∀ e ∈ L.fns, ∀ q ∈ D0.kwt, e.at_ = (q.1, none) → KwP L e 0 q.2.1 q.2.2
  kwc : ∀ e ∈ L.fns, ∀ q ∈ D0.kwc, e.at_ = (q.1, some ("__init__" : Str)) → KwP L e 1 q.2.1 (0 :: q.2.2.map (· + 1))
def rcW (L : HkD) (P : Prog) (D0 : Dt) (lt : List (Nat × LamE)) (K1 : PySem.W.Frag) (T : List (Addr × Str)) : Rc := { K := K1, lam := fun k l => (dT P D0 lt T).lm k l = true, cad := fun c => He.ga K1 (cnm L c), fld := D0.fld, tabs := T, xfld := fun _ => "", cts := P.cts, mnm := fun _ => "", xcl := [], hid := [] }
theorem look_mem {α β : Type} [BEq α] [LawfulBEq α] {a : α} {b : β} : ∀ {l : List (α × β)}, l.lookup a = some b → (a, b) ∈ l
  | [], h => by cases h
  | (c, d) :: l, h => by
    rw [List.lookup_cons] at h
    cases e : a == c with
    | true =>
      rw [e] at h
      cases h
      rw [eq_of_beq e]
      exact List.mem_cons_self
    | false =>
      rw [e] at h
      exact List.mem_cons_of_mem _ (look_mem h)
theorem cut_ns {ps : List Addr} {K : PySem.W.Frag} {a : Addr} {x : Str} {r : Option Value} (h : PySem.W.nsIn (cutK K ps) a x = some r) : PySem.W.nsIn K a x = some r := by
  unfold PySem.W.nsIn at h ⊢
  cases e : (cutK K ps).lookup a with
  | none => rw [e] at h; cases h
  | some o =>
    rw [e] at h
    rw [cut_at e]
    exact h
abbrev K1W (L : HkD) (K : PySem.W.Frag) : PySem.W.Frag := cutK K ((tabs K L.ls).map (·.2))
section
variable {L : HkD} {P : Prog} {D0 : Dt} {lt : List (Nat × LamE)} {K : PySem.W.Frag}
theorem tabIn_W (h : obsW L K = valW L) : TabIn L.ls (chkW L) [] [] [] [] K ∧ L.fns.map (fnP (K1W L K)) = L.fns.map (·.val L.pr) := by
  unfold obsW at h
  rw [frL_eq, frK_eq] at h
  have h1 : ((L.ls.all fun l => tabB K (fAd K l.1) (tabF K (fAd K l.1))) && (decide ((tabs K L.ls).map (·.2)).Nodup && chkW L (K1W L K))) = true := congrArg (fun z : AlW => z.1) h
  obtain ⟨a1, a2⟩ := ba h1
  obtain ⟨a2, a3⟩ := ba a2
  refine ⟨⟨of_decide_eq_true a2, fun l hl => List.all_eq_true.mp a1 l hl, ?_⟩, congrArg (fun z : AlW => z.2) h⟩
  exact Prod.ext a3 rfl
theorem fnAt_ok {at_ : Str × Option Str} {b : Bool} {id : Nat} (h : fnAt L at_ b id = true) : ∃ e ∈ L.fns, e.at_ = at_ ∧ e.prop = b ∧ e.id = id := by
  unfold fnAt at h
  obtain ⟨e, he, h⟩ := List.any_eq_true.mp h
  obtain ⟨h1, h⟩ := ba h
  obtain ⟨h2, h3⟩ := ba h
  exact ⟨e, he, of_decide_eq_true h1, of_decide_eq_true h2, of_decide_eq_true h3⟩
structure Ans (L : HkD) (K1 : PySem.W.Frag) : Prop where
  glo : ∀ x ∈ L.glos, (Fa.glo x).ok K1 = true
  blt : ∀ x ∈ L.blt, (Fa.free x).ok K1 = true
  fns : ∀ e ∈ L.fns, e.ok K1 = true
  globs : ∀ p ∈ L.globs, gloV K1 L.cts p = true
  cls : ∀ e ∈ L.cls, e.ok K1 = true
  isa : isaA K1 (L.cls.map fun e => (e.c, He.ga K1 e.x)) = true
  val : ∀ e ∈ L.fns, fnP K1 e = e.val L.pr
theorem ans_W (h : obsW L K = valW L) : Ans L (K1W L K) := by
  obtain ⟨T, ev⟩ := tabIn_W h
  have c : chkW L (K1W L K) = true := congrArg (fun z : AlM => z.1) T.ob
  unfold chkW at c
  rw [frC_eq] at c
  obtain ⟨c1, c⟩ := ba c
  obtain ⟨c2, c⟩ := ba c
  obtain ⟨c3, c⟩ := ba c
  obtain ⟨c4, c⟩ := ba c
  obtain ⟨c5, c6⟩ := ba c
  exact ⟨fun x hx => List.all_eq_true.mp c1 x hx, fun x hx => List.all_eq_true.mp c2 x hx, fun x hx => List.all_eq_true.mp c3 x hx, fun x hx => List.all_eq_true.mp c4 x hx, fun x hx => List.all_eq_true.mp c5 x hx, c6, fun e he => List.map_inj_left.mp ev e he⟩
variable {mg : Str → Option Value} {base : Heap}
theorem fn_W (ok : LwOk L P D0 lt) (h : obsW L K = valW L) (KX : (K1W L K).In base) (G : base.Ns mainGlobals mg) (hB : ∀ p ∈ tabs K L.ls, LamX.TabB base mg p.1 p.2) {e : FnE} (he : e ∈ L.fns) :
    ∃ fd, FunD (K1W L K) e.name e.qual (defArgs (e.stm L.pr)) (defBody (e.stm L.pr)) (defScope (e.stm L.pr)) [] [] (e.ad (K1W L K)) fd ∧ DefG (dT P D0 lt (lamTabs K L.ls)) P (K1W L K) mg base e.id (e.ad (K1W L K)) fd e.ps ∧
      (∀ us : List Value, us.length = e.ps.length → ∀ s, BindsTo s fd ⟨us, []⟩ (e.ps.zip us)) ∧ ∀ n ks ord, KwP L e n ks ord → KwB (K1W L K) fd e.ps n ks ord := by
  obtain ⟨T, _⟩ := tabIn_W h
  have A := ans_W h
  obtain ⟨fd, F⟩ := FnE.funD (A.val e he) (A.fns e he)
  have c := List.all_eq_true.mp (ok.chk (lamTabs K L.ls)) e he
  unfold chkF at c
  split at c
  · rename_i d hd
    obtain ⟨c1, c⟩ := ba c
    obtain ⟨c2, c⟩ := ba c
    obtain ⟨c3, c⟩ := ba c
    obtain ⟨c4, c⟩ := ba c
    obtain ⟨c5, c⟩ := ba c
    obtain ⟨c6, c7⟩ := ba c
    obtain ⟨as, ea, eas⟩ := plainA_ok c4
    have nd : (as.map (·.arg)).Nodup := by rw [eas]; exact of_decide_eq_true c5
    obtain ⟨oc, od, dV, kV, doc, pm, an, cdv, ct, osl, rfl, lk, hcd, hD, hK⟩ := F.ex
    have edV : dV = .none := by
      rcases hD with ⟨_, z⟩ | ⟨z, _⟩
      · exact z
      · exact absurd rfl z
    subst edV
    refine ⟨_, F, ?_, fun us hl s => ?_, fun n ks ord kw => ⟨fun s us ws zs _ h1 h2 h3 => .of_eq (kw.2 kV doc pm an cdv ct us ws zs h1 h2 h3), kw.1⟩⟩
    · refine ⟨e.name, e.qual, _, _, _, .none, kV, doc, pm, cdv, ct, oc, an, od, osl, e.N, d, e.lamb, rfl, lk, hcd, C8.fnScope_by c3, hd, of_decide_eq_true c1, of_decide_eq_true c2, c7, fun hl => ?_⟩
      rw [hl] at c6
      simp only [Bool.not_true, Bool.false_or] at c6
      obtain ⟨g1, g⟩ := ba c6
      obtain ⟨g2, g⟩ := ba g
      obtain ⟨g3, g4⟩ := ba g
      have e1 : e.ad (K1W L K) = fAd K e.at_ := by
        unfold FnE.ad
        have : e.prop = false := by simpa using g2
        rw [this]
        show fAd (K1W L K) e.at_ = fAd K e.at_
        unfold fAd
        have hn : e.at_.2 = none := by simpa using g3
        rw [hn]
        have q := He.eqO_ok (A.glo e.at_.1 (List.contains_iff_mem.mp g4))
        have q2 := cut_ns q
        show He.ga (K1W L K) e.at_.1 = He.ga K e.at_.1
        unfold He.ga at q2 ⊢
        rw [q2]
      rw [e1] at lk
      exact T.tab (D := dT P D0 lt (lamTabs K L.ls)) rfl hB (List.contains_iff_mem.mp g1) lk
    · rw [ea]
      refine .of_eq ?_
      rw [← eas]
      exact bind_plain nd (by rw [eas]; exact hl)
  · cases c
theorem cnm_ok (ok : LwOk L P D0 lt) {e : ClE} (he : e ∈ L.cls) : cnm L e.c = e.x ∧ P.cls.lookup e.c = some e.ini ∧ fnAt L (e.x, some "__init__") false e.ini = true := by
  obtain ⟨h1, h2⟩ := ba (List.all_eq_true.mp ok.pure_.clE e he)
  obtain ⟨h2, h3⟩ := ba h2
  exact ⟨of_decide_eq_true h1, of_decide_eq_true h2, h3⟩
theorem isa_W (ok : LwOk L P D0 lt) (A : Ans L (K1W L K)) {T : List (Addr × Str)} {t : Ty} {u : Value} (h1 : ∀ n ∈ seven, PySem.W.kitOne (K1W L K) (.type n) u = some (tyAns t n)) (h2 : ∀ e ∈ L.cls, PySem.W.kitOne (K1W L K) (.ref (He.ga (K1W L K) e.x)) u = some (ownAns t e.c)) : IsaF (rcW L P D0 lt (K1W L K) T) P.cls t u := by
  refine ⟨h1, fun c hc => ?_, fun cs _ c hc => by cases hc⟩
  cases q : P.cls.lookup c with
  | none => rw [q] at hc; cases hc
  | some k =>
    obtain ⟨e, he, e1⟩ := List.any_eq_true.mp (List.all_eq_true.mp ok.pure_.clP _ (look_mem q))
    have e1 : e.c = c := of_decide_eq_true e1
    subst e1
    obtain ⟨n1, n2, n3⟩ := cnm_ok ok he
    have ea : (rcW L P D0 lt (K1W L K) T).cad e.c = He.ga (K1W L K) e.x := by
      show He.ga (K1W L K) (cnm L e.c) = _
      rw [n1]
    have a := A.cls e he
    unfold ClE.ok at a
    rw [HandSHeadRun.frNat_eq] at a
    obtain ⟨a1, a⟩ := ba a
    obtain ⟨a2, a⟩ := ba a
    obtain ⟨a3, a⟩ := ba a
    unfold clsiB at a3
    obtain ⟨b1, a3⟩ := ba a3
    obtain ⟨b2, a3⟩ := ba a3
    obtain ⟨b3, b4⟩ := ba a3
    rw [ea]
    exact ⟨⟨He.cls_ok a1, of_decide_eq_true b1, of_decide_eq_true b2, of_decide_eq_true b3, of_decide_eq_true b4⟩, h2 e he⟩
theorem fld_inj {l : List (Nat × Str)} (h : (l.map (·.2)).Nodup) {f g : Nat} {x : Str} (h1 : l.lookup f = some x) (h2 : l.lookup g = some x) : f = g := by
  have m1 := look_mem h1
  have m2 := look_mem h2
  induction l with
  | nil => cases m1
  | cons p l ih =>
    rw [List.map_cons, List.nodup_cons] at h
    rcases List.mem_cons.mp m1 with e1 | m1
    · rcases List.mem_cons.mp m2 with e2 | m2
      · rw [← e1] at e2
        exact (Prod.mk.inj e2).1.symm
      · exact absurd (List.mem_map.mpr ⟨_, m2, rfl⟩) (by rw [← e1] at h; exact h.1)
    · rcases List.mem_cons.mp m2 with e2 | m2
      · exact absurd (List.mem_map.mpr ⟨_, m1, rfl⟩) (by rw [← e2] at h; exact h.1)
      · have nd : ∀ {y : Str}, ∀ {l : List (Nat × Str)}, (l.map (·.2)).Nodup → ∀ a b, (a, y) ∈ l → (b, y) ∈ l → a = b := by
          intro y l
          induction l with
          | nil => intro _ a b m; cases m
          | cons q l ih =>
            intro h a b ma mb
            rw [List.map_cons, List.nodup_cons] at h
            rcases List.mem_cons.mp ma with e1 | ma
            · rcases List.mem_cons.mp mb with e2 | mb
              · rw [← e1] at e2
                exact (Prod.mk.inj e2).1.symm
              · exact absurd (List.mem_map.mpr ⟨_, mb, rfl⟩) (by rw [← e1] at h; exact h.1)
            · rcases List.mem_cons.mp mb with e2 | mb
              · exact absurd (List.mem_map.mpr ⟨_, ma, rfl⟩) (by rw [← e2] at h; exact h.1)
              · exact ih h.2 a b ma mb
        exact nd h.2 f g m1 m2
set_option maxHeartbeats 2000000 in
theorem stat_W {w : World} (ok : LwOk L P D0 lt) (h : obsW L K = valW L) (KX : (K1W L K).In base) (G : base.Ns mainGlobals mg) (hB : ∀ p ∈ tabs K L.ls, LamX.TabB base mg p.1 p.2) :
    Stat (dT P D0 lt (lamTabs K L.ls)) P (rcW L P D0 lt (K1W L K) (lamTabs K L.ls)) L.pr w (K1W L K) mg base := by
  have A := ans_W h
  have glo : ∀ {x : Str}, x ∈ L.glos → mg x = some (.ref (He.ga (K1W L K) x)) := fun hx => glo_ok KX G (A.glo _ hx)
  have fnW := fun {e : FnE} (he : e ∈ L.fns) => fn_W (D0 := D0) ok h KX G hB he
  have bd : ∀ {fd : FuncData} {ps : List Str}, (∀ us : List Value, us.length = ps.length → ∀ s, BindsTo s fd ⟨us, []⟩ (ps.zip us)) → Binds (K1W L K) fd ps [] := fun {fd ps} hb => fun s us _ hl => by
    rw [List.append_nil] at hl ⊢
    exact hb us hl s
  refine ⟨rfl, rfl, rfl, ok.pure_.clsI, rfl, fun k l z => z, fun k js z => ?_, fun k l z => lamT_of rfl z, fun x k z => ?_, fun k z => ?_, fun x g z => ?_, fun x z => ?_, fun x c z => ?_, ⟨fun c f z => ?_, fun f g x z1 z2 => fld_inj ok.pure_.fldN z1 z2⟩, fun c g j z => ?_, fun n hn t ht => ?_, fun x c z => ?_, fun c k z => ?_, (fun c hc => by cases hc), fun x c f z => ?_, fun x c z => ?_, fun x cs z => ?_, fun x cs z => ?_⟩
  · have q := List.all_eq_true.mp ok.pure_.caps _ (look_mem z)
    simp only at q
    split at q
    · rename_i l hl
      exact ⟨l, hl, of_decide_eq_true q⟩
    · cases q
  · obtain ⟨g1, g2⟩ := ba (List.all_eq_true.mp ok.pure_.defn _ (look_mem z))
    obtain ⟨e, he, e1, e2, e3⟩ := fnAt_ok g2
    obtain ⟨fd, F, G1, b, kw⟩ := fnW he
    have ea : e.ad (K1W L K) = He.ga (K1W L K) x := by
      unfold FnE.ad
      rw [e2]
      show fAd (K1W L K) e.at_ = _
      rw [e1]
      rfl
    have e3 : e.id = k := e3
    subst e3
    rw [ea] at F G1
    have ed : (((dT P D0 lt (lamTabs K L.ls)).dfl.lookup e.id).getD [] : List PV) = [] := by
      show ((D0.dfl.lookup e.id).getD [] : List PV) = []
      rw [ok.pure_.dfl]
      rfl
    refine ⟨_, fd, e.ps, [], [], glo (List.contains_iff_mem.mp g1), F.kp, G1, .nil, fun _ _ _ => by rw [ed]; rfl, fun j => by rw [List.drop_nil]; exact bd b, fun q hq hx => kw _ _ _ (ok.kwt e he q hq (by rw [e1, hx]))⟩
  · refine ⟨List.all_eq_true.mp ok.pure_.fri k (List.contains_iff_mem.mp z), ?_⟩
    show ((D0.dfl.lookup k).getD [] : List PV) = []
    rw [ok.pure_.dfl]
    rfl
  · obtain ⟨q, hq, g1⟩ := List.any_eq_true.mp (List.all_eq_true.mp ok.pure_.glob _ (look_mem z))
    obtain ⟨g1, g2⟩ := ba g1
    have g1 : q.1 = x := of_decide_eq_true g1
    have g2 : P.globs.lookup g = some q.2 := of_decide_eq_true g2
    have a := A.globs q hq
    unfold gloV at a
    rw [g1] at a
    split at a
    · rename_i u hu
      rw [ok.pure_.cts] at a
      obtain ⟨v, r1, r2⟩ := relG_ok (R := rcW L P D0 lt (K1W L K) (lamTabs K L.ls)) q.2 u a
      exact ⟨q.2, v, u, g2, PySem.W.mg_of KX G hu, r1, r2⟩
    · cases a
  · exact free_ok KX G (A.blt _ (List.contains_iff_mem.mp (List.all_eq_true.mp ok.pure_.blt x (List.contains_iff_mem.mp z))))
  · obtain ⟨g1, g2⟩ := ba (List.all_eq_true.mp ok.pure_.cls _ (look_mem z))
    obtain ⟨e, he, g2⟩ := List.any_eq_true.mp g2
    obtain ⟨g2, g3⟩ := ba g2
    have k2 : e.x = x := of_decide_eq_true g2
    have k3 : e.c = c := of_decide_eq_true g3
    subst k2 k3
    obtain ⟨n1, n2, n3⟩ := cnm_ok ok he
    obtain ⟨e', he', e1, e2, e3⟩ := fnAt_ok n3
    obtain ⟨fd, F, G1, b, kw⟩ := fnW he'
    have ec : (rcW L P D0 lt (K1W L K) (lamTabs K L.ls)).cad e.c = He.ga (K1W L K) e.x := by
      show He.ga (K1W L K) (cnm L e.c) = _
      rw [n1]
    have ea : e'.ad (K1W L K) = He.ma (K1W L K) (He.ga (K1W L K) e.x) "__init__" := by
      unfold FnE.ad
      rw [e2]
      show fAd (K1W L K) e'.at_ = _
      rw [e1]
      rfl
    rw [ea] at F G1
    rw [e3] at G1
    have a := A.cls e he
    unfold ClE.ok at a
    rw [HandSHeadRun.frNat_eq] at a
    obtain ⟨a1, a⟩ := ba a
    obtain ⟨a2, a⟩ := ba a
    rw [ec]
    exact ⟨glo (List.contains_iff_mem.mp g1), e.ini, _, fd, e'.ps, n2, He.mkr_ok a2, G1, bd b, fun q hq hx => kw _ _ _ (ok.kwc e' he' q hq (by rw [e1, hx]))⟩
  · unfold isFld at z
    split at z
    · rename_i gs hgs
      have m := List.contains_iff_mem.mp z
      obtain ⟨e, he, g1⟩ := List.any_eq_true.mp (List.all_eq_true.mp (List.all_eq_true.mp ok.pure_.flds _ (look_mem hgs)) f m)
      obtain ⟨g1, g2⟩ := ba g1
      have g1 : e.c = c := of_decide_eq_true g1
      subst g1
      obtain ⟨q, hq, g2⟩ := List.any_eq_true.mp g2
      obtain ⟨g2, g3⟩ := ba g2
      have g2 : q.1 = f := of_decide_eq_true g2
      subst g2
      have g3 : D0.fld.lookup q.1 = some q.2 := of_decide_eq_true g3
      obtain ⟨n1, n2, n3⟩ := cnm_ok ok he
      have ec : (rcW L P D0 lt (K1W L K) (lamTabs K L.ls)).cad e.c = He.ga (K1W L K) e.x := by
        show He.ga (K1W L K) (cnm L e.c) = _
        rw [n1]
      have ef : (rcW L P D0 lt (K1W L K) (lamTabs K L.ls)).fnm q.1 = q.2 := by
        unfold Rc.fnm
        show (D0.fld.lookup q.1).getD Str.empty = _
        rw [g3]
        rfl
      have a := A.cls e he
      unfold ClE.ok at a
      rw [HandSHeadRun.frNat_eq] at a
      obtain ⟨a1, a⟩ := ba a
      obtain ⟨a2, a⟩ := ba a
      obtain ⟨a3, a⟩ := ba a
      obtain ⟨a4, a⟩ := ba a
      rw [ec, ef]
      have na : PySem.W.findIn (K1W L K) (.ref (He.ga (K1W L K) e.x)) q.2 = some none := of_decide_eq_true (List.all_eq_true.mp a4 q hq)
      exact ⟨He.cls_ok a1, na, g3⟩
    · cases z
  · obtain ⟨e, he, g1⟩ := List.any_eq_true.mp (List.all_eq_true.mp ok.pure_.props _ (look_mem z))
    obtain ⟨g1, g2⟩ := ba g1
    have g1 : e.c = c := of_decide_eq_true g1
    subst g1
    obtain ⟨q, hq, g2⟩ := List.any_eq_true.mp g2
    obtain ⟨g2, g3⟩ := ba g2
    obtain ⟨g3, g4⟩ := ba g3
    obtain ⟨g4, g5⟩ := ba g4
    have g2 : q.1 = g := of_decide_eq_true g2
    have g4 : D0.fld.lookup g = some q.2.1 := of_decide_eq_true g4
    obtain ⟨n1, n2, n3⟩ := cnm_ok ok he
    have ec : (rcW L P D0 lt (K1W L K) (lamTabs K L.ls)).cad e.c = He.ga (K1W L K) e.x := by
      show He.ga (K1W L K) (cnm L e.c) = _
      rw [n1]
    have ef : (rcW L P D0 lt (K1W L K) (lamTabs K L.ls)).fnm g = q.2.1 := by
      unfold Rc.fnm
      show (D0.fld.lookup g).getD Str.empty = _
      rw [g4]
      rfl
    obtain ⟨e', he', e1, e2, e3⟩ := fnAt_ok g5
    obtain ⟨fd, F, G1, b, kw⟩ := fnW he'
    have ea : e'.ad (K1W L K) = getterOf (K1W L K) (He.ma (K1W L K) (He.ga (K1W L K) e.x) q.2.1) := by
      unfold FnE.ad
      rw [e2]
      show getterOf (K1W L K) (fAd (K1W L K) e'.at_) = _
      rw [e1]
      rfl
    rw [ea] at F G1
    have e3 : e'.id = j := e3
    subst e3
    have a := A.cls e he
    unfold ClE.ok at a
    rw [HandSHeadRun.frNat_eq] at a
    obtain ⟨a1, a⟩ := ba a
    obtain ⟨a2, a⟩ := ba a
    obtain ⟨a3, a⟩ := ba a
    obtain ⟨a4, a⟩ := ba a
    obtain ⟨a5, a⟩ := ba a
    rw [ec, ef]
    exact ⟨_, _, fd, e'.ps, He.cls_ok a1, propB_ok (List.all_eq_true.mp a5 q hq), G1, bd b, ok.pure_.one e' he' e2⟩
  · refine isa_W ok A (fun m hm => (isaT_of (R := rcW L P D0 lt (K1W L K) (lamTabs K L.ls)) (cl := []) rfl n hn t ht).ty m hm) fun e he => ?_
    have ai := List.all_eq_true.mp A.isa _ (List.mem_map.mpr ⟨e, he, rfl⟩)
    obtain ⟨b1, b2⟩ := ba ai
    have b3 := of_decide_eq_true (List.all_eq_true.mp b1 n hn)
    rw [b3]
    simp [tyOfN] at ht hn
    rcases hn with rfl | rfl | rfl | rfl | rfl | rfl <;> simp at ht <;> subst ht <;> rfl
  · obtain ⟨g1, g2⟩ := ba (List.all_eq_true.mp ok.pure_.cls _ (look_mem z))
    obtain ⟨e, he, g2⟩ := List.any_eq_true.mp g2
    obtain ⟨g2, g3⟩ := ba g2
    have k2 : e.x = x := of_decide_eq_true g2
    have k3 : e.c = c := of_decide_eq_true g3
    subst k2 k3
    obtain ⟨n1, n2, n3⟩ := cnm_ok ok he
    have ec : (rcW L P D0 lt (K1W L K) (lamTabs K L.ls)).cad e.c = He.ga (K1W L K) e.x := by
      show He.ga (K1W L K) (cnm L e.c) = _
      rw [n1]
    rw [ec]
    have ai := List.all_eq_true.mp A.isa _ (List.mem_map.mpr ⟨e, he, rfl⟩)
    obtain ⟨b1, b2⟩ := ba ai
    obtain ⟨b2, b3⟩ := ba b2
    refine isa_W ok A (fun m hm => of_decide_eq_true (List.all_eq_true.mp b2 m hm)) fun e2 he2 => ?_
    have b4 := of_decide_eq_true (List.all_eq_true.mp b3 _ (List.mem_map.mpr ⟨e2, he2, rfl⟩))
    rw [b4]
    show some (decide (e.c = e2.c)) = some (decide (e2.c = e.c))
    exact congrArg some (decide_eq_decide.mpr ⟨Eq.symm, Eq.symm⟩)
  · obtain ⟨e, he, g1⟩ := List.any_eq_true.mp (List.all_eq_true.mp ok.pure_.eqs _ (look_mem z))
    obtain ⟨g1, g2⟩ := ba g1
    obtain ⟨g2, g3⟩ := ba g2
    have g1 : e.c = c := of_decide_eq_true g1
    subst g1
    have g2 : e.eq = some k := of_decide_eq_true g2
    obtain ⟨n1, n2, n3⟩ := cnm_ok ok he
    have ec : (rcW L P D0 lt (K1W L K) (lamTabs K L.ls)).cad e.c = He.ga (K1W L K) e.x := by
      show He.ga (K1W L K) (cnm L e.c) = _
      rw [n1]
    obtain ⟨e', he', e1, e2, e3⟩ := fnAt_ok g3
    obtain ⟨fd, F, G1, b, kw⟩ := fnW he'
    have ea : e'.ad (K1W L K) = He.ma (K1W L K) (He.ga (K1W L K) e.x) "__eq__" := by
      unfold FnE.ad
      rw [e2]
      show fAd (K1W L K) e'.at_ = _
      rw [e1]
      rfl
    rw [ea] at F G1
    have e3 : e'.id = k := e3
    subst e3
    have a := A.cls e he
    unfold ClE.ok at a
    rw [HandSHeadRun.frNat_eq, g2] at a
    obtain ⟨a1, a⟩ := ba a
    obtain ⟨a2, a⟩ := ba a
    obtain ⟨a3, a⟩ := ba a
    obtain ⟨a4, a⟩ := ba a
    obtain ⟨a5, a⟩ := ba a
    obtain ⟨q1, q2, q3, q4, q5⟩ := eqB_ok a
    rw [ec]
    exact ⟨_, fd, e'.ps, q1, q2, q3, q4, q5, G1, bd b⟩
  · have z : D0.exm.lookup x = some (c, f) := z
    rw [ok.pure_.exm] at z
    cases z
  · have z : D0.exm0.lookup x = some c := z
    rw [ok.pure_.exm0] at z
    cases z
  · have z : D0.xty.lookup x = some (true, cs) := z
    rw [ok.pure_.xty] at z
    cases z
  · have z : D0.xty.lookup x = some (false, cs) := z
    rw [ok.pure_.xty] at z
    cases z
end
theorem uq_ok {L : HkD} {e0 e : FnE} {a : Str × Option Str} (h : L.fns.all (fun e => !decide (e.at_ = a) || decide (e = e0)) = true) (he : e ∈ L.fns) (hx : e.at_ = a) : e = e0 := by
  have q := List.all_eq_true.mp h e he
  simp only [hx, decide_true, Bool.not_true, Bool.false_or, decide_eq_true_eq] at q
  exact q
theorem lawAt_W {L : HkD} {P : Prog} {D0 : Dt} {lt : List (Nat × LamE)} {K : PySem.W.Frag} {l : PySem.W.OpenLaw} {w : World} {m : Nat} {mg : Str → Option Value} {fa : Addr} {hp : Heap} (hl : l.prog = L.pr) (ok : LwOk L P D0 lt) (h : obsW L K = valW L) (KX : K.In hp) (G : hp.Ns mainGlobals mg) (hm : mg "law" = some (.ref fa)) {e : FnE} (he : e ∈ L.fns) (h1 : e.at_ = (("law" : Str), none)) (h1p : e.prop = false) (hg : ("law" : Str) ∈ L.glos) (h2 : e.ps = [("script" : Str)])
    (law : ∀ ns : List Int, ns.length ≤ 63 → ∃ s', (runs P m).def_ e.id [.scr ns] [] = .ok (.bl true) s') : LawAtE l w (fun _ _ _ _ _ _ => False) (m + 1) 63 "script" mg fa hp := by
  obtain ⟨T, _⟩ := tabIn_W h
  have A := ans_W h
  have KX1 : (K1W L K).In hp := cut_in KX
  obtain ⟨t1, t2, t3⟩ := T.heap KX
  have ea : e.ad (K1W L K) = fa := by
    unfold FnE.ad
    rw [h1p]
    show fAd (K1W L K) e.at_ = fa
    rw [h1]
    have := (glo_ok KX1 G (A.glo _ hg)).symm.trans hm
    cases this
    rfl
  have bnd : ∃ fd, FunD (K1W L K) e.name e.qual (defArgs (e.stm L.pr)) (defBody (e.stm L.pr)) (defScope (e.stm L.pr)) [] [] (e.ad (K1W L K)) fd ∧ ∀ us : List Value, us.length = e.ps.length → ∀ s, BindsTo s fd ⟨us, []⟩ (e.ps.zip us) := by
    obtain ⟨fd, F⟩ := FnE.funD (A.val e he) (A.fns e he)
    have c := List.all_eq_true.mp (ok.chk []) e he
    unfold chkF at c
    split at c
    · obtain ⟨_, c⟩ := ba c
      obtain ⟨_, c⟩ := ba c
      obtain ⟨_, c⟩ := ba c
      obtain ⟨c4, c⟩ := ba c
      obtain ⟨c5, c⟩ := ba c
      obtain ⟨as, ea, eas⟩ := plainA_ok c4
      have nd : (as.map (·.arg)).Nodup := by rw [eas]; exact of_decide_eq_true c5
      refine ⟨fd, F, fun us hl s => F.bindsA (ps := e.ps) (fun kV doc pm an cdv ct us hl => ?_) s us hl⟩
      rw [ea, ← eas]
      exact bind_plain nd (by rw [eas]; exact hl)
    · cases c
  obtain ⟨fd, F, b⟩ := bnd
  refine ⟨K1W L K, fd, tabs K L.ls, fun vs H Q _ => spM (rcW L P D0 lt (K1W L K) (lamTabs K L.ls)) 1 ((runs P m).def_ e.id) vs H Q fun _ _ _ => False, KX1, t1, t2, t3, fun s u => ?_, fun H a ns hn hT hS => ?_, fun base KB GB hB => ?_⟩
  · have := b [u] (by rw [h2]; rfl) s
    rw [h2] at this
    exact this
  · obtain ⟨s', q⟩ := law ns hn
    have sc : ScrAt (rcW L P D0 lt (K1W L K) (lamTabs K L.ls)) [] H a ns := by
      rcases hS with (z | ⟨o, z⟩) | z
      · exact .inl ⟨_, ⟨z, ⟨by simp, by simp [rcW]⟩, fun ps z => by cases z⟩, .inl rfl⟩
      · exact .inl ⟨_, ⟨z, ⟨by simp, by simp [rcW]⟩, fun ps z => by cases z⟩, .inr ⟨o, rfl⟩⟩
      · exact .inr z
    refine ⟨[], [], [.scr ns], rfl, ⟨rfl, List.nodup_nil, fun n o a e => by simp at e, fun D hD => by simp [rcW] at hD⟩, fun p hp => ?_, ⟨.ref a, [], rfl, ⟨a, (), rfl, sc, by show _ ≤ 16777216; omega⟩, rfl⟩, ?_⟩
    · have hp : p ∈ lamTabs K L.ls := hp
      obtain ⟨q, hq, rfl⟩ := List.mem_map.mp hp
      exact ⟨#[], hT (tabF K (fAd K q.1)) (List.mem_map.mpr ⟨q, hq, rfl⟩), by simp [TriplesOk], fun pos cv z => by simp [codeAmong] at z⟩
    · rw [q]
      exact fun φ' H' v _ _ _ r => r
  · obtain ⟨fd', F', G', _⟩ := fn_W (D0 := D0) ok h KB GB hB he
    have e2 : fd' = fd := by
      obtain ⟨oc, od, dV, kV, doc, pm, an, cdv, ct, osl, e1, lk, _⟩ := F.ex
      obtain ⟨oc', od', dV', kV', doc', pm', an', cdv', ct', osl', e1', lk', _⟩ := F'.ex
      rw [lk] at lk'
      cases lk'
      rfl
    subst e2
    rw [ea, h2] at G'
    rw [hl]
    exact fn0 (w := w) (def_all (stat_W (w := w) ok h KB GB hB) m G').ok
end Mp
set_option maxHeartbeats 0
namespace Mp.K02
open PySem PySem.Spec PyProof.Rows L2 He Mp
def d_law : Def := ⟨1, 2, (.cons (.ret (.bf .all false (.cons (.lc false [1] (.name 1) (.rng (.bf .max2 false (.cons (.cst (.int 1)) (.cons (.bf .min2 false (.cons (.bf .len false (.cons (.var 0) .nil)) (.cons (.cst (.int 3)) .nil))) .nil)))) .non (.call 1 (.cons (.call 2 (.cons (.var 0) (.cons (.var 1) .nil)) []) .nil) [])) .nil))) .nil)⟩
def d__law_right : Def := ⟨1, 13, (.cons (.for_ (.name 1) (.rng (.cst (.int 3))) (.cons (.asg (.tup (.cons (.name 2) (.cons (.name 3) .nil))) (.call 3 (.cons (.var 0) (.cons (.bin .add false (.cst (.int 1)) (.call 5 (.cons (.var 0) (.cons (.cst (.int 8)) .nil)) [])) (.cons (.cst (.int 8)) (.cons (.call 4 (.cons (.var 0) (.cons (.tup (.cons (.cst (.int 10)) (.cons (.cst (.int 10000)) .nil))) .nil)) []) .nil)))) [])) (.cons (.cond (.cmp .eq (.call 5 (.cons (.var 0) (.cons (.cst (.int 2)) .nil)) []) (.cst (.int 0))) (.cons (.asg (.name 2) (.tup (.cons (.bf .tuple false (.cons (.lc false [4] (.name 4) (.of (.ix (.var 2) (.cst (.int 0)))) .non (.bin .add false (.slc false (.var 4) .non (.som (.cst (.int 5)))) (.tup (.cons (.cst (.int 12)) .nil)))) .nil)) (.cons (.ix (.var 2) (.cst (.int 1))) .nil)))) .nil) .nil) (.cons (.asg (.name 5) (.call 6 (.cons (.var 2) .nil) [])) (.cons (.asg (.name 6) (.ix (.lc false [7] (.name 7) (.of (.tup (.cons (.cst (.str "zz")) (.cons (.cst (.str "zy")) (.cons (.cst (.str "zx")) (.cons (.cst (.str "zw")) .nil)))))) (.som (.cmp .notin (.var 7) (.var 3))) (.var 7)) (.cst (.int 0)))) (.cons (.for_ (.name 4) (.of (.ix (.var 2) (.cst (.int 0)))) (.cons (.for_ (.name 8) (.of (.bin .add false (.var 3) (.tup (.cons (.var 6) .nil)))) (.cons (.for_ (.name 9) (.of (.tup (.cons (.cst (.int 0)) (.cons (.ix (.var 4) (.cst (.int 3))) (.cons (.ix (.var 4) (.cst (.int 4))) (.cons (.bin .add false (.ix (.var 4) (.cst (.int 4))) (.cst (.int 1))) (.cons (.bf .max2 false (.cons (.cst (.int 0)) (.cons (.bin .sub false (.ix (.var 4) (.cst (.int 3))) (.cst (.int 1))) .nil))) (.cons (.call 5 (.cons (.var 0) (.cons (.cst (.int 1000)) .nil)) []) (.cons (.cst (.int 999)) .nil))))))))) (.cons (.asg (.name 10) (.and (.cmp .in_ (.var 8) (.ix (.var 4) (.cst (.int 2)))) (.chn .le .le (.ix (.var 4) (.cst (.int 3))) (.var 9) (.ix (.var 4) (.cst (.int 4)))))) (.cons (.cond (.not (.of (.call 7 (.cons (.tup (.cons (.call 8 (.cons (.var 5) (.cons (.ix (.var 4) (.cst (.int 0))) (.cons (.var 8) (.cons (.var 9) .nil)))) []) (.cons (.callK 8 .nil (.cons (.var 9) (.cons (.var 8) (.cons (.ix (.var 4) (.cst (.int 0))) (.cons (.var 5) .nil)))) [3, 2, 1, 0]) .nil))) (.cons (.tup (.cons (.var 10) (.cons (.var 10) .nil))) .nil)) []))) (.cons (.ret (.cst (.bl false))) .nil) .nil) .nil))) .nil)) .nil)) (.cons (.asg (.name 10) (.cmp .eq (.lc false [4] (.name 4) (.of (.ix (.var 2) (.cst (.int 0)))) (.som (.cmp .ne (.ix (.var 4) (.cst (.int 5))) (.cst (.int 12)))) (.var 4)) (.lst false .nil))) (.cons (.cond (.not (.of (.call 7 (.cons (.tup (.cons (.call 9 (.cons (.var 5) .nil) []) (.cons (.callK 9 .nil (.cons (.var 5) .nil) [0]) (.cons (.atr (.var 5) 2) (.cons (.atr (.var 5) 3) (.cons (.atr (.var 5) 4) .nil)))))) (.cons (.tup (.cons (.var 10) (.cons (.var 10) (.cons (.var 2) (.cons (.ix (.var 2) (.cst (.int 0))) (.cons (.ix (.var 2) (.cst (.int 1))) .nil)))))) .nil)) []))) (.cons (.ret (.cst (.bl false))) .nil) .nil) (.cons (.for_ (.name 11) (.of (.tup (.cons (.mkK 0 .nil (.cons (.ix (.var 2) (.cst (.int 1))) (.cons (.ix (.var 2) (.cst (.int 0))) .nil)) [1, 0]) (.cons (.mk 0 (.cons (.ix (.var 2) (.cst (.int 0))) (.cons (.slc false (.ix (.var 2) (.cst (.int 1))) (.som (.cst (.int 1))) .non) .nil))) (.cons (.mk 0 (.cons (.ix (.var 2) (.cst (.int 0))) (.cons (.tup .nil) .nil))) .nil))))) (.cons (.asg (.name 12) (.cmp .eq (.atr (.var 11) 2) (.var 2))) (.cons (.cond (.not (.of (.call 7 (.cons (.tup (.cons (.eqO false (.var 5) (.var 11)) (.cons (.eqO true (.var 5) (.var 11)) (.cons (.eqO false (.var 11) (.var 2)) (.cons (.eqO false (.var 5) (.var 5)) .nil))))) (.cons (.tup (.cons (.var 12) (.cons (.not (.var 12)) (.cons (.cst (.bl false)) (.cons (.cst (.bl true)) .nil))))) .nil)) []))) (.cons (.ret (.cst (.bl false))) .nil) .nil) .nil))) .nil))))))))) (.cons (.ret (.cst (.bl true))) .nil))⟩
def d__law_bowl : Def := ⟨2, 5, (.cons (.asg (.name 2) (.bin .add false (.cst (.int 771041)) (.bin .mul false (.cst (.int 8819)) (.var 1)))) (.cons (.for_ (.name 3) (.of (.slc false (.var 0) .non (.som (.cst (.int 9))))) (.cons (.asg (.name 2) (.bin .mod false (.bf .int false (.cons (.bin .add false (.bin .add false (.bin .mul false (.var 2) (.cst (.int 48611))) (.bin .mul false (.bin .mod false (.bf .int false (.cons (.var 3) .nil)) (.cst (.int 2147483053))) (.cst (.int 19)))) (.cst (.int 41))) .nil)) (.cst (.int 2147483563)))) .nil)) (.cons (.asg (.name 4) (.ite (.cmp .lt (.var 1) (.bf .len false (.cons (.var 0) .nil))) (.bf .int false (.cons (.ix (.var 0) (.var 1)) .nil)) (.cst (.int 0)))) (.cons (.asg (.name 2) (.bin .mod false (.bf .int false (.cons (.bin .add false (.bin .add false (.bin .mul false (.var 2) (.cst (.int 53))) (.bin .mul false (.bin .mod false (.var 4) (.cst (.int 2147483053))) (.cst (.int 27011)))) (.cst (.int 11))) .nil)) (.cst (.int 2147483563)))) (.cons (.ret (.lst true (.cons (.ite (.or (.cmp .lt (.var 4) (.cst (.int 0))) (.cmp .ge (.var 4) (.bin .pow false (.cst (.int 10)) (.cst (.int 16))))) (.bf .abs true (.cons (.var 4) .nil)) (.cst (.int 0))) (.cons (.var 2) (.cons (.cst (.int 0)) .nil))))) .nil)))))⟩
def d__law_book : Def := ⟨4, 16, (.cons (.asg (.tup (.cons (.name 4) (.cons (.name 5) (.cons (.name 6) (.cons (.name 7) .nil))))) (.tup (.cons (.call 15 (.cons (.var 0) (.cons (.var 1) .nil)) []) (.cons (.call 15 (.cons (.var 0) (.cons (.cst (.int 3)) .nil)) []) (.cons (.lst true .nil) (.cons (.dct .nil .nil) .nil)))))) (.cons (.for_ (.name 8) (.of (.var 4)) (.cons (.asg (.name 9) (.bf .tuple false (.cons (.lc false [10] (.name 10) (.of (.var 5)) (.som (.cmp .eq (.call 5 (.cons (.var 0) (.cons (.cst (.int 2)) .nil)) []) (.cst (.int 0)))) (.var 10)) .nil))) (.cons (.asg (.name 11) (.call 4 (.cons (.var 0) (.cons (.tup (.cons (.cst (.int 0)) (.cons (.cst (.int 0)) (.cons (.call 5 (.cons (.var 0) (.cons (.cst (.int 20)) .nil)) []) .nil)))) .nil)) [])) (.cons (.asg (.name 12) (.bin .add false (.var 11) (.call 4 (.cons (.var 0) (.cons (.tup (.cons (.call 5 (.cons (.var 0) (.cons (.cst (.int 20)) .nil)) []) (.cons (.cst (.int 30)) (.cons (.cst (.int 900)) .nil)))) .nil)) []))) (.cons (.expr (.bm .append false (.var 6) (.cons (.tup (.cons (.var 8) (.cons (.call 5 (.cons (.var 0) (.cons (.var 3) .nil)) []) (.cons (.ite (.cmp .ne (.var 9) (.tup .nil)) (.var 9) (.slc false (.var 5) .non (.som (.cst (.int 1))))) (.cons (.var 11) (.cons (.var 12) (.cons (.call 4 (.cons (.var 0) (.cons (.tup (.cons (.cst (.int 12)) (.cons (.cst (.int 12)) (.cons (.cst (.int 12)) (.cons (.cst (.int 6)) (.cons (.bin .add false (.cst (.int 1)) (.call 5 (.cons (.var 0) (.cons (.cst (.int 12)) .nil)) [])) .nil)))))) .nil)) []) .nil))))))) .nil))) .nil))))) (.cons (.for_ (.name 13) (.rng (.ite (.cmp .gt (.var 1) (.cst (.int 1))) (.call 5 (.cons (.var 0) (.cons (.bin .add false (.var 2) (.cst (.int 1))) .nil)) []) (.cst (.int 0)))) (.cons (.asg (.name 14) (.call 4 (.cons (.var 0) (.cons (.var 4) .nil)) [])) (.cons (.asg (.sub (.var 7) (.tup (.cons (.var 14) (.cons (.call 4 (.cons (.var 0) (.cons (.lc false [8] (.name 8) (.of (.var 4)) (.som (.cmp .ne (.var 8) (.var 14))) (.var 8)) .nil)) []) .nil)))) (.call 5 (.cons (.var 0) (.cons (.var 3) .nil)) [])) .nil))) (.cons (.ret (.tup (.cons (.tup (.cons (.bf .tuple false (.cons (.var 6) .nil)) (.cons (.bf .tuple false (.cons (.lc false [15] (.name 15) (.of (.bf .sorted false (.cons (.bf .list false (.cons (.var 7) .nil)) .nil))) .non (.bin .add false (.var 15) (.tup (.cons (.dget (.var 7) (.var 15)) .nil)))) .nil)) .nil))) (.cons (.var 5) .nil)))) .nil))))⟩
def d__law_of : Def := ⟨2, 2, (.cons (.ret (.ix (.var 1) (.call 5 (.cons (.var 0) (.cons (.bf .len false (.cons (.var 1) .nil)) .nil)) []))) .nil)⟩
def d__law_draw : Def := ⟨2, 4, (.cons (.cond (.cmp .gt (.ix (.var 0) (.cst (.int 0))) (.cst (.int 0))) (.cons (.asg (.tup (.cons (.sub (.var 0) (.cst (.int 0))) (.cons (.name 2) .nil))) (.bf .divmod true (.cons (.ix (.var 0) (.cst (.int 0))) (.cons (.var 1) .nil)))) (.cons (.ret (.var 2)) .nil)) .nil) (.cons (.asg (.sub (.var 0) (.cst (.int 2))) (.bin .add true (.ix (.var 0) (.cst (.int 2))) (.cst (.int 1)))) (.cons (.asg (.name 3) (.bin .mod false (.bf .int false (.cons (.bin .add false (.bin .mul false (.ix (.var 0) (.cst (.int 1))) (.cst (.int 39373))) (.bin .mul false (.cst (.int 17011)) (.ix (.var 0) (.cst (.int 2))))) .nil)) (.cst (.int 2147483563)))) (.cons (.asg (.sub (.var 0) (.cst (.int 1))) (.bin .mod true (.bf .int false (.cons (.bin .add false (.bin .mul false (.var 3) (.bin .add false (.bin .mod false (.bf .int false (.cons (.var 3) .nil)) (.cst (.int 4093))) (.cst (.int 30011)))) (.bin .mul false (.cst (.int 7)) (.ix (.var 0) (.cst (.int 2))))) .nil)) (.cst (.int 2147483563)))) (.cons (.ret (.bin .mod false (.bf .int false (.cons (.bin .fdiv false (.ix (.var 0) (.cst (.int 1))) (.cst (.int 733))) .nil)) (.var 1))) .nil)))))⟩
def d__law_made : Def := ⟨1, 1, (.cons (.ret (.mk 0 (.cons (.ix (.var 0) (.cst (.int 0))) (.cons (.ix (.var 0) (.cst (.int 1))) .nil)))) .nil)⟩
def d__law_same : Def := ⟨2, 3, (.cons (.cond (.of (.isi (.var 1) .tup)) (.cons (.cond (.or (.not (.of (.isi (.var 0) .tup))) (.cmp .ne (.bf .len false (.cons (.var 0) .nil)) (.bf .len false (.cons (.var 1) .nil)))) (.cons (.ret (.cst (.bl false))) .nil) .nil) (.cons (.ret (.bf .all false (.cons (.lc false [2] (.name 2) (.rng (.bf .len false (.cons (.var 1) .nil))) .non (.call 7 (.cons (.ix (.var 0) (.var 2)) (.cons (.ix (.var 1) (.var 2)) .nil)) [])) .nil))) .nil)) .nil) (.cons (.cond (.cmp .is (.var 1) (.cst .non)) (.cons (.ret (.cmp .is (.var 0) (.cst .non))) .nil) .nil) (.cons (.cond (.of (.isi (.var 1) .bool)) (.cons (.ret (.and (.isi (.var 0) .bool) (.cmp .eq (.var 0) (.var 1)))) .nil) .nil) (.cons (.cond (.of (.isi (.var 1) .int)) (.cons (.ret (.and (.isi (.var 0) .int) (.and (.not (.isi (.var 0) .bool)) (.cmp .eq (.var 0) (.var 1))))) .nil) .nil) (.cons (.cond (.of (.isi (.var 1) .str)) (.cons (.ret (.and (.isi (.var 0) .str) (.cmp .eq (.var 0) (.var 1)))) .nil) .nil) (.cons (.ret (.cmp .eq (.var 0) (.var 1))) .nil))))))⟩
def d_may_pay : Def := ⟨4, 4, (.cons (.expr (.call 16 (.cons (.var 0) .nil) [])) (.cons (.expr (.call 17 (.cons (.var 0) (.cons (.var 1) .nil)) [])) (.cons (.expr (.call 18 (.cons (.var 2) .nil) [])) (.cons (.expr (.call 19 (.cons (.var 3) .nil) [])) (.cons (.ret (.call 20 (.cons (.ix (.atr (.var 0) 3) (.call 21 (.cons (.var 0) (.cons (.var 1) .nil)) [])) (.cons (.var 2) (.cons (.var 3) .nil))) [])) .nil)))))⟩
def d_is_plain : Def := ⟨1, 2, (.cons (.expr (.call 16 (.cons (.var 0) .nil) [])) (.cons (.ret (.bf .all false (.cons (.lc false [1] (.name 1) (.of (.atr (.var 0) 3)) .non (.cmp .eq (.ix (.var 1) (.cst (.int 5))) (.cst (.int 12)))) .nil))) .nil))⟩
def d_Book_parts : Def := ⟨1, 1, (.cons (.ret (.atr (.var 0) 5)) .nil)⟩
def d_Book_pots : Def := ⟨1, 1, (.cons (.ret (.ix (.atr (.var 0) 5) (.cst (.int 0)))) .nil)⟩
def d_Book_moves : Def := ⟨1, 1, (.cons (.ret (.ix (.atr (.var 0) 5) (.cst (.int 1)))) .nil)⟩
def d_Book__init_ : Def := ⟨3, 4, (.cons (.for_ (.name 3) (.of (.call 22 (.cons (.var 1) .nil) [])) (.cons .never .nil)) (.cons (.for_ (.name 3) (.of (.call 23 (.cons (.var 1) (.cons (.var 2) .nil)) [])) (.cons .never .nil)) (.cons (.asg (.fld (.var 0) 5) (.tup (.cons (.var 1) (.cons (.var 2) .nil)))) .nil)))⟩
def d_Book__eq_ : Def := ⟨2, 2, (.cons (.ret (.and (.isi (.var 1) (.own 0)) (.cmp .eq (.atr (.var 0) 5) (.atr (.var 1) 5)))) .nil)⟩
def d__law_names : Def := ⟨2, 11, (.cons (.asg (.name 2) (.cst (.str "all bill book cost day end first from give kind last least left line lost move must no none pay pot program"))) (.cons (.asg (.tup (.cons (.name 3) (.cons (.name 4) .nil))) (.tup (.cons (.bin .add false (.bm .split false (.var 2) (.cons (.cst (.str " ")) .nil)) (.bm .split false (.cst (.str "quit room row share strike sum take till to undo use whole yes")) (.cons (.cst (.str " ")) .nil))) (.cons (.lst true .nil) .nil)))) (.cons (.for_ (.name 5) (.rng (.var 1)) (.cons (.asg (.name 6) (.cst (.str ""))) (.cons (.for_ (.name 7) (.rng (.call 4 (.cons (.var 0) (.cons (.tup (.cons (.cst (.int 1)) (.cons (.cst (.int 1)) (.cons (.cst (.int 2)) (.cons (.cst (.int 3)) (.cons (.cst (.int 5)) (.cons (.cst (.int 8)) .nil))))))) .nil)) [])) (.cons (.asg (.name 6) (.bin .add false (.var 6) (.ix (.cst (.str "abcdefghijklmnopqrstuvwxyz")) (.call 5 (.cons (.var 0) (.cons (.cst (.int 26)) .nil)) [])))) .nil)) (.cons (.asg (.name 8) (.lc false [9] (.name 9) (.of (.bin .add false (.lst false (.cons (.var 6) .nil)) (.lc false [10] (.name 10) (.of (.cst (.str "abcdefghijklmnopqrstuvwxyz"))) .non (.bin .add false (.slc false (.var 6) .non (.som (.cst (.int 7)))) (.var 10))))) (.som (.cmp .notin (.var 9) (.bin .add false (.var 3) (.var 4)))) (.var 9))) (.cons (.expr (.bm .append false (.var 4) (.cons (.ix (.var 8) (.cst (.int 0))) .nil))) .nil))))) (.cons (.ret (.bf .tuple false (.cons (.bf .sorted false (.cons (.var 4) .nil)) .nil))) .nil))))⟩
def d_check_book : Def := ⟨1, 1, (.cons (.cond (.not (.of (.isi (.var 0) (.own 0)))) (.cons .never .nil) .nil) .nil)⟩
def d_check_pot : Def := ⟨2, 2, (.cons (.cond (.not (.of (.call 24 (.cons (.var 1) (.cons (.call 25 (.cons (.var 0) .nil) []) .nil)) []))) (.cons .never .nil) .nil) .nil)⟩
def d_check_kind : Def := ⟨1, 1, (.cons (.cond (.not (.of (.call 26 (.cons (.var 0) .nil) []))) (.cons .never .nil) .nil) .nil)⟩
def d_check_day : Def := ⟨1, 1, (.cons (.expr (.call 27 (.cons (.var 0) (.cons (.cst (.int 0)) (.cons (.glo 0) .nil))) [])) .nil)⟩
def d_may : Def := ⟨3, 3, (.cons (.ret (.and (.cmp .in_ (.var 1) (.ix (.var 0) (.cst (.int 2)))) (.chn .le .le (.ix (.var 0) (.cst (.int 3))) (.var 2) (.ix (.var 0) (.cst (.int 4)))))) .nil)⟩
def d_pot_spot : Def := ⟨2, 2, (.cons (.ret (.callI 25 (.cons (.var 0) .nil) (.var 1))) .nil)⟩
def d_wrong_in_pots : Def := ⟨1, 1, (.cons (.ret (.call 28 (.cons (.var 0) (.cons (.cst (.int 1)) (.cons (.glo 1) (.lam 0 .nil)))) [])) .nil)⟩
def d_wrong_in_moves : Def := ⟨2, 4, (.cons (.asg (.name 2) (.lc false [3] (.name 3) (.of (.var 0)) .non (.ix (.var 3) (.cst (.int 0))))) (.cons (.ret (.call 28 (.cons (.var 1) (.cons (.cst (.int 0)) (.cons (.glo 2) (.lam 1 .nil)))) [])) .nil))⟩
def d_is_one_of : Def := ⟨2, 2, (.cons (.ret (.and (.isi (.var 0) .str) (.cmp .in_ (.var 0) (.var 1)))) .nil)⟩
def d_names_of : Def := ⟨1, 2, (.cons (.ret (.bf .tuple false (.cons (.lc false [1] (.name 1) (.of (.atr (.var 0) 3)) .non (.ix (.var 1) (.cst (.int 0)))) .nil))) .nil)⟩
def d_is_name : Def := ⟨1, 1, (.cons (.ret (.and (.call 31 (.cons (.var 0) .nil) []) (.and (.cmp .le (.bf .len false (.cons (.var 0) .nil)) (.glo 4)) (.cmp .notin (.var 0) (.glo 3))))) .nil)⟩
def d_check_number : Def := ⟨3, 3, (.cons (.cond (.not (.of (.call 32 (.cons (.var 0) (.cons (.var 1) (.cons (.var 2) .nil))) []))) (.cons .never .nil) .nil) .nil)⟩
def d_wrong_in : Def := ⟨4, 6, (.cons (.cond (.or (.not (.of (.isi (.var 0) .tup))) (.cmp .lt (.bf .len false (.cons (.var 0) .nil)) (.var 1))) (.cons (.ret (.lst false (.cons (.cst .non) .nil))) .nil) .nil) (.cons (.for_ (.tup (.cons (.name 4) (.cons (.name 5) .nil))) (.enu (.var 0)) (.cons (.cond (.or (.cmp .eq (.var 4) (.var 2)) (.not (.of (.callV 3 (.cons (.slc false (.var 0) .non (.som (.var 4))) (.cons (.var 5) .nil)))))) (.cons (.ret (.lst false (.cons (.var 4) .nil))) .nil) .nil) .nil)) (.cons (.ret (.lst false .nil)) .nil)))⟩
def d_is_pot : Def := ⟨1, 1, (.cons (.cond (.or (.not (.of (.call 34 (.cons (.var 0) (.cons (.cst (.int 6)) .nil)) []))) (.or (.not (.of (.call 26 (.cons (.ix (.var 0) (.cst (.int 0))) .nil) []))) (.not (.of (.call 33 (.cons (.ix (.var 0) (.cst (.int 1))) (.cons (.glo 5) .nil)) []))))) (.cons (.ret (.cst (.bl false))) .nil) .nil) (.cons (.cond (.or (.not (.of (.call 35 (.cons (.ix (.var 0) (.cst (.int 2))) .nil) []))) (.or (.not (.of (.call 33 (.cons (.ix (.var 0) (.cst (.int 3))) (.cons (.glo 0) .nil)) []))) (.not (.of (.call 32 (.cons (.ix (.var 0) (.cst (.int 4))) (.cons (.ix (.var 0) (.cst (.int 3))) (.cons (.glo 0) .nil))) []))))) (.cons (.ret (.cst (.bl false))) .nil) .nil) (.cons (.ret (.call 32 (.cons (.ix (.var 0) (.cst (.int 5))) (.cons (.cst (.int 1)) (.cons (.glo 6) .nil))) [])) .nil)))⟩
def d_is_move : Def := ⟨2, 2, (.cons (.cond (.or (.not (.of (.call 34 (.cons (.var 1) (.cons (.cst (.int 3)) .nil)) []))) (.or (.not (.of (.call 24 (.cons (.ix (.var 1) (.cst (.int 0))) (.cons (.var 0) .nil)) []))) (.not (.of (.call 24 (.cons (.ix (.var 1) (.cst (.int 1))) (.cons (.var 0) .nil)) []))))) (.cons (.ret (.cst (.bl false))) .nil) .nil) (.cons (.ret (.and (.cmp .ne (.ix (.var 1) (.cst (.int 0))) (.ix (.var 1) (.cst (.int 1)))) (.call 33 (.cons (.ix (.var 1) (.cst (.int 2))) (.cons (.glo 5) .nil)) []))) .nil))⟩
def d_is_word : Def := ⟨1, 2, (.cons (.ret (.and (.isi (.var 0) .str) (.and (.cmp .ne (.var 0) (.cst (.str ""))) (.bf .all false (.cons (.lc false [1] (.name 1) (.of (.var 0)) .non (.cmp .in_ (.var 1) (.glo 7))) .nil))))) .nil)⟩
def d_is_between : Def := ⟨3, 3, (.cons (.ret (.and (.call 36 (.cons (.var 0) .nil) []) (.chn .le .le (.var 1) (.var 0) (.var 2)))) .nil)⟩
def d_is_up_to : Def := ⟨2, 2, (.cons (.ret (.call 32 (.cons (.var 0) (.cons (.cst (.int 0)) (.cons (.var 1) .nil))) [])) .nil)⟩
def d_is_tuple_of : Def := ⟨2, 2, (.cons (.ret (.and (.isi (.var 0) .tup) (.cmp .eq (.bf .len false (.cons (.var 0) .nil)) (.var 1)))) .nil)⟩
def d_are_kinds : Def := ⟨1, 1, (.cons (.ret (.cmp .eq (.call 28 (.cons (.var 0) (.cons (.cst (.int 1)) (.cons (.glo 8) (.lam 2 .nil)))) []) (.lst false .nil))) .nil)⟩
def d_is_whole : Def := ⟨1, 1, (.cons (.ret (.and (.isi (.var 0) .int) (.not (.isi (.var 0) .bool)))) .nil)⟩
def d_is_above : Def := ⟨2, 2, (.cons (.ret (.or (.cmp .eq (.var 0) (.tup .nil)) (.cmp .lt (.ix (.var 0) (.neg (.cst (.int 1)))) (.var 1)))) .nil)⟩
def l_wrong_in_pots_0 : Lam := ⟨2, [], 2, (.and (.call 29 (.cons (.var 1) .nil) []) (.or (.cmp .eq (.var 0) (.tup .nil)) (.cmp .lt (.ix (.ix (.var 0) (.neg (.cst (.int 1)))) (.cst (.int 0))) (.ix (.var 1) (.cst (.int 0))))))⟩
def l_wrong_in_moves_1 : Lam := ⟨2, [2], 3, (.and (.call 30 (.cons (.var 2) (.cons (.var 1) .nil)) []) (.or (.cmp .eq (.var 0) (.tup .nil)) (.cmp .lt (.slc false (.ix (.var 0) (.neg (.cst (.int 1)))) .non (.som (.cst (.int 2)))) (.slc false (.var 1) .non (.som (.cst (.int 2)))))))⟩
def l_are_kinds_2 : Lam := ⟨2, [], 2, (.and (.call 26 (.cons (.var 1) .nil) []) (.call 37 (.cons (.var 0) (.cons (.var 1) .nil)) []))⟩
def prog : Prog := ⟨[(0, d_law), (1, d__law_right), (2, d__law_bowl), (3, d__law_book), (4, d__law_of), (5, d__law_draw), (6, d__law_made), (7, d__law_same), (8, d_may_pay), (9, d_is_plain), (10, d_Book_parts), (11, d_Book_pots), (12, d_Book_moves), (13, d_Book__init_), (14, d_Book__eq_), (15, d__law_names), (16, d_check_book), (17, d_check_pot), (18, d_check_kind), (19, d_check_day), (20, d_may), (21, d_pot_spot), (22, d_wrong_in_pots), (23, d_wrong_in_moves), (24, d_is_one_of), (25, d_names_of), (26, d_is_name), (27, d_check_number), (28, d_wrong_in), (29, d_is_pot), (30, d_is_move), (31, d_is_word), (32, d_is_between), (33, d_is_up_to), (34, d_is_tuple_of), (35, d_are_kinds), (36, d_is_whole), (37, d_is_above)], [(0, l_wrong_in_pots_0), (1, l_wrong_in_moves_1), (2, l_are_kinds_2)], [(7, g_LETTERS), (4, g_MOST_LETTERS), (3, g_WORDS), (1, g_MOST_POTS), (2, g_MOST_MOVES), (5, g_MOST_MONEY), (8, g_MOST_KINDS), (0, g_MOST_DAY), (6, g_TWELVE)], cts, [(0, 13)], [(0, [5])], [], [((0, 2), 10), ((0, 3), 11), ((0, 4), 12)], [(0, 14)]⟩
abbrev defn : List (Str × Nat) := ([("law", 0), ("_law_right", 1), ("_law_bowl", 2), ("_law_book", 3), ("_law_of", 4), ("_law_draw", 5), ("_law_made", 6), ("_law_same", 7), ("may_pay", 8), ("is_plain", 9), ("_law_names", 15), ("check_book", 16), ("check_pot", 17), ("check_kind", 18), ("check_day", 19), ("may", 20), ("pot_spot", 21), ("wrong_in_pots", 22), ("wrong_in_moves", 23), ("is_one_of", 24), ("names_of", 25), ("is_name", 26), ("check_number", 27), ("wrong_in", 28), ("is_pot", 29), ("is_move", 30), ("is_word", 31), ("is_between", 32), ("is_up_to", 33), ("is_tuple_of", 34)] : List (Str × Nat)) ++ ([("are_kinds", 35), ("is_whole", 36), ("is_above", 37)] : List (Str × Nat))
abbrev fld : List (Nat × Str) := ([(0, "given"), (1, "index"), (2, "parts"), (3, "pots"), (4, "moves"), (5, "whole")] : List (Nat × Str))
abbrev kwt : List (Str × (List Str × List Nat)) := [("may_pay", (["day", "kind", "pot", "book"], [3, 2, 1, 0])), ("is_plain", (["book"], [0]))]
abbrev kwc : List (Str × (List Str × List Nat)) := [("Book", (["moves", "pots"], [1, 0]))]
abbrev lt : List (Nat × LamE) := [(0, (["ahead", "each"], ["ahead", "each"])), (1, (["ahead", "each", "names"], ["ahead", "each"])), (2, (["ahead", "each"], ["ahead", "each"]))]
def D0 : Dt := ⟨defn, [("LETTERS", 7), ("MOST_LETTERS", 4), ("WORDS", 3), ("MOST_POTS", 1), ("MOST_MOVES", 2), ("MOST_MONEY", 5), ("MOST_KINDS", 8), ("MOST_DAY", 0), ("TWELVE", 6)], [("Book", 0)], blt, [], fld, [(0, 13)], [(0, l_wrong_in_pots_0.caps), (1, l_wrong_in_moves_1.caps), (2, l_are_kinds_2.caps)], [], kwt, kwc, [25], [], [], [], fun _ _ => false⟩
end Mp.K02
set_option maxHeartbeats 0
namespace Mp.K02
open PySem PySem.Spec PyProof.Rows L2 He Mp
theorem kt0 : KwP L e_may_pay 0 ["day", "kind", "pot", "book"] [3, 2, 1, 0] := ⟨rfl, fun kV doc pm an cdv ct us ws zs h1 h2 h3 => match us, ws, h1, h2, h3 with
  | [], [w0, w1, w2, w3], _, _, h3 => by
    cases h3
    kernel_rfl⟩
theorem kt1 : KwP L e_is_plain 0 ["book"] [0] := ⟨rfl, fun kV doc pm an cdv ct us ws zs h1 h2 h3 => match us, ws, h1, h2, h3 with
  | [], [w0], _, _, h3 => by
    cases h3
    kernel_rfl⟩
theorem kc0 : KwP L e_Book__init_ 1 ["moves", "pots"] [0, 2, 1] := ⟨rfl, fun kV doc pm an cdv ct us ws zs h1 h2 h3 => match us, ws, h1, h2, h3 with
  | [u0], [w0, w1], _, _, h3 => by
    cases h3
    kernel_rfl⟩
theorem uq_may_pay : L.fns.all (fun e => !decide (e.at_ = (("may_pay", none) : Str × Option Str)) || decide (e = e_may_pay)) = true := by decide +kernel
theorem uq_is_plain : L.fns.all (fun e => !decide (e.at_ = (("is_plain", none) : Str × Option Str)) || decide (e = e_is_plain)) = true := by decide +kernel
theorem uq_Book__init_ : L.fns.all (fun e => !decide (e.at_ = (("Book", some "__init__") : Str × Option Str)) || decide (e = e_Book__init_)) = true := by decide +kernel
theorem pureL : PureB L prog D0 := ⟨rfl, rfl, by decide +kernel, rfl, by decide +kernel, by decide +kernel, by decide +kernel, by decide +kernel, by decide +kernel, by decide +kernel, by decide +kernel, by decide +kernel, by decide +kernel, by decide +kernel, by decide +kernel, rfl, rfl, rfl, by decide +kernel⟩
theorem chkL (T : List (Addr × Str)) : L.fns.all (chkF L prog D0 lt T) = true := by kernel_rfl
theorem lwok : LwOk L prog D0 lt := by
  refine ⟨pureL, chkL, ?_, ?_⟩
  · intro e he q hq hx
    simp only [D0, kwt, List.mem_cons, List.not_mem_nil, or_false] at hq
    rcases hq with rfl | rfl
    · rw [uq_ok uq_may_pay he hx]
      exact kt0
    · rw [uq_ok uq_is_plain he hx]
      exact kt1
  · intro e he q hq hx
    simp only [D0, kwc, List.mem_cons, List.not_mem_nil, or_false] at hq
    rcases hq with rfl
    · rw [uq_ok uq_Book__init_ he hx]
      exact kc0
end Mp.K02
namespace Mp
open PySem
structure Tag {α : Type} (Q : α → Sto → Prop) : Type where
def Wp {α : Type} (m : M α) (Q : α → Sto → Prop) (s : Sto) (_t : Tag Q := ⟨⟩) : Prop := ∃ a s', m s = .ok a s' ∧ Q a s'
def Pu {α : Type} (m : M α) (v : α) : Prop := ∀ s, m s = .ok v s
section
variable {α β : Type} {m : M α} {f : α → M β} {Q Q' : α → Sto → Prop} {QB : β → Sto → Prop} {s : Sto} {a : α}
theorem Wp.mono (h : Wp m Q s) (k : ∀ a s', Q a s' → Q' a s') : Wp m Q' s := by
  obtain ⟨a, s', h1, h2⟩ := h
  exact ⟨a, s', h1, k a s' h2⟩
theorem wq {Q' : α → Sto → Prop} (h : ∀ a s', Q a s' = Q' a s') : Wp m Q s = Wp m Q' s := by
  have e : Q = Q' := funext fun a => funext fun s' => h a s'
  subst e
  rfl
theorem w_ret : Wp (M.ret a) Q s = Q a s := propext ⟨fun ⟨b, s', h, q⟩ => by cases h; exact q, fun q => ⟨a, s, rfl, q⟩⟩
theorem w_ok {s' : Sto} (h : m s = .ok a s') : Wp m Q s = Q a s' := propext ⟨fun ⟨b, s2, h2, q⟩ => by rw [h] at h2; cases h2; exact q, fun q => ⟨a, s', h, q⟩⟩
theorem w_pu (h : Pu m a) : Wp m Q s = Q a s := w_ok (h s)
theorem w_bnd : Wp (M.bnd m f) QB s = Wp m (fun a s' => Wp (f a) QB s') s := propext ⟨fun ⟨b, s', h, q⟩ => (by
  unfold M.bnd at h
  cases e : m s with
  | ok a s1 => rw [e] at h; exact ⟨a, s1, e, b, s', h, q⟩
  | exc c v s1 => rw [e] at h; cases h
  | bad => rw [e] at h; cases h), fun ⟨a, s1, e, b, s', h, q⟩ => ⟨b, s', by unfold M.bnd; rw [e]; exact h, q⟩⟩
theorem w_grd : Wp (M.grd true m) Q s = Wp m Q s := rfl
theorem w_opt : Wp (M.opt (some a)) Q s = Q a s := w_ret
theorem w_nox : Wp (M.nox m) Q s = Wp m Q s := propext ⟨fun ⟨b, s', h, q⟩ => (by
  unfold M.nox at h
  cases e : m s with
  | ok a s1 => rw [e] at h; cases h; exact ⟨_, _, e, q⟩
  | exc c v s1 => rw [e] at h; cases h
  | bad => rw [e] at h; cases h), fun ⟨b, s', h, q⟩ => ⟨b, s', by unfold M.nox; rw [h], q⟩⟩
theorem w_if {c : Prop} [Decidable c] {m' : M α} : Wp (if c then m else m') Q s = if c then Wp m Q s else Wp m' Q s := by split <;> rfl
theorem w_iteT {m' : M α} : Wp (if true = true then m else m') Q s = Wp m Q s := by rw [if_pos rfl]
theorem w_iteF {m' : M α} : Wp (if false = true then m else m') Q s = Wp m' Q s := by rw [if_neg (by decide)]
theorem pu_of (h : ∀ s, Wp m (fun v s' => v = a ∧ s' = s) s) : Pu m a := fun s => by
  obtain ⟨v, s', h1, rfl, rfl⟩ := h s
  exact h1
theorem of_wp {s' : Sto} (h : Wp m (fun v t => v = a ∧ t = s') s) : m s = .ok a s' := by
  obtain ⟨v, s', h1, rfl, rfl⟩ := h
  exact h1
theorem wp_use {m : M α} (h : Wp m Q s) (k : ∀ a s', Q a s' → Q' a s') : Wp m Q' s := h.mono k
end
section
variable {P : Prog} {C : Call} {ρ : Mp.Env} {s : Sto}
section
variable {Q : PV → Sto → Prop}
theorem w_getVar {i : Nat} : Wp (getVar ρ i) Q s = Wp (match ρ[i]? with
  | some (some d) => M.ret d
  | _ => M.bad) (fun d s' => Wp (M.grd (!isClo d) (M.ret d)) Q s') s := by
  unfold getVar getX
  rw [w_bnd] <;> rfl
theorem w_var {i : Nat} : Wp (ev P C ρ (.var i)) Q s = Wp (getVar ρ i) Q s := rfl
theorem w_cst {c : PV} : Wp (ev P C ρ (.cst c)) Q s = Q c s := w_ret
theorem w_glo {x : Nat} : Wp (ev P C ρ (.glo x)) Q s = Wp (M.opt (P.globs.lookup x)) Q s := rfl
theorem w_bin {o : Bop} {m : Bool} {a b : E} : Wp (ev P C ρ (.bin o m a b)) Q s = Wp (ev P C ρ a) (fun x s' => Wp (ev P C ρ b) (fun y s' => Wp (binV o m x y) Q s') s') s := by
  show Wp (M.bnd (ev P C ρ a) fun x => M.bnd (ev P C ρ b) fun y => binV o m x y) Q s = _
  repeat (first | with_reducible rfl | (rw [w_bnd] <;> refine wq fun _ _ => ?_) | rw [w_ret] | rfl)
theorem w_neg {a : E} : Wp (ev P C ρ (.neg a)) Q s = Wp (ev P C ρ a) (fun x s' => Wp (match x with
    | .int i => M.ret (.int (-i))
    | _ => M.bad) Q s') s := by
  show Wp (M.bnd (ev P C ρ a) _) Q s = _
  repeat (first | with_reducible rfl | (rw [w_bnd] <;> refine wq fun _ _ => ?_) | rw [w_ret] | rfl)
theorem w_cmp {o : Cop} {a b : E} : Wp (ev P C ρ (.cmp o a b)) Q s = Wp (ev P C ρ a) (fun x s' => Wp (ev P C ρ b) (fun y s' => Wp (cmpV P.cts o x y) (fun k s' => Q (.bl k) s') s') s') s := by
  show Wp (M.bnd (ev P C ρ a) fun x => M.bnd (ev P C ρ b) fun y => M.bnd (cmpV P.cts o x y) fun k => M.ret (.bl k)) Q s = _
  repeat (first | with_reducible rfl | (rw [w_bnd] <;> refine wq fun _ _ => ?_) | rw [w_ret] | rfl)
theorem w_chn {o o' : Cop} {a b c : E} : Wp (ev P C ρ (.chn o o' a b c)) Q s = Wp (ev P C ρ a) (fun x s' => Wp (ev P C ρ b) (fun y s' => Wp (cmpV P.cts o x y) (fun k s' => Wp (if k = true then M.bnd (ev P C ρ c) fun z => M.bnd (cmpV P.cts o' y z) fun k => M.ret (.bl k) else M.ret (.bl false)) Q s') s') s') s := by
  show Wp (M.bnd (ev P C ρ a) fun x => M.bnd (ev P C ρ b) fun y => M.bnd (cmpV P.cts o x y) fun k => if k then M.bnd (ev P C ρ c) fun z => M.bnd (cmpV P.cts o' y z) fun k => M.ret (.bl k) else M.ret (.bl false)) Q s = _
  repeat (first | with_reducible rfl | (rw [w_bnd] <;> refine wq fun _ _ => ?_) | rw [w_ret] | rfl)
def andK (x : PV) (m : M PV) : M PV := match x with
  | .bl true => m
  | .bl false => M.ret (.bl false)
  | _ => M.bad
def orK (x : PV) (m : M PV) : M PV := match x with
  | .bl false => m
  | .bl true => M.ret (.bl true)
  | _ => M.bad
theorem w_and {a b : E} : Wp (ev P C ρ (.and a b)) Q s = Wp (ev P C ρ a) (fun x s' => Wp (andK x (ev P C ρ b)) Q s') s := by
  show Wp (M.bnd (ev P C ρ a) _) Q s = _
  repeat (first | with_reducible rfl | (rw [w_bnd] <;> refine wq fun _ _ => ?_) | rw [w_ret] | rfl)
theorem w_or {a b : E} : Wp (ev P C ρ (.or a b)) Q s = Wp (ev P C ρ a) (fun x s' => Wp (orK x (ev P C ρ b)) Q s') s := by
  show Wp (M.bnd (ev P C ρ a) _) Q s = _
  repeat (first | with_reducible rfl | (rw [w_bnd] <;> refine wq fun _ _ => ?_) | rw [w_ret] | rfl)
theorem w_andK {k : Bool} {m : M PV} : Wp (andK (.bl k) m) Q s = Wp (if k = true then m else M.ret (.bl false)) Q s := by cases k <;> rfl
theorem w_orK {k : Bool} {m : M PV} : Wp (orK (.bl k) m) Q s = Wp (if k = true then M.ret (.bl true) else m) Q s := by cases k <;> rfl
theorem w_not {a : E} : Wp (ev P C ρ (.not a)) Q s = Wp (ev P C ρ a) (fun x s' => Wp (match x with
    | .bl k => M.ret (.bl (!k))
    | _ => M.bad) Q s') s := by
  show Wp (M.bnd (ev P C ρ a) _) Q s = _
  repeat (first | with_reducible rfl | (rw [w_bnd] <;> refine wq fun _ _ => ?_) | rw [w_ret] | rfl)
theorem w_ite {c : T} {a b : E} : Wp (ev P C ρ (.ite c a b)) Q s = Wp (evT P C ρ c) (fun k s' => Wp (if k = true then ev P C ρ a else ev P C ρ b) Q s') s := by
  show Wp (M.bnd (evT P C ρ c) _) Q s = _
  repeat (first | with_reducible rfl | (rw [w_bnd] <;> refine wq fun _ _ => ?_) | rw [w_ret] | rfl)
theorem w_tup {es : Es} : Wp (ev P C ρ (.tup es)) Q s = Wp (evs P C ρ es) (fun xs s' => Wp (newT xs) Q s') s := w_bnd
theorem w_lst {m : Bool} {es : Es} : Wp (ev P C ρ (.lst m es)) Q s = Wp (evs P C ρ es) (fun xs s' => Wp (newL m xs) Q s') s := w_bnd
theorem w_dct {ks vs : Es} : Wp (ev P C ρ (.dct ks vs)) Q s = Wp (evs P C ρ ks) (fun ks s' => Wp (evs P C ρ vs) (fun vs s' => Wp (newD ks vs) Q s') s') s := by
  show Wp (M.bnd (evs P C ρ ks) fun ks => M.bnd (evs P C ρ vs) fun vs => newD ks vs) Q s = _
  repeat (first | with_reducible rfl | (rw [w_bnd] <;> refine wq fun _ _ => ?_) | rw [w_ret] | rfl)
theorem w_ix {a i : E} : Wp (ev P C ρ (.ix a i)) Q s = Wp (ev P C ρ a) (fun x s' => Wp (ev P C ρ i) (fun y s' => Wp (ixV x y) Q s') s') s := by
  show Wp (M.bnd (ev P C ρ a) fun x => M.bnd (ev P C ρ i) fun y => ixV x y) Q s = _
  repeat (first | with_reducible rfl | (rw [w_bnd] <;> refine wq fun _ _ => ?_) | rw [w_ret] | rfl)
theorem w_dget {a i : E} : Wp (ev P C ρ (.dget a i)) Q s = Wp (ev P C ρ a) (fun x s' => Wp (ev P C ρ i) (fun y s' => Wp (dgetV P.cts x y) Q s') s') s := by
  show Wp (M.bnd (ev P C ρ a) fun x => M.bnd (ev P C ρ i) fun y => dgetV P.cts x y) Q s = _
  repeat (first | with_reducible rfl | (rw [w_bnd] <;> refine wq fun _ _ => ?_) | rw [w_ret] | rfl)
theorem w_slc {m : Bool} {a : E} {lo hi : OE} : Wp (ev P C ρ (.slc m a lo hi)) Q s = Wp (ev P C ρ a) (fun x s' => Wp (evo P C ρ lo) (fun l s' => Wp (evo P C ρ hi) (fun h s' => Wp (slcV m x l h) Q s') s') s') s := by
  show Wp (M.bnd (ev P C ρ a) fun x => M.bnd (evo P C ρ lo) fun l => M.bnd (evo P C ρ hi) fun h => slcV m x l h) Q s = _
  repeat (first | with_reducible rfl | (rw [w_bnd] <;> refine wq fun _ _ => ?_) | rw [w_ret] | rfl)
theorem w_atr {a : E} {f : Nat} : Wp (ev P C ρ (.atr a f)) Q s = Wp (ev P C ρ a) (fun x s' => Wp (atrV P C x f) Q s') s := w_bnd
theorem w_call {k : Nat} {es : As} {dv : List PV} : Wp (ev P C ρ (.call k es dv)) Q s = Wp (eva P C ρ es) (fun xs s' => Wp (C.def_ k (xs ++ dv)) Q s') s := w_bnd
theorem w_callK {k : Nat} {es kw : Es} {ord : List Nat} : Wp (ev P C ρ (.callK k es kw ord)) Q s = Wp (evs P C ρ es) (fun xs s' => Wp (evs P C ρ kw) (fun ys s' => Wp (M.opt (argsBy (xs ++ ys) ord)) (fun zs s' => Wp (C.def_ k zs) Q s') s') s') s := by
  show Wp (M.bnd (evs P C ρ es) fun xs => M.bnd (evs P C ρ kw) fun ys => M.bnd (M.opt (argsBy (xs ++ ys) ord)) (C.def_ k)) Q s = _
  repeat (first | with_reducible rfl | (rw [w_bnd] <;> refine wq fun _ _ => ?_) | rw [w_ret] | rfl)
theorem w_mk {c : Nat} {es : Es} : Wp (ev P C ρ (.mk c es)) Q s = Wp (evs P C ρ es) (fun xs s' => Wp (C.make c xs) Q s') s := w_bnd
theorem w_mkK {c : Nat} {es kw : Es} {ord : List Nat} : Wp (ev P C ρ (.mkK c es kw ord)) Q s = Wp (evs P C ρ es) (fun xs s' => Wp (evs P C ρ kw) (fun ys s' => Wp (M.opt (argsBy (xs ++ ys) ord)) (fun zs s' => Wp (C.make c zs) Q s') s') s') s := by
  show Wp (M.bnd (evs P C ρ es) fun xs => M.bnd (evs P C ρ kw) fun ys => M.bnd (M.opt (argsBy (xs ++ ys) ord)) (C.make c)) Q s = _
  repeat (first | with_reducible rfl | (rw [w_bnd] <;> refine wq fun _ _ => ?_) | rw [w_ret] | rfl)
theorem w_bf {f : Bf} {m : Bool} {es : Es} : Wp (ev P C ρ (.bf f m es)) Q s = Wp (evs P C ρ es) (fun xs s' => Wp (bfV f m xs) Q s') s := w_bnd
theorem w_isi {a : E} {t : Ty} : Wp (ev P C ρ (.isi a t)) Q s = Wp (ev P C ρ a) (fun x s' => Wp (isB P.cls x t) (fun k s' => Q (.bl k) s') s') s := by
  show Wp (M.bnd (ev P C ρ a) fun x => M.bnd (isB P.cls x t) fun k => M.ret (.bl k)) Q s = _
  repeat (first | with_reducible rfl | (rw [w_bnd] <;> refine wq fun _ _ => ?_) | rw [w_ret] | rfl)
theorem w_callV {i : Nat} {es : Es} : Wp (ev P C ρ (.callV i es)) Q s = Wp (getX ρ i) (fun f s' => Wp (match f with
    | .clo k cs => M.bnd (evs P C ρ es) (C.clo k cs)
    | _ => M.bad) Q s') s := w_bnd
theorem w_bm {f : Bm} {m : Bool} {o : E} {es : Es} : Wp (ev P C ρ (.bm f m o es)) Q s = Wp (ev P C ρ o) (fun x s' => Wp (bmT f x) (fun _ s' => Wp (evs P C ρ es) (fun xs s' => Wp (bmV P.cts f m x xs) Q s') s') s') s := by
  show Wp (M.bnd (ev P C ρ o) fun x => M.bnd (bmT f x) fun _ => M.bnd (evs P C ρ es) (bmV P.cts f m x)) Q s = _
  repeat (first | with_reducible rfl | (rw [w_bnd] <;> refine wq fun _ _ => ?_) | rw [w_ret] | rfl)
theorem w_callI {k : Nat} {es : Es} {e : E} : Wp (ev P C ρ (.callI k es e)) Q s = Wp (evs P C ρ es) (fun xs s' => Wp (C.def_ k xs) (fun o s' => Wp (ev P C ρ e) (fun x s' => Wp (idxV o x) Q s') s') s') s := by
  show Wp (M.bnd (evs P C ρ es) fun xs => M.bnd (C.def_ k xs) fun o => M.bnd (ev P C ρ e) fun x => idxV o x) Q s = _
  repeat (first | with_reducible rfl | (rw [w_bnd] <;> refine wq fun _ _ => ?_) | rw [w_ret] | rfl)
theorem w_eqO {neg : Bool} {a b : E} : Wp (ev P C ρ (.eqO neg a b)) Q s = Wp (ev P C ρ a) (fun x s' => Wp (ev P C ρ b) (fun y s' => Wp (clsOf x) (fun c s' => Wp (eqArg c y) (fun _ s' => Wp (match P.eqs.lookup c with
    | some k => M.bnd (C.low k [x, y]) fun z => (match z with
      | .bl q => M.ret (.bl (if neg then !q else q))
      | _ => M.bad)
    | none => M.bad) Q s') s') s') s') s := by
  show Wp (M.bnd (ev P C ρ a) fun x => M.bnd (ev P C ρ b) fun y => M.bnd (clsOf x) fun c => M.bnd (eqArg c y) fun _ => _) Q s = _
  repeat (first | with_reducible rfl | (rw [w_bnd] <;> refine wq fun _ _ => ?_) | rw [w_ret] | rfl)
def elF (P : Prog) (C : Call) (ρ : Mp.Env) (own : List Nat) (g : Tg) (c : OT) (e : E) (x : PV) : M (Option PV) := M.nox (M.bnd (evg P C g x (wipe own ρ)) fun ρ' => M.bnd (evC P C ρ' c) fun k => if k then M.bnd (ev P C ρ' e) fun y => M.ret (some y) else M.ret none)
theorem w_lc {m : Bool} {own : List Nat} {g : Tg} {it : It} {c : OT} {e : E} : Wp (ev P C ρ (.lc m own g it c e)) Q s = Wp (evi P C ρ it) (fun xs s' => Wp (mapM xs.2 (elF P C ρ own g c e) xs.1 []) (fun ys s' => Wp (newL m ys) Q s') s') s := by
  show Wp (M.bnd (evi P C ρ it) fun xs => M.bnd (mapM xs.2 (elF P C ρ own g c e) xs.1 []) (newL m)) Q s = _
  repeat (first | with_reducible rfl | (rw [w_bnd] <;> refine wq fun _ _ => ?_) | rw [w_ret] | rfl)
theorem w_elF {own : List Nat} {g : Tg} {c : OT} {e : E} {x : PV} {QO : Option PV → Sto → Prop} : Wp (elF P C ρ own g c e x) QO s = Wp (evg P C g x (wipe own ρ)) (fun ρ' s' => Wp (evC P C ρ' c) (fun k s' => Wp (if k = true then M.bnd (ev P C ρ' e) fun y => M.ret (some y) else M.ret none) QO s') s') s := by
  unfold elF
  rw [w_nox]
  repeat (first | with_reducible rfl | (rw [w_bnd] <;> refine wq fun _ _ => ?_) | rw [w_ret] | rfl)
end
section
variable {QL : List PV → Sto → Prop} {QT : Bool → Sto → Prop} {QE : Mp.Env → Sto → Prop} {QF : Fl × Mp.Env → Sto → Prop} {QI : List PV × Wat → Sto → Prop}
theorem w_evaN : Wp (eva P C ρ .nil) QL s = QL [] s := w_ret
theorem w_evaC {a : E} {r : As} : Wp (eva P C ρ (.cons a r)) QL s = Wp (ev P C ρ a) (fun x s' => Wp (eva P C ρ r) (fun xs s' => QL (x :: xs) s') s') s := by
  show Wp (M.bnd (ev P C ρ a) fun x => M.bnd (eva P C ρ r) fun xs => M.ret (x :: xs)) QL s = _
  repeat (first | with_reducible rfl | (rw [w_bnd] <;> refine wq fun _ _ => ?_) | rw [w_ret] | rfl)
theorem w_evaL {k : Nat} {r : As} : Wp (eva P C ρ (.lam k r)) QL s = Wp (match P.lams.lookup k with
    | some l => M.bnd (caps ρ l.caps) fun cs => M.bnd (eva P C ρ r) fun xs => M.ret (.clo k cs :: xs)
    | none => M.bad) QL s := rfl
theorem w_evaF {i : Nat} {r : As} : Wp (eva P C ρ (.fvar i r)) QL s = Wp (getX ρ i) (fun x s' => Wp (eva P C ρ r) (fun xs s' => QL (x :: xs) s') s') s := by
  show Wp (M.bnd (getX ρ i) fun x => M.bnd (eva P C ρ r) fun xs => M.ret (x :: xs)) QL s = _
  repeat (first | with_reducible rfl | (rw [w_bnd] <;> refine wq fun _ _ => ?_) | rw [w_ret] | rfl)
theorem w_evsN : Wp (evs P C ρ .nil) QL s = QL [] s := w_ret
theorem w_evsC {a : E} {r : Es} : Wp (evs P C ρ (.cons a r)) QL s = Wp (ev P C ρ a) (fun x s' => Wp (evs P C ρ r) (fun xs s' => QL (x :: xs) s') s') s := by
  show Wp (M.bnd (ev P C ρ a) fun x => M.bnd (evs P C ρ r) fun xs => M.ret (x :: xs)) QL s = _
  repeat (first | with_reducible rfl | (rw [w_bnd] <;> refine wq fun _ _ => ?_) | rw [w_ret] | rfl)
theorem w_evoN {QO : Option Int → Sto → Prop} : Wp (evo P C ρ .non) QO s = QO none s := w_ret
theorem w_evoS {a : E} {QO : Option Int → Sto → Prop} : Wp (evo P C ρ (.som a)) QO s = Wp (ev P C ρ a) (fun x s' => Wp (match x with
    | .int i => M.ret (some i)
    | _ => M.bad) QO s') s := by
  show Wp (M.bnd (ev P C ρ a) _) QO s = _
  repeat (first | with_reducible rfl | (rw [w_bnd] <;> refine wq fun _ _ => ?_) | rw [w_ret] | rfl)
theorem w_tOf {a : E} : Wp (evT P C ρ (.of a)) QT s = Wp (ev P C ρ a) (fun x s' => Wp (truth x) QT s') s := w_bnd
theorem w_tCmp {o : Cop} {a b : E} : Wp (evT P C ρ (.cmp o a b)) QT s = Wp (ev P C ρ a) (fun x s' => Wp (ev P C ρ b) (fun y s' => Wp (cmpV P.cts o x y) QT s') s') s := by
  show Wp (M.bnd (ev P C ρ a) fun x => M.bnd (ev P C ρ b) fun y => cmpV P.cts o x y) QT s = _
  repeat (first | with_reducible rfl | (rw [w_bnd] <;> refine wq fun _ _ => ?_) | rw [w_ret] | rfl)
theorem w_tChn {o o' : Cop} {a b c : E} : Wp (evT P C ρ (.chn o o' a b c)) QT s = Wp (ev P C ρ a) (fun x s' => Wp (ev P C ρ b) (fun y s' => Wp (cmpV P.cts o x y) (fun k s' => Wp (if k = true then M.bnd (ev P C ρ c) fun z => cmpV P.cts o' y z else M.ret false) QT s') s') s') s := by
  show Wp (M.bnd (ev P C ρ a) fun x => M.bnd (ev P C ρ b) fun y => M.bnd (cmpV P.cts o x y) fun k => if k then M.bnd (ev P C ρ c) fun z => cmpV P.cts o' y z else M.ret false) QT s = _
  repeat (first | with_reducible rfl | (rw [w_bnd] <;> refine wq fun _ _ => ?_) | rw [w_ret] | rfl)
theorem w_tAnd {a b : T} : Wp (evT P C ρ (.and a b)) QT s = Wp (evT P C ρ a) (fun k s' => Wp (if k = true then evT P C ρ b else M.ret false) QT s') s := by
  show Wp (M.bnd (evT P C ρ a) _) QT s = _
  repeat (first | with_reducible rfl | (rw [w_bnd] <;> refine wq fun _ _ => ?_) | rw [w_ret] | rfl)
theorem w_tOr {a b : T} : Wp (evT P C ρ (.or a b)) QT s = Wp (evT P C ρ a) (fun k s' => Wp (if k = true then M.ret true else evT P C ρ b) QT s') s := by
  show Wp (M.bnd (evT P C ρ a) _) QT s = _
  repeat (first | with_reducible rfl | (rw [w_bnd] <;> refine wq fun _ _ => ?_) | rw [w_ret] | rfl)
theorem w_tNot {a : T} : Wp (evT P C ρ (.not a)) QT s = Wp (evT P C ρ a) (fun k s' => QT (!k) s') s := by
  show Wp (M.bnd (evT P C ρ a) fun k => M.ret (!k)) QT s = _
  repeat (first | with_reducible rfl | (rw [w_bnd] <;> refine wq fun _ _ => ?_) | rw [w_ret] | rfl)
theorem w_cN : Wp (evC P C ρ .non) QT s = QT true s := w_ret
theorem w_cS {c : T} : Wp (evC P C ρ (.som c)) QT s = Wp (evT P C ρ c) QT s := rfl
theorem w_gName {i : Nat} {v : PV} : Wp (evg P C (.name i) v ρ) QE s = QE (ρ.set i (some v)) s := w_ret
theorem w_gTup {gs : Tgs} {v : PV} : Wp (evg P C (.tup gs) v ρ) QE s = Wp (tupG (gsLen gs) (evgs P C gs) v ρ) QE s := rfl
theorem w_gSub {o i : E} {v : PV} : Wp (evg P C (.sub o i) v ρ) QE s = Wp (ev P C ρ o) (fun x s' => Wp (ev P C ρ i) (fun y s' => Wp (setV P.cts x y v) (fun _ s' => QE ρ s') s') s') s := by
  show Wp (M.bnd (ev P C ρ o) fun x => M.bnd (ev P C ρ i) fun y => M.bnd (setV P.cts x y v) fun _ => M.ret ρ) QE s = _
  repeat (first | with_reducible rfl | (rw [w_bnd] <;> refine wq fun _ _ => ?_) | rw [w_ret] | rfl)
theorem w_gFld {o : E} {f : Nat} {v : PV} : Wp (evg P C (.fld o f) v ρ) QE s = Wp (ev P C ρ o) (fun x s' => Wp (setF P.flds x f v) (fun _ s' => QE ρ s') s') s := by
  show Wp (M.bnd (ev P C ρ o) fun x => M.bnd (setF P.flds x f v) fun _ => M.ret ρ) QE s = _
  repeat (first | with_reducible rfl | (rw [w_bnd] <;> refine wq fun _ _ => ?_) | rw [w_ret] | rfl)
theorem w_gsN : Wp (evgs P C .nil [] ρ) QE s = QE ρ s := w_ret
theorem w_gsC {g : Tg} {r : Tgs} {x : PV} {xs : List PV} : Wp (evgs P C (.cons g r) (x :: xs) ρ) QE s = Wp (evg P C g x ρ) (fun ρ s' => Wp (evgs P C r xs ρ) QE s') s := by
  show Wp (M.bnd (evg P C g x ρ) fun ρ => evgs P C r xs ρ) QE s = _
  repeat (first | with_reducible rfl | (rw [w_bnd] <;> refine wq fun _ _ => ?_) | rw [w_ret] | rfl)
theorem w_tupG {n : Nat} {ms : List PV → Mp.Env → M Mp.Env} {xs : List PV} : Wp (tupG n ms (.tup xs) ρ) QE s = Wp (M.grd (decide (xs.length = n)) (ms xs ρ)) QE s := rfl
theorem w_iOf {a : E} : Wp (evi P C ρ (.of a)) QI s = Wp (ev P C ρ a) (fun x s' => Wp (itemsOf x) (fun xs s' => Wp (watOf x) (fun w s' => QI (xs, w) s') s') s') s := by
  show Wp (M.bnd (ev P C ρ a) fun x => M.bnd (itemsOf x) fun xs => M.bnd (watOf x) fun w => M.ret (xs, w)) QI s = _
  repeat (first | with_reducible rfl | (rw [w_bnd] <;> refine wq fun _ _ => ?_) | rw [w_ret] | rfl)
theorem w_iRng {a : E} : Wp (evi P C ρ (.rng a)) QI s = Wp (ev P C ρ a) (fun x s' => Wp (match x with
    | .int j => M.grd (in62 j) (M.ret (rngL 0 j, []))
    | _ => M.bad) QI s') s := by
  show Wp (M.bnd (ev P C ρ a) _) QI s = _
  repeat (first | with_reducible rfl | (rw [w_bnd] <;> refine wq fun _ _ => ?_) | rw [w_ret] | rfl)
theorem w_iEnu {a : E} : Wp (evi P C ρ (.enu a)) QI s = Wp (ev P C ρ a) (fun x s' => Wp (asS x) (fun xs s' => Wp (watOf x) (fun w s' => QI (xs.zipIdx.map fun p => .tup [.int p.2, p.1], w) s') s') s') s := by
  show Wp (M.bnd (ev P C ρ a) fun x => M.bnd (asS x) fun xs => M.bnd (watOf x) fun w => M.ret (xs.zipIdx.map fun p => .tup [.int p.2, p.1], w)) QI s = _
  repeat (first | with_reducible rfl | (rw [w_bnd] <;> refine wq fun _ _ => ?_) | rw [w_ret] | rfl)
theorem w_expr {e : E} : Wp (ex P C (.expr e) ρ) QF s = Wp (ev P C ρ e) (fun _ s' => QF (.nx, ρ) s') s := by
  show Wp (M.bnd (ev P C ρ e) fun _ => M.ret (Fl.nx, ρ)) QF s = _
  repeat (first | with_reducible rfl | (rw [w_bnd] <;> refine wq fun _ _ => ?_) | rw [w_ret] | rfl)
theorem w_asg {g : Tg} {e : E} : Wp (ex P C (.asg g e) ρ) QF s = Wp (ev P C ρ e) (fun v s' => Wp (evg P C g v ρ) (fun ρ' s' => QF (.nx, ρ') s') s') s := by
  show Wp (M.bnd (ev P C ρ e) fun v => M.bnd (evg P C g v ρ) fun ρ' => M.ret (Fl.nx, ρ')) QF s = _
  repeat (first | with_reducible rfl | (rw [w_bnd] <;> refine wq fun _ _ => ?_) | rw [w_ret] | rfl)
theorem w_retS {e : E} : Wp (ex P C (.ret e) ρ) QF s = Wp (ev P C ρ e) (fun v s' => QF (.ret v, ρ) s') s := by
  show Wp (M.bnd (ev P C ρ e) fun v => M.ret (Fl.ret v, ρ)) QF s = _
  repeat (first | with_reducible rfl | (rw [w_bnd] <;> refine wq fun _ _ => ?_) | rw [w_ret] | rfl)
theorem w_retN : Wp (ex P C .retN ρ) QF s = QF (.ret .non, ρ) s := w_ret
theorem w_pass : Wp (ex P C .pass ρ) QF s = QF (.nx, ρ) s := w_ret
theorem w_cond {c : T} {a b : Ss} : Wp (ex P C (.cond c a b) ρ) QF s = Wp (evT P C ρ c) (fun k s' => Wp (if k = true then exs P C a ρ else exs P C b ρ) QF s') s := by
  show Wp (M.bnd (evT P C ρ c) _) QF s = _
  repeat (first | with_reducible rfl | (rw [w_bnd] <;> refine wq fun _ _ => ?_) | rw [w_ret] | rfl)
def trn (P : Prog) (C : Call) (g : Tg) (b : Ss) (x : PV) (ρ : Mp.Env) : M (Fl × Mp.Env) := M.bnd (evg P C g x ρ) (exs P C b)
theorem w_trn {g : Tg} {b : Ss} {x : PV} : Wp (trn P C g b x ρ) QF s = Wp (evg P C g x ρ) (fun ρ s' => Wp (exs P C b ρ) QF s') s := w_bnd
theorem w_for {g : Tg} {it : It} {b : Ss} : Wp (ex P C (.for_ g it b) ρ) QF s = Wp (evi P C ρ it) (fun xs s' => Wp (loopM xs.2 (trn P C g b) xs.1 ρ) QF s') s := by
  show Wp (M.bnd (evi P C ρ it) fun xs => loopM xs.2 (trn P C g b) xs.1 ρ) QF s = _
  repeat (first | with_reducible rfl | (rw [w_bnd] <;> refine wq fun _ _ => ?_) | rw [w_ret] | rfl)
def sq (P : Prog) (C : Call) (r : Ss) (q : Fl × Mp.Env) : M (Fl × Mp.Env) := match q.1 with
  | .nx => exs P C r q.2
  | f => M.ret (f, q.2)
theorem w_sN : Wp (exs P C .nil ρ) QF s = QF (.nx, ρ) s := w_ret
theorem w_sC {a : S} {r : Ss} : Wp (exs P C (.cons a r) ρ) QF s = Wp (ex P C a ρ) (fun q s' => Wp (sq P C r q) QF s') s := by
  show Wp (M.bnd (ex P C a ρ) (sq P C r)) QF s = _
  rw [w_bnd]
theorem w_sqN {r : Ss} : Wp (sq P C r (.nx, ρ)) QF s = Wp (exs P C r ρ) QF s := rfl
theorem w_sqR {r : Ss} {v : PV} : Wp (sq P C r (.ret v, ρ)) QF s = QF (.ret v, ρ) s := w_ret
theorem w_sqB {r : Ss} : Wp (sq P C r (.brk, ρ)) QF s = QF (.brk, ρ) s := w_ret
theorem w_sqC {r : Ss} : Wp (sq P C r (.cnt, ρ)) QF s = QF (.cnt, ρ) s := w_ret
end
def bEnd (q : Fl × Mp.Env) : M PV := match q.1 with
  | .nx => M.ret .non
  | .ret v => M.ret v
  | _ => M.bad
theorem w_body {np nl : Nat} {b : Ss} {args : List PV} {Q : PV → Sto → Prop} (h : args.length = np) : Wp (body P C ⟨np, nl, b⟩ args) Q s = Wp (exs P C b (args.map some ++ List.replicate (nl - np) none)) (fun q s' => Wp (bEnd q) Q s') s := by
  unfold body
  rw [if_pos h, w_bnd]
  rfl
theorem w_bEndR {v : PV} {Q : PV → Sto → Prop} : Wp (bEnd (.ret v, ρ)) Q s = Q v s := w_ret
theorem w_bEndN {Q : PV → Sto → Prop} : Wp (bEnd (.nx, ρ)) Q s = Q .non s := w_ret
theorem w_def {n k : Nat} {d : Def} {args : List PV} {Q : PV → Sto → Prop} (h : P.defs.lookup k = some d) : Wp ((runs P (n + 1)).def_ k args) Q s = Wp (body P (runs P n) d args) Q s := by
  show Wp (match P.defs.lookup k with
    | some d => body P (runs P n) d args
    | none => M.bad) Q s = _
  rw [h]
theorem o_def {n k : Nat} {args : List PV} {Q : PV → Sto → Prop} (d : Def) (h : P.defs.lookup k = some d) (hl : args.length = d.np) (q : Wp (exs P (runs P n) d.body (args.map some ++ List.replicate (d.nl - d.np) none)) (fun q s' => Wp (bEnd q) Q s') s) : Wp ((runs P (n + 1)).def_ k args) Q s := by
  rw [w_def h]
  exact (w_body (b := d.body) hl).mpr q
theorem w_low {n k : Nat} {args : List PV} {Q : PV → Sto → Prop} : Wp ((runs P (n + 1)).low k args) Q s = Wp ((runs P n).def_ k args) Q s := rfl
theorem w_clo {n k : Nat} {l : Lam} {cs args : List PV} {Q : PV → Sto → Prop} (h : P.lams.lookup k = some l) (h1 : args.length = l.np) (h2 : cs.length = l.caps.length) : Wp ((runs P (n + 1)).clo k cs args) Q s = Wp (ev P (runs P n) ((args ++ cs).map some ++ List.replicate (l.nl - l.np - l.caps.length) none) l.body) Q s := by
  show Wp (match P.lams.lookup k with
    | some l => lamBody P (runs P n) l cs args
    | none => M.bad) Q s = _
  rw [h]
  show Wp (lamBody P (runs P n) l cs args) Q s = _
  unfold lamBody
  rw [if_pos ⟨h1, h2⟩]
theorem w_make {n c k : Nat} {args : List PV} {Q : PV → Sto → Prop} (h : P.cls.lookup c = some k) : Wp ((runs P (n + 1)).make c args) Q s = Wp ((runs P n).def_ k (.loc s.length :: args)) (fun v s' => Wp (nonM s.length v) Q s') (s ++ [.ins c []]) := by
  have e : (runs P (n + 1)).make c args = mkM ((runs P n).def_ k) c args := by
    show (match P.cls.lookup c with
      | some k => mkM ((runs P n).def_ k) c args
      | none => M.bad) = _
    rw [h]
  rw [e, ← w_bnd]
  rfl
end
theorem ic_int {i : Int} : isClo (.int i) = false := rfl
theorem ic_str {i : Str} : isClo (.str i) = false := rfl
theorem ic_bl {i : Bool} : isClo (.bl i) = false := rfl
theorem ic_tup {i : List PV} : isClo (.tup i) = false := rfl
theorem ic_lst {i : List PV} : isClo (.lst i) = false := rfl
theorem ic_loc {i : Nat} : isClo (.loc i) = false := rfl
theorem ic_non : isClo .non = false := rfl
theorem ic_scr {i : List Int} : isClo (.scr i) = false := rfl
def ncO (o : Option PV) : Option PV := match o with
  | some x => if isClo x = true then none else some x
  | none => none
theorem noClo_nil : noClo [] = [] := rfl
theorem noClo_cons {o : Option PV} {ρ : Mp.Env} : noClo (o :: ρ) = ncO o :: noClo ρ := by
  unfold noClo
  rw [List.map_cons]
  congr 1
  cases o with
  | none => rfl
  | some x => cases x <;> rfl
theorem nc_nil : ncO none = none := rfl
theorem nc_none : ncO none = none := rfl
theorem nc_some {x : PV} : ncO (some x) = if isClo x = true then none else some x := rfl
section
variable {cl : List (Nat × Nat)} {t : Ty}
theorem isB_int {i : Int} : isB cl (.int i) t = M.ret (match t with
    | .int => true
    | _ => false) := rfl
theorem isB_bl {i : Bool} : isB cl (.bl i) t = M.ret (match t with
    | .bool => true
    | .int => true
    | _ => false) := rfl
theorem isB_str {i : Str} : isB cl (.str i) t = M.ret (match t with
    | .str => true
    | _ => false) := rfl
theorem isB_tup {i : List PV} : isB cl (.tup i) t = M.ret (match t with
    | .tup => true
    | _ => false) := rfl
theorem isB_lst {i : List PV} : isB cl (.lst i) t = M.ret (match t with
    | .lst => true
    | _ => false) := rfl
theorem isB_non : isB cl .non t = M.ret false := rfl
theorem truth_bl {b : Bool} : truth (.bl b) = M.ret b := rfl
theorem cmpI_lt {cts : List PV} {i j : Int} : cmpV cts .lt (.int i) (.int j) = M.ret (decide (i < j)) := rfl
theorem cmpI_le {cts : List PV} {i j : Int} : cmpV cts .le (.int i) (.int j) = M.ret (decide (i ≤ j)) := rfl
theorem cmpI_gt {cts : List PV} {i j : Int} : cmpV cts .gt (.int i) (.int j) = M.ret (decide (j < i)) := rfl
theorem cmpI_ge {cts : List PV} {i j : Int} : cmpV cts .ge (.int i) (.int j) = M.ret (decide (j ≤ i)) := rfl
end
section
variable {α : Type} {P : Prog} {C : Call}
theorem w_watch {Q : Unit → Sto → Prop} {s : Sto} : Wp (watch []) Q s = Q () s := w_ok rfl
def afterT (I : Mp.Env → Sto → Prop) (Q : Fl × Mp.Env → Sto → Prop) (q : Fl × Mp.Env) (s : Sto) : Prop := match q.1 with
  | .nx => I q.2 s
  | .cnt => I q.2 s
  | .brk => Q (.nx, q.2) s
  | .ret v => Q (.ret v, q.2) s
theorem wp_loop {f : PV → Mp.Env → M (Fl × Mp.Env)} {Q : Fl × Mp.Env → Sto → Prop} {e : α → PV} (I : List α → Mp.Env → Sto → Prop) : ∀ (l : List α) (ρ : Mp.Env) (s : Sto), I l ρ s →
    (∀ x r ρ s, (∃ p, l = p ++ x :: r) → I (x :: r) ρ s → Wp (f (e x) ρ) (afterT (I r) Q) s) → (∀ ρ s, I [] ρ s → Q (.nx, ρ) s) → Wp (loopM [] f (l.map e) ρ) Q s
  | [], ρ, s, h, _, k => by
    show Wp (M.bnd (watch []) fun _ => M.ret (Fl.nx, ρ)) Q s
    rw [w_bnd, w_watch, w_ret]
    exact k ρ s h
  | x :: r, ρ, s, h, t, k => by
    show Wp (M.bnd (watch []) fun _ => M.bnd (f (e x) ρ) fun q => (match q.1 with
      | .nx => loopM [] f (r.map e) q.2
      | .cnt => loopM [] f (r.map e) q.2
      | .brk => M.ret (.nx, q.2)
      | .ret v => M.ret (.ret v, q.2))) Q s
    rw [w_bnd, w_watch, w_bnd]
    refine (t x r ρ s ⟨[], rfl⟩ h).mono fun q s' hq => ?_
    obtain ⟨fl, ρ'⟩ := q
    have go : I r ρ' s' → Wp (loopM [] f (r.map e) ρ') Q s' := fun h' => wp_loop I r ρ' s' h' (fun y r' ρ s ⟨p, hp⟩ => t y r' ρ s ⟨x :: p, by rw [hp]; rfl⟩) k
    cases fl with
    | nx => exact go hq
    | cnt => exact go hq
    | brk => show Wp (M.ret _) Q s'; rw [w_ret]; exact hq
    | ret v => show Wp (M.ret _) Q s'; rw [w_ret]; exact hq
theorem wp_map {f : PV → M (Option PV)} {Q : List PV → Sto → Prop} {e : α → PV} (I : List α → List PV → Sto → Prop) : ∀ (l : List α) (acc : List PV) (s : Sto), I l acc s →
    (∀ x r acc s, (∃ p, l = p ++ x :: r) → I (x :: r) acc s → Wp (f (e x)) (fun o s' => I r (addO acc o) s') s) → (∀ acc s, I [] acc s → Q acc s) → Wp (Mp.mapM [] f (l.map e) acc) Q s
  | [], acc, s, h, _, k => by
    show Wp (M.bnd (watch []) fun _ => M.ret acc) Q s
    rw [w_bnd, w_watch, w_ret]
    exact k acc s h
  | x :: r, acc, s, h, t, k => by
    show Wp (M.bnd (watch []) fun _ => M.bnd (f (e x)) fun o => Mp.mapM [] f (r.map e) (addO acc o)) Q s
    rw [w_bnd, w_watch, w_bnd]
    exact (t x r acc s ⟨[], rfl⟩ h).mono fun o s' hq => wp_map I r (addO acc o) s' hq (fun y r' acc s ⟨p, hp⟩ => t y r' acc s ⟨x :: p, by rw [hp]; rfl⟩) k
theorem wp_mapP {f : PV → M (Option PV)} {Q : List PV → Sto → Prop} {e : α → PV} (g : α → Option PV) {l : List α} {s : Sto} (h : ∀ x ∈ l, Wp (f (e x)) (fun o s' => o = g x ∧ s' = s) s) (k : Q (l.filterMap g) s) : Wp (Mp.mapM [] f (l.map e) []) Q s := by
  refine wp_map (fun r acc t => t = s ∧ ∃ p, l = p ++ r ∧ acc = p.filterMap g) l [] s ⟨rfl, [], rfl, rfl⟩ (fun x r acc t ⟨_, hp⟩ ⟨ht, p, hl, ha⟩ => ?_) (fun acc t ⟨ht, p, hl, ha⟩ => ?_)
  · subst ht ha
    refine (h x (by rw [hl]; simp)).mono fun o s' ⟨h1, h2⟩ => ?_
    subst h1 h2
    refine ⟨rfl, p ++ [x], by rw [hl]; simp, ?_⟩
    rw [List.filterMap_append]
    cases q : g x <;> simp [addO, q]
  · subst ht ha
    rw [List.append_nil] at hl
    subst hl
    exact k
end
end Mp
namespace Mp
open PySem
theorem asD_of {x : PV} {d : PyData} (h : x.toD = some d) : asD x = M.ret d := by
  funext s
  cases x with
  | loc n => cases h
  | _ => unfold asD; simp only [h]; rfl
theorem eq_of {cts : List PV} {x y : PV} {d e : PyData} (hx : x.toD = some d) (hy : y.toD = some e) (hd : min d.depth e.depth ≤ 60) : cmpV cts .eq x y = M.ret (PyData.eqv d e) := by
  funext s
  have h0 : isD0 s x = false := by cases x <;> first | rfl | (cases hx; done)
  show (if isD0 s x && isD0 s y then Out.ok true s else eqV x y s) = _
  rw [h0]
  show eqV x y s = _
  unfold eqV
  rw [asD_of hx, asD_of hy]
  simp [M.bnd, M.ret, M.grd, hd]
theorem ne_of {cts : List PV} {x y : PV} {d e : PyData} (hx : x.toD = some d) (hy : y.toD = some e) (hd : min d.depth e.depth ≤ 60) : cmpV cts .ne x y = M.ret (!PyData.eqv d e) := by
  funext s
  show (M.bnd (asD x) fun d => M.bnd (asD y) fun e => M.grd (decide (min d.depth e.depth ≤ 60)) (M.ret (!PyData.eqv d e))) s = _
  rw [asD_of hx, asD_of hy]
  simp [M.bnd, M.ret, M.grd, hd]
theorem toDs_map {α : Type} {f : α → PV} {g : α → PyData} (h : ∀ x, (f x).toD = some (g x)) : ∀ l : List α, PV.toDs (l.map f) = some (l.map g)
  | [] => rfl
  | x :: l => by
    show PV.toDs (f x :: l.map f) = _
    unfold PV.toDs
    rw [h x, toDs_map h l]
    rfl
theorem toD_tup {xs : List PV} {ds : List PyData} (h : PV.toDs xs = some ds) : (PV.tup xs).toD = some (.tuple ds) := by
  unfold PV.toD
  rw [h]
  rfl
theorem toD_lst {xs : List PV} {ds : List PyData} (h : PV.toDs xs = some ds) : (PV.lst xs).toD = some (.list ds) := by
  unfold PV.toD
  rw [h]
  rfl
theorem toD_str {z : Str} : (PV.str z).toD = some (.str z) := rfl
theorem toD_int {z : Int} : (PV.int z).toD = some (.int z) := rfl
theorem toD_bl {z : Bool} : (PV.bl z).toD = some (.bool z) := rfl
theorem toDs_strs (zs : List Str) : PV.toDs (zs.map .str) = some (zs.map .str) := toDs_map (fun _ => rfl) zs
theorem eqI {cts : List PV} {i j : Int} : cmpV cts .eq (.int i) (.int j) = M.ret (decide (i = j)) := by
  rw [eq_of toD_int toD_int (by simp [PyData.depth])]
  congr 1
theorem neI {cts : List PV} {i j : Int} : cmpV cts .ne (.int i) (.int j) = M.ret (!decide (i = j)) := by
  rw [ne_of toD_int toD_int (by simp [PyData.depth])]
  congr 1
theorem eqS {cts : List PV} {i j : Str} : cmpV cts .eq (.str i) (.str j) = M.ret (decide (i = j)) := by
  rw [eq_of toD_str toD_str (by simp [PyData.depth])]
  congr 1
theorem neS {cts : List PV} {i j : Str} : cmpV cts .ne (.str i) (.str j) = M.ret (!decide (i = j)) := by
  rw [ne_of toD_str toD_str (by simp [PyData.depth])]
  congr 1
theorem eqB' {cts : List PV} {i j : Bool} : cmpV cts .eq (.bl i) (.bl j) = M.ret (i == j) := eq_of toD_bl toD_bl (by simp [PyData.depth])
theorem eqv_nil {ds : List PyData} : PyData.eqvAll ds [] = ds.isEmpty := by cases ds <;> simp [PyData.eqvAll]
theorem toDs_empty {xs : List PV} {ds : List PyData} (h : PV.toDs xs = some ds) : ds.isEmpty = xs.isEmpty := by
  cases xs with
  | nil => cases h; rfl
  | cons x xs =>
    unfold PV.toDs at h
    split at h
    · cases h; rfl
    · cases h
theorem eqT0 {cts : List PV} {xs : List PV} {ds : List PyData} (h : PV.toDs xs = some ds) : cmpV cts .eq (.tup xs) (.tup []) = M.ret xs.isEmpty := by
  rw [eq_of (toD_tup h) (e := .tuple []) rfl (by simp [PyData.depth, PyData.depthAll]), ← toDs_empty h]
  show M.ret (PyData.eqv (.tuple ds) (.tuple [])) = _
  rw [PyData.eqv, eqv_nil]
theorem neT0 {cts : List PV} {xs : List PV} {ds : List PyData} (h : PV.toDs xs = some ds) : cmpV cts .ne (.tup xs) (.tup []) = M.ret (!xs.isEmpty) := by
  rw [ne_of (toD_tup h) (e := .tuple []) rfl (by simp [PyData.depth, PyData.depthAll]), ← toDs_empty h]
  show M.ret (!PyData.eqv (.tuple ds) (.tuple [])) = _
  rw [PyData.eqv, eqv_nil]
theorem eqL0 {cts : List PV} {xs : List PV} {ds : List PyData} (h : PV.toDs xs = some ds) : cmpV cts .eq (.lst xs) (.lst []) = M.ret xs.isEmpty := by
  rw [eq_of (toD_lst h) (e := .list []) rfl (by simp [PyData.depth, PyData.depthAll]), ← toDs_empty h]
  show M.ret (PyData.eqv (.list ds) (.list [])) = _
  rw [PyData.eqv, eqv_nil]
theorem eqL00 {cts : List PV} : cmpV cts .eq (.lst []) (.lst []) = M.ret true := eqL0 (ds := []) rfl
theorem eqT00 {cts : List PV} : cmpV cts .eq (.tup []) (.tup []) = M.ret true := eqT0 (ds := []) rfl
theorem any_strs {z : Str} {zs : List Str} : ((zs.map PyData.str).any fun e => PyData.eqv e (.str z)) = decide (z ∈ zs) := by
  induction zs with
  | nil => rfl
  | cons y zs ih =>
    rw [List.map_cons, List.any_cons, ih]
    show ((y == z) || decide (z ∈ zs)) = _
    by_cases e : z = y
    · subst e
      simp
    · have : (y == z) = false := by simpa using fun q => e q.symm
      rw [this]
      simp [e]
theorem inTS {cts : List PV} {z : Str} {zs : List Str} : cmpV cts .in_ (.str z) (.tup (zs.map .str)) = M.ret (decide (z ∈ zs)) := by
  show inD (.str z) (.tup (zs.map .str)) = _
  unfold inD
  rw [asD_of (toD_tup (toDs_strs zs)), asD_of toD_str]
  funext s
  simp only [M.bnd, M.ret, M.grd, PyData.depth, Nat.zero_le, decide_true, if_true, any_strs]
theorem inLS {cts : List PV} {z : Str} {zs : List Str} : cmpV cts .in_ (.str z) (.lst (zs.map .str)) = M.ret (decide (z ∈ zs)) := by
  show inD (.str z) (.lst (zs.map .str)) = _
  unfold inD
  rw [asD_of (toD_lst (toDs_strs zs)), asD_of toD_str]
  funext s
  simp only [M.bnd, M.ret, M.grd, PyData.depth, Nat.zero_le, decide_true, if_true, any_strs]
theorem notinTS {cts : List PV} {z : Str} {zs : List Str} : cmpV cts .notin (.str z) (.tup (zs.map .str)) = M.ret (!decide (z ∈ zs)) := by
  show M.bnd (cmpV cts .in_ (.str z) (.tup (zs.map .str))) (fun b => M.ret (!b)) = _
  rw [inTS]
  rfl
theorem notinLS {cts : List PV} {z : Str} {zs : List Str} : cmpV cts .notin (.str z) (.lst (zs.map .str)) = M.ret (!decide (z ∈ zs)) := by
  show M.bnd (cmpV cts .in_ (.str z) (.lst (zs.map .str))) (fun b => M.ret (!b)) = _
  rw [inLS]
  rfl
def sLt (a b : Str) : Prop := a.cps.toList < b.cps.toList
instance (a b : Str) : Decidable (sLt a b) := inferInstanceAs (Decidable (_ < _))
theorem sLt_irrefl (a : Str) : ¬ sLt a a := List.lt_irrefl _
theorem sLt_trans {a b c : Str} (h : sLt a b) (k : sLt b c) : sLt a c := List.lt_trans h k
theorem str_ext {a b : Str} (h : a.cps.toList = b.cps.toList) : a = b := by
  obtain ⟨⟨a⟩⟩ := a
  obtain ⟨⟨b⟩⟩ := b
  cases h
  rfl
theorem sLt_of {a b : Str} (h : ¬ sLt b a) (n : a ≠ b) : sLt a b := by
  unfold sLt at *
  rcases Decidable.em (a.cps.toList < b.cps.toList) with q | q
  · exact q
  · exact absurd (str_ext (List.le_antisymm (List.not_lt.mp h) (List.not_lt.mp q))) n
theorem ltS {cts : List PV} {i j : Str} : cmpV cts .lt (.str i) (.str j) = M.ret (decide (sLt i j)) := by
  show M.bnd (asD (.str i)) (fun d => M.bnd (asD (.str j)) fun e => M.opt (lt2 d e)) = _
  rw [asD_of toD_str, asD_of toD_str]
  funext s
  have e : lt2 (.str i) (.str j) = some (decide (sLt i j)) := by
    unfold lt2
    rw [if_pos (by simp [PySem.W.alike, PyData.depth])]
    show some (PySem.W.dataLt (.str i) (.str j)) = _
    rw [PySem.W.dataLt_str]
    rfl
  simp only [M.bnd, M.ret, e, M.opt]
def pLt (a b : Str × Str) : Prop := sLt a.1 b.1 ∨ (a.1 = b.1 ∧ sLt a.2 b.2)
instance (a b : Str × Str) : Decidable (pLt a b) := inferInstanceAs (Decidable (_ ∨ _))
theorem dataLt_s (a b : Str) : PySem.W.dataLt (.str a) (.str b) = decide (sLt a b) := PySem.W.dataLt_str a b
theorem dataLt_ss {a b c d : Str} : PySem.W.dataLt (.tuple [.str a, .str b]) (.tuple [.str c, .str d]) = decide (pLt (a, b) (c, d)) := by
  rw [PySem.W.dataLt_pair (by simp [PySem.W.alike]) (by simp [PySem.W.alike]), dataLt_s, dataLt_s]
  simp only [PyData.eqv, beq_iff_eq]
  by_cases h1 : a = c
  · subst h1
    by_cases h2 : b = d
    · subst h2
      simp [pLt, sLt_irrefl]
    · simp [pLt, sLt_irrefl, h2]
  · simp [pLt, h1]
theorem ltP {cts : List PV} {a b c d : Str} : cmpV cts .lt (.tup [.str a, .str b]) (.tup [.str c, .str d]) = M.ret (decide (pLt (a, b) (c, d))) := by
  show M.bnd (asD (.tup [.str a, .str b])) (fun d1 => M.bnd (asD (.tup [.str c, .str d])) fun e => M.opt (lt2 d1 e)) = _
  rw [asD_of (d := .tuple [.str a, .str b]) rfl, asD_of (d := .tuple [.str c, .str d]) rfl]
  funext s
  have e : lt2 (.tuple [.str a, .str b]) (.tuple [.str c, .str d]) = some (decide (pLt (a, b) (c, d))) := by
    unfold lt2
    rw [if_pos (by simp [PySem.W.alike, PySem.W.alikeAll, PyData.depth, PyData.depthAll])]
    show some (PySem.W.dataLt (.tuple [.str a, .str b]) (.tuple [.str c, .str d])) = _
    rw [dataLt_ss]
  simp only [M.bnd, M.ret, e, M.opt]
theorem cut_take {α : Type} (xs : List α) (k : Nat) : cut xs none (some (k : Int)) = xs.take k := by
  unfold cut
  rw [HT.sIx_none, HT.sIx_nat, List.drop_zero, Nat.sub_zero]
  rcases Nat.le_total k xs.length with h | h
  · rw [Nat.min_eq_left h]
  · rw [Nat.min_eq_right h, List.take_length, List.take_of_length_le h]
theorem cut_drop {α : Type} (xs : List α) (k : Nat) : cut xs (some (k : Int)) none = xs.drop k := by
  unfold cut
  rw [HT.sIx_none, HT.sIx_nat]
  rcases Nat.le_total k xs.length with h | h
  · rw [Nat.min_eq_left h, List.take_of_length_le (by rw [List.length_drop]; exact Nat.le_refl _)]
  · rw [Nat.min_eq_right h, List.drop_length, List.drop_of_length_le h]
    simp
theorem atI_nat {α : Type} (xs : List α) (k : Nat) : L2.atI xs (k : Int) = xs[k]? := by
  unfold L2.atI L2.ixN
  rw [if_pos (Int.natCast_nonneg k)]
  by_cases h : k < xs.length
  · rw [if_pos (by omega)]
    simp
  · rw [if_neg (by omega)]
    rw [List.getElem?_eq_none (by omega)]
    rfl
theorem atI_last {α : Type} {xs : List α} (h : xs ≠ []) : L2.atI xs (-1) = xs[xs.length - 1]? := by
  have hl : 0 < xs.length := List.length_pos_iff.mpr h
  unfold L2.atI L2.ixN
  rw [if_neg (by omega), if_pos (by omega)]
  show xs[((-1 : Int) + xs.length).toNat]? = _
  congr 1
  omega
theorem ix_tup {xs : List PV} {k : Int} {s : Sto} {Q : PV → Sto → Prop} : Wp (ixV (.tup xs) (.int k)) Q s = Wp (M.opt (L2.atI xs k)) Q s := rfl
theorem ix_lst {xs : List PV} {k : Int} {s : Sto} {Q : PV → Sto → Prop} : Wp (ixV (.lst xs) (.int k)) Q s = Wp (M.opt (L2.atI xs k)) Q s := rfl
theorem slc_tup {m : Bool} {xs : List PV} {lo hi : Option Int} : slcV m (.tup xs) lo hi = M.ret (.tup (cut xs lo hi)) := rfl
theorem slc_str {m : Bool} {z : Str} {lo hi : Option Int} : slcV m (PV.str z) lo hi = M.ret (PV.str ⟨(cut z.cps.toList lo hi).toArray⟩) := rfl
theorem len_tup {xs : List PV} {m : Bool} : bfV .len m [.tup xs] = M.ret (.int xs.length) := rfl
theorem len_lst {xs : List PV} {m : Bool} : bfV .len m [.lst xs] = M.ret (.int xs.length) := rfl
theorem len_str {z : Str} {m : Bool} : bfV .len m [.str z] = M.ret (.int z.length) := rfl
theorem tuple_lst {xs : List PV} {m : Bool} : bfV .tuple m [.lst xs] = M.ret (.tup xs) := rfl
theorem items_tup {xs : List PV} : itemsOf (.tup xs) = M.ret xs := rfl
theorem items_lst {xs : List PV} : itemsOf (.lst xs) = M.ret xs := rfl
theorem wat_tup {xs : List PV} : watOf (.tup xs) = M.ret [] := rfl
theorem wat_lst {xs : List PV} : watOf (.lst xs) = M.ret [] := rfl
theorem wat_str {z : Str} : watOf (.str z) = M.ret [] := rfl
theorem items_str {z : Str} : itemsOf (.str z) = M.ret (chars z) := rfl
theorem asS_tup {xs : List PV} : asS (.tup xs) = M.ret xs := rfl
theorem asS_lst {xs : List PV} : asS (.lst xs) = M.ret xs := rfl
theorem newT_ok' {xs : List PV} (h : xs.length ≤ SZ) : newT xs = M.ret (.tup xs) := by
  unfold newT M.grd
  rw [decide_eq_true h]
  rfl
theorem newL_f {xs : List PV} (h : xs.length ≤ SZ) : newL false xs = M.ret (.lst xs) := by
  funext s
  unfold newL
  rw [if_pos h]
  rfl
theorem newL_t {xs : List PV} (h : xs.length ≤ SZ) {Q : PV → Sto → Prop} {s : Sto} : Wp (newL true xs) Q s = Q (.loc s.length) (s ++ [.lst xs]) := w_ok (by
  unfold newL
  rw [if_pos h]
  rfl)
theorem bin_add {m : Bool} {i j : Int} : binV .add m (.int i) (.int j) = M.ret (.int (i + j)) := rfl
theorem bin_sub {m : Bool} {i j : Int} : binV .sub m (.int i) (.int j) = M.ret (.int (i - j)) := rfl
theorem bin_mulR {m : Bool} {i j : Int} (h : in64 j = true) : binV .mul m (.int i) (.int j) = M.ret (.int (i * j)) := by
  show M.grd (in64 i || in64 j) _ = _
  rw [h, Bool.or_true]
  rfl
theorem bin_mulL {m : Bool} {i j : Int} (h : in64 i = true) : binV .mul m (.int i) (.int j) = M.ret (.int (i * j)) := by
  show M.grd (in64 i || in64 j) _ = _
  rw [h, Bool.true_or]
  rfl
theorem bin_modG {m : Bool} {i j : Int} : binV .mod m (.int i) (.int j) = M.grd (decide (j ≠ 0)) (M.ret (.int (i.fmod j))) := rfl
theorem bin_fdivG {m : Bool} {i j : Int} : binV .fdiv m (.int i) (.int j) = M.grd (decide (j ≠ 0) && decide (j.natAbs < 1073741824)) (M.ret (.int (i.fdiv j))) := rfl
theorem bin_powG {m : Bool} {i j : Int} : binV .pow m (.int i) (.int j) = M.grd (decide (0 ≤ j) && decide (j ≤ 1000000) && in64 i) (M.ret (.int (i ^ j.toNat))) := rfl
theorem int_int {m : Bool} {i : Int} : bfV .int m [.int i] = M.ret (.int i) := rfl
theorem abs_int {m : Bool} {i : Int} : bfV .abs m [.int i] = M.ret (.int (if i < 0 then -i else i)) := rfl
theorem min2_i {m : Bool} {i j : Int} : bfV .min2 m [.int i, .int j] = M.ret (.int (if j < i then j else i)) := rfl
theorem max2_i {m : Bool} {i j : Int} : bfV .max2 m [.int i, .int j] = M.ret (.int (if j > i then j else i)) := rfl
theorem eqArg_at {b c : Nat} {fs : List (Nat × PV)} {s : Sto} (h : s[b]? = some (.ins c fs)) : eqArg c (.loc b) s = .ok () s := by
  unfold eqArg
  simp [h]
theorem eqArg_tup {c : Nat} {xs : List PV} : eqArg c (.tup xs) = M.ret () := rfl
theorem items_scr {ns : List Int} : itemsOf (.scr ns) = M.ret (ns.map .int) := rfl
theorem wat_scr {ns : List Int} : watOf (.scr ns) = M.ret [] := rfl
theorem len_scr {ns : List Int} {m : Bool} : bfV .len m [.scr ns] = M.ret (.int (ns.map PV.int).length) := rfl
theorem slc_scr {m : Bool} {ns : List Int} {lo hi : Option Int} : slcV m (.scr ns) lo hi = newL m (cut (ns.map PV.int) lo hi) := rfl
theorem ix_scr {ns : List Int} {k : Int} {s : Sto} {Q : PV → Sto → Prop} : Wp (ixV (.scr ns) (.int k)) Q s = Wp (M.opt (L2.atI (ns.map PV.int) k)) Q s := rfl
theorem bin_addT {m : Bool} {xs ys : List PV} : binV .add m (.tup xs) (.tup ys) = newT (xs ++ ys) := rfl
theorem bin_addL {m : Bool} {xs ys : List PV} : binV .add m (.lst xs) (.lst ys) = newL m (xs ++ ys) := rfl
theorem bin_addS {m : Bool} {a b : Str} (h : a.length + b.length ≤ SZ) : binV .add m (.str a) (.str b) = M.ret (.str (a ++ b)) := by
  show M.grd (decide (a.length + b.length ≤ SZ)) (M.ret (PV.str (a ++ b))) = _
  rw [decide_eq_true h]
  rfl
theorem all_bls {bs : List Bool} {m : Bool} : bfV .all m [.lst (bs.map .bl)] = M.ret (.bl (bs.all id)) := by
  have h : asBls (bs.map .bl) = some bs := by
    induction bs with
    | nil => rfl
    | cons b bs ih =>
      show (asBls (bs.map .bl)).map (b :: ·) = _
      rw [ih]
      rfl
  show M.bnd (asL2 (.lst (bs.map .bl))) (fun ys => M.bnd (M.opt (asBls ys)) fun bs => M.ret (PV.bl (bs.all id))) = _
  funext s
  show M.bnd (M.opt (asBls (bs.map .bl))) (fun bs => M.ret (PV.bl (bs.all id))) s = _
  rw [h]
  rfl
theorem all_trues {k : Nat} {m : Bool} : bfV .all m [.lst (List.replicate k (.bl true))] = M.ret (.bl true) := by
  have : (List.replicate k (.bl true) : List PV) = (List.replicate k true).map .bl := by rw [List.map_replicate]
  rw [this, all_bls]
  simp
theorem newT_0 : newT [] = M.ret (.tup []) := newT_ok' (by show 0 ≤ 16777216; decide)
theorem newL_0 : newL false [] = M.ret (.lst []) := newL_f (by show 0 ≤ 16777216; decide)
theorem newT_1 {x0 : PV} : newT [x0] = M.ret (.tup [x0]) := newT_ok' (by show 1 ≤ 16777216; decide)
theorem newL_1 {x0 : PV} : newL false [x0] = M.ret (.lst [x0]) := newL_f (by show 1 ≤ 16777216; decide)
theorem newT_2 {x0 x1 : PV} : newT [x0, x1] = M.ret (.tup [x0, x1]) := newT_ok' (by show 2 ≤ 16777216; decide)
theorem newL_2 {x0 x1 : PV} : newL false [x0, x1] = M.ret (.lst [x0, x1]) := newL_f (by show 2 ≤ 16777216; decide)
theorem newT_3 {x0 x1 x2 : PV} : newT [x0, x1, x2] = M.ret (.tup [x0, x1, x2]) := newT_ok' (by show 3 ≤ 16777216; decide)
theorem newL_3 {x0 x1 x2 : PV} : newL false [x0, x1, x2] = M.ret (.lst [x0, x1, x2]) := newL_f (by show 3 ≤ 16777216; decide)
theorem newT_4 {x0 x1 x2 x3 : PV} : newT [x0, x1, x2, x3] = M.ret (.tup [x0, x1, x2, x3]) := newT_ok' (by show 4 ≤ 16777216; decide)
theorem newL_4 {x0 x1 x2 x3 : PV} : newL false [x0, x1, x2, x3] = M.ret (.lst [x0, x1, x2, x3]) := newL_f (by show 4 ≤ 16777216; decide)
theorem newT_5 {x0 x1 x2 x3 x4 : PV} : newT [x0, x1, x2, x3, x4] = M.ret (.tup [x0, x1, x2, x3, x4]) := newT_ok' (by show 5 ≤ 16777216; decide)
theorem newL_5 {x0 x1 x2 x3 x4 : PV} : newL false [x0, x1, x2, x3, x4] = M.ret (.lst [x0, x1, x2, x3, x4]) := newL_f (by show 5 ≤ 16777216; decide)
theorem newT_6 {x0 x1 x2 x3 x4 x5 : PV} : newT [x0, x1, x2, x3, x4, x5] = M.ret (.tup [x0, x1, x2, x3, x4, x5]) := newT_ok' (by show 6 ≤ 16777216; decide)
theorem newL_6 {x0 x1 x2 x3 x4 x5 : PV} : newL false [x0, x1, x2, x3, x4, x5] = M.ret (.lst [x0, x1, x2, x3, x4, x5]) := newL_f (by show 6 ≤ 16777216; decide)
theorem newT_7 {x0 x1 x2 x3 x4 x5 x6 : PV} : newT [x0, x1, x2, x3, x4, x5, x6] = M.ret (.tup [x0, x1, x2, x3, x4, x5, x6]) := newT_ok' (by show 7 ≤ 16777216; decide)
theorem newL_7 {x0 x1 x2 x3 x4 x5 x6 : PV} : newL false [x0, x1, x2, x3, x4, x5, x6] = M.ret (.lst [x0, x1, x2, x3, x4, x5, x6]) := newL_f (by show 7 ≤ 16777216; decide)
theorem newT_8 {x0 x1 x2 x3 x4 x5 x6 x7 : PV} : newT [x0, x1, x2, x3, x4, x5, x6, x7] = M.ret (.tup [x0, x1, x2, x3, x4, x5, x6, x7]) := newT_ok' (by show 8 ≤ 16777216; decide)
theorem newL_8 {x0 x1 x2 x3 x4 x5 x6 x7 : PV} : newL false [x0, x1, x2, x3, x4, x5, x6, x7] = M.ret (.lst [x0, x1, x2, x3, x4, x5, x6, x7]) := newL_f (by show 8 ≤ 16777216; decide)
theorem newT_9 {x0 x1 x2 x3 x4 x5 x6 x7 x8 : PV} : newT [x0, x1, x2, x3, x4, x5, x6, x7, x8] = M.ret (.tup [x0, x1, x2, x3, x4, x5, x6, x7, x8]) := newT_ok' (by show 9 ≤ 16777216; decide)
theorem newL_9 {x0 x1 x2 x3 x4 x5 x6 x7 x8 : PV} : newL false [x0, x1, x2, x3, x4, x5, x6, x7, x8] = M.ret (.lst [x0, x1, x2, x3, x4, x5, x6, x7, x8]) := newL_f (by show 9 ≤ 16777216; decide)
theorem w_loop0 {f : PV → Mp.Env → M (Fl × Mp.Env)} {ρ : Mp.Env} {Q : Fl × Mp.Env → Sto → Prop} {s : Sto} : Wp (loopM [] f [] ρ) Q s = Q (.nx, ρ) s := by
  show Wp (M.bnd (watch []) fun _ => M.ret (Fl.nx, ρ)) Q s = _
  rw [w_bnd, w_watch, w_ret]
theorem w_setF {fl : List (Nat × List Nat)} {b c f : Nat} {fs : List (Nat × PV)} {v : PV} {s : Sto} {Q : Unit → Sto → Prop} (h : s[b]? = some (.ins c fs)) (h1 : isFld fl c f = true) (h2 : fs.length < 900) : Wp (setF fl (.loc b) f v) Q s = Q () (s.set b (.ins c (fput f v fs))) := w_ok (by
  show (match s[b]? with
    | some (.ins c fs) => if isFld fl c f && decide (fs.length < 900) then Out.ok () (s.set b (.ins c (fput f v fs))) else .bad
    | _ => .bad) = _
  rw [h]
  simp [h1, h2])
theorem clsOf_at {b c : Nat} {fs : List (Nat × PV)} {s : Sto} (h : s[b]? = some (.ins c fs)) : clsOf (.loc b) s = .ok c s := by
  show (match s[b]? with
    | some (.ins c _) => Out.ok c s
    | _ => .bad) = _
  rw [h]
theorem w_atrP {P : Prog} {C : Call} {b c f k : Nat} {fs : List (Nat × PV)} {s : Sto} {Q : PV → Sto → Prop} (h : s[b]? = some (.ins c fs)) (hp : P.props.lookup (c, f) = some k) : Wp (atrV P C (.loc b) f) Q s = Wp (C.low k [.loc b]) Q s := by
  show Wp (M.bnd (clsOf (.loc b)) fun c => match P.props.lookup (c, f) with
    | some k => M.nox (C.low k [.loc b])
    | none => fldV P.flds (.loc b) f) Q s = _
  rw [w_bnd, w_ok (clsOf_at h), hp]
  show Wp (M.nox _) Q s = _
  rw [w_nox]
theorem w_atrF {P : Prog} {C : Call} {b c f : Nat} {fs : List (Nat × PV)} {v : PV} {s : Sto} {Q : PV → Sto → Prop} (h : s[b]? = some (.ins c fs)) (hp : P.props.lookup (c, f) = none) (h1 : isFld P.flds c f = true) (h2 : fs.lookup f = some v) : Wp (atrV P C (.loc b) f) Q s = Q v s := by
  show Wp (M.bnd (clsOf (.loc b)) fun c => match P.props.lookup (c, f) with
    | some k => M.nox (C.low k [.loc b])
    | none => fldV P.flds (.loc b) f) Q s = _
  rw [w_bnd, w_ok (clsOf_at h), hp]
  refine w_ok ?_
  show (match s[b]? with
    | some (.ins c fs) => M.grd (isFld P.flds c f) (M.opt (fs.lookup f)) s
    | _ => .bad) = _
  rw [h]
  simp [h1, h2, M.grd, M.opt, M.ret]
theorem w_isBI {cl : List (Nat × Nat)} {t : Ty} {b c : Nat} {fs : List (Nat × PV)} {s : Sto} {Q : Bool → Sto → Prop} (h : s[b]? = some (.ins c fs)) (h1 : (cl.lookup c).isSome = true) : Wp (isB cl (.loc b) t) Q s = Q (ownAns t c) s := w_ok (by
  show (match s[b]? with
    | some (.lst _) => _
    | some (.dct _) => _
    | some (.ins c _) => M.grd (cl.lookup c).isSome (M.ret (ownAns t c)) s
    | none => .bad) = _
  rw [h]
  simp [h1, M.grd, M.ret])
theorem set_end {s : Sto} {x y : MO} : (s ++ [x]).set s.length y = s ++ [y] := by
  rw [List.set_append_right _ _ (Nat.le_refl _), Nat.sub_self]
  rfl
theorem at_end {s : Sto} {x : MO} : (s ++ [x])[s.length]? = some x := by simp
theorem at_old {s t : Sto} {i : Nat} {x : MO} (h : s[i]? = some x) : (s ++ t)[i]? = some x := by
  rw [List.getElem?_append_left (List.getElem?_eq_some_iff.mp h).1]
  exact h
theorem allS_strs : ∀ zs : List Str, allS (zs.map .str) = true
  | [] => rfl
  | _ :: zs => allS_strs zs
theorem idxS_strs {z : Str} : ∀ {zs : List Str} {i : Nat}, zs[i]? = some z → zs.Nodup → idxS z (zs.map .str) = some i
  | [], _, h, _ => by simp at h
  | y :: zs, 0, h, _ => by
    cases h
    show (if z = z then some 0 else _) = _
    rw [if_pos rfl]
  | y :: zs, i + 1, h, nd => by
    rw [List.nodup_cons] at nd
    have h : zs[i]? = some z := h
    show (if y = z then some 0 else (idxS z (zs.map .str)).map (· + 1)) = _
    rw [if_neg (fun e => nd.1 (by rw [e]; exact List.mem_of_getElem? h)), idxS_strs h nd.2]
    rfl
theorem idxV_strs {z : Str} {zs : List Str} {i : Nat} (h : zs[i]? = some z) (nd : zs.Nodup) : idxV (.tup (zs.map .str)) (.str z) = M.ret (.int (i : Int)) := by
  show M.grd (allS (zs.map .str)) (M.bnd (M.opt (idxS z (zs.map .str))) fun k => M.ret (PV.int k)) = _
  rw [allS_strs, idxS_strs h nd]
  rfl
theorem sLt_tri (a b : Str) : sLt a b ∨ a = b ∨ sLt b a := by
  by_cases h : a = b
  · exact .inr (.inl h)
  · by_cases k : sLt b a
    · exact .inr (.inr k)
    · exact .inl (sLt_of k h)
theorem pLt_irrefl (a : Str × Str) : ¬ pLt a a := fun h => h.elim (sLt_irrefl _) fun h => sLt_irrefl _ h.2
theorem pLt_trans {a b c : Str × Str} (h : pLt a b) (k : pLt b c) : pLt a c := by
  rcases h with h | ⟨h, h'⟩ <;> rcases k with k | ⟨k, k'⟩
  · exact .inl (sLt_trans h k)
  · exact .inl (by rw [← k]; exact h)
  · exact .inl (by rw [h]; exact k)
  · exact .inr ⟨h.trans k, sLt_trans h' k'⟩
theorem pLt_tri (a b : Str × Str) : pLt a b ∨ a = b ∨ pLt b a := by
  rcases sLt_tri a.1 b.1 with h | h | h
  · exact .inl (.inl h)
  · rcases sLt_tri a.2 b.2 with k | k | k
    · exact .inl (.inr ⟨h, k⟩)
    · exact .inr (.inl (Prod.ext h k))
    · exact .inr (.inr (.inr ⟨h.symm, k⟩))
  · exact .inr (.inr (.inl h))
section
variable {α : Type} {R : α → α → Prop} [DecidableRel R]
def leOf (R : α → α → Prop) [DecidableRel R] (a b : α) : Bool := !decide (R b a)
theorem sort_up (ir : ∀ a, ¬ R a a) (tr : ∀ {a b c}, R a b → R b c → R a c) (tri : ∀ a b, R a b ∨ a = b ∨ R b a) {l : List α} (nd : l.Nodup) : (l.mergeSort (leOf R)).Pairwise R := by
  have le : ∀ a b, leOf R a b = true ↔ R a b ∨ a = b := fun a b => by
    unfold leOf
    rw [Bool.not_eq_true', decide_eq_false_iff_not]
    constructor
    · intro h
      rcases tri a b with k | k | k
      · exact .inl k
      · exact .inr k
      · exact absurd k h
    · rintro (h | rfl) k
      · exact ir _ (tr h k)
      · exact ir _ k
  have h1 : (l.mergeSort (leOf R)).Pairwise fun a b => leOf R a b = true := List.pairwise_mergeSort (fun a b c h k => by
    rw [le] at *
    rcases h with h | rfl
    · rcases k with k | rfl
      · exact .inl (tr h k)
      · exact .inl h
    · exact k) (fun a b => by
    rw [Bool.or_eq_true, le, le]
    rcases tri a b with k | k | k
    · exact .inl (.inl k)
    · exact .inl (.inr k)
    · exact .inr (.inl k)) l
  have h2 : (l.mergeSort (leOf R)).Nodup := (List.mergeSort_perm l (leOf R)).symm.nodup nd
  refine (List.Pairwise.and h1 h2).imp fun ⟨h, k⟩ => ?_
  rcases (le _ _).mp h with h | h
  · exact h
  · exact absurd h k
theorem w_sorted {f : α → PV} {g : α → PyData} {x : PV} {l : List α} {s : Sto} {Q : PV → Sto → Prop} (hx : asL x s = .ok (l.map f) s) (hz : l.length ≤ SZ) (hf : ∀ a, (f a).toD = some (g a)) (hs : sortable (l.map g) = true) (hr : ∀ a b, decide (R a b) = PySem.W.dataLt (g a) (g b)) :
    Wp (bfV .sorted false [x]) Q s = Q (.lst ((l.mergeSort (leOf R)).map f)) s := by
  show Wp (M.bnd (asL x) fun ys => M.bnd (M.opt (PV.toDs ys)) fun ds => M.grd (sortable ds) (newL false ((sortPD (ys.zip ds)).map (·.1)))) Q s = _
  rw [w_bnd, w_ok hx, toDs_map hf]
  have e : (sortPD ((l.map f).zip (l.map g))).map (·.1) = (l.mergeSort (leOf R)).map f := by
    unfold sortPD
    rw [List.zip_map', ← List.map_mergeSort (r := leOf R), List.map_map]
    · rfl
    · intro a _ b _
      show (!decide (R b a)) = !PySem.W.dataLt (g b) (g a)
      rw [hr]
  rw [w_bnd, w_opt, hs, w_grd, e, newL_f (by rw [List.length_map, List.length_mergeSort]; exact hz), w_ret]
end
instance : DecidableRel sLt := fun a b => inferInstanceAs (Decidable (sLt a b))
instance : DecidableRel pLt := fun a b => inferInstanceAs (Decidable (pLt a b))
theorem sortable_strs (zs : List Str) : sortable (zs.map .str) = true := by
  unfold sortable
  simp [List.all_eq_true, PySem.W.alike, PyData.depth]
theorem sortable_prs (zs : List (Str × Str)) : sortable (zs.map fun p => .tuple [.str p.1, .str p.2]) = true := by
  unfold sortable
  simp [List.all_eq_true, PySem.W.alike, PySem.W.alikeAll, PyData.depth, PyData.depthAll]
theorem asL_at {f : Nat} {ys : List PV} {s : Sto} (h : s[f]? = some (.lst ys)) : asL (.loc f) s = .ok ys s := by
  show (match s[f]? with
    | some (.lst xs) => Out.ok xs s
    | _ => .bad) = _
  rw [h]
theorem w_addLL {xs ys : List PV} {f : Nat} {s : Sto} {Q : PV → Sto → Prop} (h : s[f]? = some (.lst ys)) (hz : xs.length + ys.length ≤ SZ) : Wp (binV .add false (.lst xs) (.loc f)) Q s = Q (.lst (xs ++ ys)) s := by
  show Wp (M.bnd (asL (.lst xs)) fun xs => M.bnd (asL (.loc f)) fun ys => newL false (xs ++ ys)) Q s = _
  rw [w_bnd, w_ok (show asL (.lst xs) s = .ok xs s from rfl), w_bnd, w_ok (asL_at h), newL_f (by rw [List.length_append]; exact hz), w_ret]
theorem w_bmTA {f : Nat} {ys : List PV} {s : Sto} {Q : Unit → Sto → Prop} (h : s[f]? = some (.lst ys)) : Wp (bmT .append (.loc f)) Q s = Q () s := w_ok (by
  show (match s[f]? with
    | some (.lst _) => Out.ok () s
    | _ => .bad) = _
  rw [h])
theorem w_append {cts : List PV} {m : Bool} {f : Nat} {ys : List PV} {x : PV} {s : Sto} {Q : PV → Sto → Prop} (h : s[f]? = some (.lst ys)) (hz : ys.length < SZ) : Wp (bmV cts .append m (.loc f) [x]) Q s = Q .non (s.set f (.lst (ys ++ [x]))) := w_ok (by
  show (match s[f]? with
    | some (.lst ys) => M.grd (decide (ys.length < SZ)) (wrL f (ys ++ [x]) .non) s
    | _ => .bad) = _
  rw [h]
  simp only [decide_eq_true hz]
  rfl)
theorem w_ixS {z : Str} {k : Int} {c : Nat} {s : Sto} {Q : PV → Sto → Prop} (h : L2.atI z.cps.toList k = some c) : Wp (ixV (.str z) (.int k)) Q s = Q (.str ⟨#[c]⟩) s := w_ok (by
  show M.opt ((L2.atI z.cps.toList k).map fun c => PV.str ⟨#[c]⟩) s = _
  rw [h]
  rfl)
theorem atI_in {α : Type} {xs : List α} {k : Int} (h0 : 0 ≤ k) (h1 : k < xs.length) : ∃ x, x ∈ xs ∧ L2.atI xs k = some x := by
  have hr : k.toNat < xs.length := by omega
  refine ⟨xs[k.toNat], List.getElem_mem hr, ?_⟩
  have := atI_nat xs k.toNat
  rw [Int.toNat_of_nonneg h0] at this
  rw [this, List.getElem?_eq_getElem hr]
theorem w_split {cts : List PV} {z y : Str} {l : List Str} {s : Sto} {Q : PV → Sto → Prop} (h : (decide (y.length ≠ 0) && decide (z.length + 2 ≤ SZ) && (PySem.Txt.split z y).all okS) = true) (hl : PySem.Txt.split z y = l) (hz : l.length ≤ SZ) : Wp (bmV cts .split false (.str z) [.str y]) Q s = Q (.lst (l.map .str)) s := by
  show Wp (M.grd (decide (y.length ≠ 0) && decide (z.length + 2 ≤ SZ) && (PySem.Txt.split z y).all okS) (newL false ((PySem.Txt.split z y).map .str))) Q s = _
  rw [h, w_grd, hl, newL_f (by rw [List.length_map]; exact hz), w_ret]
theorem w_bmTS {z : Str} {s : Sto} {Q : Unit → Sto → Prop} : Wp (bmT .split (.str z)) Q s = Q () s := w_ok rfl
theorem w_newD0 {s : Sto} {Q : PV → Sto → Prop} : Wp (newD [] []) Q s = Q (.loc s.length) (s ++ [.dct []]) := w_ok rfl
theorem w_tupleL {m : Bool} {f : Nat} {ys : List PV} {s : Sto} {Q : PV → Sto → Prop} (h : s[f]? = some (.lst ys)) : Wp (bfV .tuple m [.loc f]) Q s = Q (.tup ys) s := w_ok (by
  show M.bnd (asS (.loc f)) (fun ys => M.ret (PV.tup ys)) s = _
  have e : asS (.loc f) s = .ok ys s := by
    show (match s[f]? with
      | some (.lst xs) => Out.ok xs s
      | _ => .bad) = _
    rw [h]
  unfold M.bnd
  rw [e]
  rfl)
theorem w_listD {f : Nat} {kvs : List (PV × PV)} {s : Sto} {Q : PV → Sto → Prop} (h : s[f]? = some (.dct kvs)) (hz : kvs.length ≤ SZ) : Wp (bfV .list false [.loc f]) Q s = Q (PV.lst (kvs.map fun p : PV × PV => p.1)) s := w_ok (by
  show (match s[f]? with
    | some (.dct kvs) => newL false (kvs.map fun p : PV × PV => p.1) s
    | _ => M.bnd (asS (.loc f)) (newL false) s) = _
  rw [h]
  show newL false (kvs.map fun p : PV × PV => p.1) s = _
  rw [newL_f (by rw [List.length_map]; exact hz)]
  rfl)
theorem w_dgetD {cts : List PV} {f : Nat} {kvs : List (PV × PV)} {k v : PV} {s : Sto} {Q : PV → Sto → Prop} (h : s[f]? = some (.dct kvs)) (hk : kOk cts kvs k = true) (hv : kfind kvs k = some v) : Wp (dgetV cts (.loc f) k) Q s = Q v s := w_ok (by
  show M.bnd (asDct (.loc f)) (fun kvs => M.grd (kOk cts kvs k) (M.opt (kfind kvs k))) s = _
  have e : asDct (.loc f) s = .ok kvs s := by
    show (match s[f]? with
      | some (.dct kvs) => Out.ok kvs s
      | _ => .bad) = _
    rw [h]
  unfold M.bnd
  rw [e]
  show M.grd (kOk cts kvs k) (M.opt (kfind kvs k)) s = _
  rw [hk, hv]
  rfl)
theorem w_setD {cts : List PV} {f : Nat} {kvs : List (PV × PV)} {k v : PV} {s : Sto} {Q : Unit → Sto → Prop} (h : s[f]? = some (.dct kvs)) (hk : kOk cts kvs k = true) (hz : kvs.length < SZ) : Wp (setV cts (.loc f) k v) Q s = Q () (s.set f (.dct (kput kvs k v))) := w_ok (by
  unfold setV
  simp only [h, hk, decide_eq_true hz, Bool.and_self, if_true])
def kP (p : Str × Str) : PV := .tup [.str p.1, .str p.2]
theorem kP_inj {p q : Str × Str} : kP p = kP q ↔ p = q := by
  unfold kP
  constructor
  · intro h
    simp only [PV.tup.injEq, List.cons.injEq, PV.str.injEq, and_true] at h
    exact Prod.ext h.1 h.2
  · rintro rfl
    rfl
section
variable {α : Type} (k : α → Str × Str) (v : α → PV)
def dP (l : List α) : List (PV × PV) := l.map fun a => (kP (k a), v a)
variable {k v}
theorem dP_ok {cts : List PV} {l : List α} {p : Str × Str} (hc : cts.contains (kP p) = false) : kOk cts (dP k v l) (kP p) = true := by
  unfold kOk
  rw [hc]
  have h1 : isKT (kP p) = true := rfl
  have h2 : (dP k v l).all (fun p => isKT p.1) = true := by
    unfold dP
    rw [List.all_map]
    exact List.all_eq_true.mpr fun a _ => rfl
  rw [h1, h2]
  simp
theorem dP_find {l : List α} {p : Str × Str} : kfind (dP k v l) (kP p) = (l.find? fun a => decide (k a = p)).map v := by
  unfold kfind dP
  rw [List.find?_map]
  have e : ((fun q : PV × PV => decide (q.1 = kP p)) ∘ fun a => (kP (k a), v a)) = fun a => decide (k a = p) := by
    funext a
    exact decide_eq_decide.mpr kP_inj
  rw [e]
  cases l.find? fun a => decide (k a = p) <;> rfl
end
theorem lastCases {α : Type} (l : List α) : l = [] ∨ ∃ p y, l = p ++ [y] := by
  rcases List.eq_nil_or_concat l with h | ⟨p, y, h⟩
  · exact .inl h
  · exact .inr ⟨p, y, by rw [h, List.concat_eq_append]⟩
end Mp
local macro_rules
  | `(tactic| simp? [$ls,*]) => `(tactic| simp only [↓_root_.Mp.w_ret, _root_.Mp.w_ret, ↓_root_.Mp.w_bnd, _root_.Mp.w_bnd, ↓_root_.Mp.w_grd, _root_.Mp.w_grd, ↓_root_.Mp.w_opt, _root_.Mp.w_opt, ↓_root_.Mp.w_if, _root_.Mp.w_if, ↓_root_.Mp.w_getVar, _root_.Mp.w_getVar, ↓_root_.Mp.w_var, _root_.Mp.w_var, ↓_root_.Mp.w_cst, _root_.Mp.w_cst, ↓_root_.Mp.w_glo, _root_.Mp.w_glo, ↓_root_.Mp.w_bin, _root_.Mp.w_bin, ↓_root_.Mp.w_neg, _root_.Mp.w_neg, ↓_root_.Mp.w_cmp, _root_.Mp.w_cmp, ↓_root_.Mp.w_chn, _root_.Mp.w_chn, ↓_root_.Mp.w_and, _root_.Mp.w_and, ↓_root_.Mp.w_or, _root_.Mp.w_or, ↓_root_.Mp.w_andK, _root_.Mp.w_andK, ↓_root_.Mp.w_orK, _root_.Mp.w_orK, ↓_root_.Mp.w_not, _root_.Mp.w_not, ↓_root_.Mp.w_ite, _root_.Mp.w_ite, ↓_root_.Mp.w_tup, _root_.Mp.w_tup, ↓_root_.Mp.w_lst, _root_.Mp.w_lst, ↓_root_.Mp.w_dct, _root_.Mp.w_dct, ↓_root_.Mp.w_ix, _root_.Mp.w_ix, ↓_root_.Mp.w_dget, _root_.Mp.w_dget, ↓_root_.Mp.w_slc, _root_.Mp.w_slc, ↓_root_.Mp.w_atr, _root_.Mp.w_atr, ↓_root_.Mp.w_call, _root_.Mp.w_call, ↓_root_.Mp.w_callK, _root_.Mp.w_callK, ↓_root_.Mp.w_mk, _root_.Mp.w_mk, ↓_root_.Mp.w_mkK, _root_.Mp.w_mkK, ↓_root_.Mp.w_bf, _root_.Mp.w_bf, ↓_root_.Mp.w_isi, _root_.Mp.w_isi, ↓_root_.Mp.w_callV, _root_.Mp.w_callV, ↓_root_.Mp.w_bm, _root_.Mp.w_bm, ↓_root_.Mp.w_callI, _root_.Mp.w_callI, ↓_root_.Mp.w_eqO, _root_.Mp.w_eqO, ↓_root_.Mp.w_lc, _root_.Mp.w_lc, ↓_root_.Mp.w_elF, _root_.Mp.w_elF, ↓_root_.Mp.w_evaN, _root_.Mp.w_evaN, ↓_root_.Mp.w_evaC, _root_.Mp.w_evaC, ↓_root_.Mp.w_evaL, _root_.Mp.w_evaL, ↓_root_.Mp.w_evaF, _root_.Mp.w_evaF, ↓_root_.Mp.w_evsN, _root_.Mp.w_evsN, ↓_root_.Mp.w_evsC, _root_.Mp.w_evsC, ↓_root_.Mp.w_evoN, _root_.Mp.w_evoN, ↓_root_.Mp.w_evoS, _root_.Mp.w_evoS, ↓_root_.Mp.w_tOf, _root_.Mp.w_tOf, ↓_root_.Mp.w_tCmp, _root_.Mp.w_tCmp, ↓_root_.Mp.w_tChn, _root_.Mp.w_tChn, ↓_root_.Mp.w_tAnd, _root_.Mp.w_tAnd, ↓_root_.Mp.w_tOr, _root_.Mp.w_tOr, ↓_root_.Mp.w_tNot, _root_.Mp.w_tNot, ↓_root_.Mp.w_cN, _root_.Mp.w_cN, ↓_root_.Mp.w_cS, _root_.Mp.w_cS, ↓_root_.Mp.w_gName, _root_.Mp.w_gName, ↓_root_.Mp.w_gTup, _root_.Mp.w_gTup, ↓_root_.Mp.w_gSub, _root_.Mp.w_gSub, ↓_root_.Mp.w_gFld, _root_.Mp.w_gFld, ↓_root_.Mp.w_gsN, _root_.Mp.w_gsN, ↓_root_.Mp.w_gsC, _root_.Mp.w_gsC, ↓_root_.Mp.w_tupG, _root_.Mp.w_tupG, ↓_root_.Mp.w_iOf, _root_.Mp.w_iOf, ↓_root_.Mp.w_iRng, _root_.Mp.w_iRng, ↓_root_.Mp.w_iEnu, _root_.Mp.w_iEnu, ↓_root_.Mp.w_expr, _root_.Mp.w_expr, ↓_root_.Mp.w_asg, _root_.Mp.w_asg, ↓_root_.Mp.w_retS, _root_.Mp.w_retS, ↓_root_.Mp.w_retN, _root_.Mp.w_retN, ↓_root_.Mp.w_pass, _root_.Mp.w_pass, ↓_root_.Mp.w_cond, _root_.Mp.w_cond, ↓_root_.Mp.w_trn, _root_.Mp.w_trn, ↓_root_.Mp.w_for, _root_.Mp.w_for, ↓_root_.Mp.w_sN, _root_.Mp.w_sN, ↓_root_.Mp.w_sC, _root_.Mp.w_sC, ↓_root_.Mp.w_sqN, _root_.Mp.w_sqN, ↓_root_.Mp.w_sqR, _root_.Mp.w_sqR, ↓_root_.Mp.w_sqB, _root_.Mp.w_sqB, ↓_root_.Mp.w_sqC, _root_.Mp.w_sqC, ↓_root_.Mp.w_bEndR, _root_.Mp.w_bEndR, ↓_root_.Mp.w_bEndN, _root_.Mp.w_bEndN, ↓_root_.Mp.w_low, _root_.Mp.w_low, _root_.Mp.ic_int, _root_.Mp.ic_str, _root_.Mp.ic_bl, _root_.Mp.ic_tup, _root_.Mp.ic_lst, _root_.Mp.ic_loc, _root_.Mp.ic_non, _root_.Mp.ic_scr, _root_.Mp.noClo_nil, _root_.Mp.noClo_cons, _root_.Mp.nc_nil, _root_.Mp.nc_none, _root_.Mp.nc_some, _root_.Mp.isB_int, _root_.Mp.isB_bl, _root_.Mp.isB_str, _root_.Mp.isB_tup, _root_.Mp.isB_lst, _root_.Mp.isB_non, _root_.Mp.truth_bl, _root_.Mp.cmpI_lt, _root_.Mp.cmpI_le, _root_.Mp.cmpI_gt, _root_.Mp.cmpI_ge, _root_.Mp.eqI, _root_.Mp.neI, _root_.Mp.eqS, _root_.Mp.neS, _root_.Mp.eqB', _root_.Mp.eqL00, _root_.Mp.eqT00, _root_.Mp.inTS, _root_.Mp.inLS, _root_.Mp.notinTS, _root_.Mp.notinLS, _root_.Mp.ltS, _root_.Mp.ltP, _root_.Mp.ix_tup, _root_.Mp.ix_lst, _root_.Mp.slc_tup, _root_.Mp.slc_str, _root_.Mp.len_tup, _root_.Mp.len_lst, _root_.Mp.len_str, _root_.Mp.tuple_lst, _root_.Mp.items_tup, _root_.Mp.items_lst, _root_.Mp.wat_tup, _root_.Mp.wat_lst, _root_.Mp.wat_str, _root_.Mp.items_str, _root_.Mp.asS_tup, _root_.Mp.asS_lst, _root_.Mp.newT_ok', _root_.Mp.newL_f, _root_.Mp.bin_add, _root_.Mp.bin_sub, _root_.Mp.bin_mulR, _root_.Mp.bin_mulL, _root_.Mp.bin_modG, _root_.Mp.bin_fdivG, _root_.Mp.bin_powG, _root_.Mp.int_int, _root_.Mp.abs_int, _root_.Mp.min2_i, _root_.Mp.max2_i, _root_.Mp.eqArg_tup, _root_.Mp.items_scr, _root_.Mp.wat_scr, _root_.Mp.len_scr, _root_.Mp.slc_scr, _root_.Mp.bin_addT, _root_.Mp.bin_addL, _root_.Mp.newT_0, _root_.Mp.newL_0, _root_.Mp.newT_1, _root_.Mp.newL_1, _root_.Mp.newT_2, _root_.Mp.newL_2, _root_.Mp.newT_3, _root_.Mp.newL_3, _root_.Mp.newT_4, _root_.Mp.newL_4, _root_.Mp.newT_5, _root_.Mp.newL_5, _root_.Mp.newT_6, _root_.Mp.newL_6, _root_.Mp.newT_7, _root_.Mp.newL_7, _root_.Mp.newT_8, _root_.Mp.newL_8, _root_.Mp.newT_9, _root_.Mp.newL_9, ↓_root_.Mp.w_loop0, _root_.Mp.w_loop0, ↓_root_.Mp.w_bmTS, _root_.Mp.w_bmTS, eq_self, if_true, if_false, Bool.false_eq_true, decide_eq_true_eq, not_true_eq_false, not_false_eq_true, List.map_cons, List.map_nil, List.cons_append, List.nil_append, List.append_nil, List.replicate_succ, List.replicate_zero, List.getElem?_cons_zero, List.getElem?_cons_succ, List.set_cons_zero, List.set_cons_succ, List.length_cons, List.length_nil, Mp.wipe, List.foldr_cons, List.foldr_nil, Bool.not_false, Bool.not_true, decide_true, decide_false, Bool.and_true, Bool.true_and, Bool.and_false, Bool.false_and, Mp.gsLen, Nat.reduceLeDiff, Nat.zero_add, Nat.reduceAdd, $ls,*])
set_option maxHeartbeats 1000000
namespace Mp.K02
open Mp PySem
def strsOf : PV → List Str
  | .tup xs => xs.filterMap fun
    | .str z => some z
    | _ => none
  | _ => []
def wordsL : List Str := strsOf g_WORDS
def lettersL : List Nat := match g_LETTERS with
  | .str z => z.cps.toList
  | _ => []
def lettersS : Str := ⟨lettersL.toArray⟩
theorem gl3 : prog.globs.lookup 3 = some (.tup (wordsL.map .str)) := by decide +kernel
theorem gl7 : prog.globs.lookup 7 = some (.str lettersS) := by decide +kernel
theorem gl4 : prog.globs.lookup 4 = some (.int 8) := rfl
theorem gl1 : prog.globs.lookup 1 = some (.int 8) := rfl
theorem gl2 : prog.globs.lookup 2 = some (.int 8) := rfl
theorem gl5 : prog.globs.lookup 5 = some (.int 9999) := rfl
theorem gl8 : prog.globs.lookup 8 = some (.int 6) := rfl
theorem gl0 : prog.globs.lookup 0 = some (.int 999) := rfl
theorem gl6 : prog.globs.lookup 6 = some (.int 12) := rfl
theorem p_is_whole (n : Nat) (i : Int) : Pu ((runs prog (n + 1)).def_ 36 [.int i]) (.bl true) := pu_of fun s => by
  (refine o_def d_is_whole rfl rfl ?_; simp only [d_is_whole, List.map_cons, List.map_nil, List.cons_append, List.nil_append, List.append_nil, List.replicate_succ, List.replicate_zero, Nat.reduceSub])
  simp? []
  simp
theorem p_is_between (n : Nat) (v a b : Int) : Pu ((runs prog (n + 2)).def_ 32 [.int v, .int a, .int b]) (.bl (decide (a ≤ v) && decide (v ≤ b))) := pu_of fun s => by
  (refine o_def d_is_between rfl rfl ?_; simp only [d_is_between, List.map_cons, List.map_nil, List.cons_append, List.nil_append, List.append_nil, List.replicate_succ, List.replicate_zero, Nat.reduceSub])
  simp? [w_pu (p_is_whole n v)]
  by_cases h : a ≤ v <;> simp [h]
theorem p_is_up_to (n : Nat) (v b : Int) : Pu ((runs prog (n + 3)).def_ 33 [.int v, .int b]) (.bl (decide (0 ≤ v) && decide (v ≤ b))) := pu_of fun s => by
  (refine o_def d_is_up_to rfl rfl ?_; simp only [d_is_up_to, List.map_cons, List.map_nil, List.cons_append, List.nil_append, List.append_nil, List.replicate_succ, List.replicate_zero, Nat.reduceSub])
  simp? [w_pu (p_is_between n v 0 b)]
  simp
theorem p_is_tuple_of (n : Nat) (xs : List PV) (k : Int) : Pu ((runs prog (n + 1)).def_ 34 [.tup xs, .int k]) (.bl (decide ((xs.length : Int) = k))) := pu_of fun s => by
  (refine o_def d_is_tuple_of rfl rfl ?_; simp only [d_is_tuple_of, List.map_cons, List.map_nil, List.cons_append, List.nil_append, List.append_nil, List.replicate_succ, List.replicate_zero, Nat.reduceSub])
  simp? [len_tup, eqI]
  simp
theorem p_is_one_of (n : Nat) (z : Str) (zs : List Str) : Pu ((runs prog (n + 1)).def_ 24 [.str z, .tup (zs.map .str)]) (.bl (decide (z ∈ zs))) := pu_of fun s => by
  (refine o_def d_is_one_of rfl rfl ?_; simp only [d_is_one_of, List.map_cons, List.map_nil, List.cons_append, List.nil_append, List.append_nil, List.replicate_succ, List.replicate_zero, Nat.reduceSub])
  simp? [inTS]
  simp
theorem p_is_one_ofL (n : Nat) (z : Str) (zs : List Str) : Pu ((runs prog (n + 1)).def_ 24 [.str z, .lst (zs.map .str)]) (.bl (decide (z ∈ zs))) := pu_of fun s => by
  (refine o_def d_is_one_of rfl rfl ?_; simp only [d_is_one_of, List.map_cons, List.map_nil, List.cons_append, List.nil_append, List.append_nil, List.replicate_succ, List.replicate_zero, Nat.reduceSub])
  simp? [inLS]
  simp
def wordB (z : Str) : Bool := !decide (z = "") && z.cps.toList.all fun c => decide (c ∈ lettersL)
theorem inT_c {z : Str} {c : Nat} {cts : List PV} : cmpV cts .in_ (.str ⟨#[c]⟩) (.str z) = M.ret (decide (c ∈ z.cps.toList)) := rfl
theorem p_is_word (n : Nat) (z : Str) (hz : z.length ≤ SZ) : Pu ((runs prog (n + 1)).def_ 31 [.str z]) (.bl (wordB z)) := pu_of fun s => by
  (refine o_def d_is_word rfl rfl ?_; simp only [d_is_word, List.map_cons, List.map_nil, List.cons_append, List.nil_append, List.append_nil, List.replicate_succ, List.replicate_zero, Nat.reduceSub])
  simp? [neS, gl7, items_str, wat_str]
  unfold wordB
  by_cases h : z = ""
  · simp [h]
  · simp only [h, decide_false, Bool.not_false, if_true, Bool.true_and]
    have hl : z.cps.toList.length ≤ SZ := by rw [Array.length_toList]; exact hz
    refine wp_mapP (e := fun c => .str ⟨#[c]⟩) (fun c => some (.bl (decide (c ∈ lettersL)))) (l := z.cps.toList) (fun c _ => ?_) ?_
    · simp? [gl7, inT_c]
      simp [lettersS]
      exact decide_eq_decide.mpr Iff.rfl
    · have e : (z.cps.toList.filterMap fun c => some (PV.bl (decide (c ∈ lettersL)))) = (z.cps.toList.map fun c => decide (c ∈ lettersL)).map .bl := by
        simp [List.filterMap_eq_map]
      rw [e, newL_f (by simpa using hl)]
      simp? [all_bls]
      simp [h]
def nameB (z : Str) : Bool := wordB z && (decide ((z.length : Int) ≤ 8) && !decide (z ∈ wordsL))
theorem p_is_name (n : Nat) (z : Str) (hz : z.length ≤ SZ) : Pu ((runs prog (n + 2)).def_ 26 [.str z]) (.bl (nameB z)) := pu_of fun s => by
  (refine o_def d_is_name rfl rfl ?_; simp only [d_is_name, List.map_cons, List.map_nil, List.cons_append, List.nil_append, List.append_nil, List.replicate_succ, List.replicate_zero, Nat.reduceSub])
  simp? [w_pu (p_is_word n z hz), len_str, gl4, gl3, notinTS]
  unfold nameB
  by_cases h : wordB z <;> by_cases h2 : (z.length : Int) ≤ 8 <;> simp [h, h2]
theorem p_is_above (n : Nat) (zs : List Str) (z : Str) : Pu ((runs prog (n + 1)).def_ 37 [.tup (zs.map .str), .str z]) (.bl (match zs.getLast? with
    | some y => decide (sLt y z)
    | none => true)) := pu_of fun s => by
  (refine o_def d_is_above rfl rfl ?_; simp only [d_is_above, List.map_cons, List.map_nil, List.cons_append, List.nil_append, List.append_nil, List.replicate_succ, List.replicate_zero, Nat.reduceSub])
  simp? [eqT0 (toDs_strs zs)]
  rcases lastCases zs with rfl | ⟨l, y, rfl⟩
  · simp
  · have e : ((l ++ [y]).map PV.str).isEmpty = false := by simp
    have e2 : L2.atI ((l ++ [y]).map PV.str) (-1) = some (.str y) := by
      rw [atI_last (by simp)]
      simp
    rw [e]
    simp? [e2]
    simp
theorem p_wrong_in (n : Nat) (xs : List PV) (least most : Int) (k : Nat) (cs : List PV) (hc : ∀ x ∈ xs, isClo x = false) (h1 : least ≤ xs.length) (h2 : (xs.length : Int) ≤ most)
    (h : ∀ i x, xs[i]? = some x → Pu ((runs prog n).clo k cs [.tup (xs.take i), x]) (.bl true)) : Pu ((runs prog (n + 1)).def_ 28 [.tup xs, .int least, .int most, .clo k cs]) (.lst []) := pu_of fun s => by
  (refine o_def d_wrong_in rfl rfl ?_; simp only [d_wrong_in, List.map_cons, List.map_nil, List.cons_append, List.nil_append, List.append_nil, List.replicate_succ, List.replicate_zero, Nat.reduceSub])
  have h3 : ¬ (xs.length : Int) < least := by omega
  simp? [h3]
  refine wp_loop (e := fun p : PV × Nat => .tup [.int p.2, p.1]) (fun _ ρ s' => s' = s ∧ ∃ c4 c5, ρ = [some (.tup xs), some (.int least), some (.int most), some (.clo k cs), c4, c5]) xs.zipIdx _ s ⟨rfl, none, none, rfl⟩ (fun p r ρ s' ⟨pre, hl⟩ ⟨hs, c4, c5, hρ⟩ => ?_) (fun ρ s' ⟨hs, c4, c5, hρ⟩ => ?_)
  · obtain ⟨x, i⟩ := p
    subst hs hρ
    have hm : (x, i) ∈ xs.zipIdx := by rw [hl]; simp
    have hx : xs[i]? = some x := List.mem_zipIdx_iff_getElem?.mp hm
    have hi : i < xs.length := (List.getElem?_eq_some_iff.mp hx).1
    have hx2 := hc x (List.mem_of_getElem? hx)
    have h4 : ¬ (i : Int) = most := by omega
    simp? [cut_take, hx2, h4, getX, w_pu (h i x hx)]
    first | exact ⟨rfl, _, _, rfl⟩ | exact ⟨_, _, rfl⟩
  · subst hs hρ
    simp? []
    simp
structure Pot where
  nm : Str
  sum : Int
  kinds : List Str
  first : Int
  last : Int
  part : Int
def Pot.pv (p : Pot) : PV := .tup [.str p.nm, .int p.sum, .tup (p.kinds.map .str), .int p.first, .int p.last, .int p.part]
def Pot.dat (p : Pot) : PyData := .tuple [.str p.nm, .int p.sum, .tuple (p.kinds.map .str), .int p.first, .int p.last, .int p.part]
theorem Pot.toD (p : Pot) : p.pv.toD = some p.dat := by
  refine toD_tup ?_
  simp only [PV.toDs, PV.toD, toDs_strs, Option.map_some]
structure Mov where
  a : Str
  b : Str
  m : Int
def Mov.pv (p : Mov) : PV := .tup [.str p.a, .str p.b, .int p.m]
def Mov.dat (p : Mov) : PyData := .tuple [.str p.a, .str p.b, .int p.m]
theorem Mov.toD (p : Mov) : p.pv.toD = some p.dat := by
  refine toD_tup ?_
  simp only [PV.toDs, PV.toD]
theorem lam_wp {n k : Nat} {l : Lam} {cs args : List PV} {v : PV} (hk : prog.lams.lookup k = some l) (h1 : args.length = l.np) (h2 : cs.length = l.caps.length) (h : ∀ s, Wp (ev prog (runs prog n) ((args ++ cs).map some ++ List.replicate (l.nl - l.np - l.caps.length) none) l.body) (fun w s' => w = v ∧ s' = s) s) : Pu ((runs prog (n + 1)).clo k cs args) v := pu_of fun s => by
  rw [w_clo hk h1 h2]
  exact h s
def Asc (zs : List Str) : Prop := zs.Pairwise sLt
theorem asc_last {zs : List Str} (h : Asc zs) {i : Nat} {z : Str} (hi : zs[i]? = some z) : (match (zs.take i).getLast? with
    | some y => decide (sLt y z)
    | none => true) = true := by
  cases q : (zs.take i).getLast? with
  | none => rfl
  | some y =>
    have hy : y ∈ zs.take i := List.mem_of_getLast? q
    obtain ⟨j, hj⟩ := List.mem_iff_getElem?.mp hy
    have hl : i < zs.length := (List.getElem?_eq_some_iff.mp hi).1
    rw [List.getElem?_take] at hj
    split at hj
    · rename_i h0
      have := List.pairwise_iff_getElem.mp h j i (by omega) hl h0
      rw [List.getElem?_eq_some_iff] at hi hj
      obtain ⟨_, rfl⟩ := hi
      obtain ⟨_, rfl⟩ := hj
      simpa using this
    · cases hj
theorem p_are_kinds (n : Nat) (zs : List Str) (h1 : 1 ≤ zs.length) (h2 : zs.length ≤ 6) (hn : ∀ z ∈ zs, nameB z = true ∧ z.length ≤ SZ) (ha : Asc zs) : Pu ((runs prog (n + 5)).def_ 35 [.tup (zs.map .str)]) (.bl true) := pu_of fun s => by
  (refine o_def d_are_kinds rfl rfl ?_; simp only [d_are_kinds, List.map_cons, List.map_nil, List.cons_append, List.nil_append, List.append_nil, List.replicate_succ, List.replicate_zero, Nat.reduceSub])
  have hw : Pu ((runs prog (n + 4)).def_ 28 [.tup (zs.map .str), .int 1, .int 6, .clo 2 []]) (.lst []) := by
    refine p_wrong_in (n + 3) (zs.map .str) 1 6 2 [] (fun x hx => ?_) (by simp; omega) (by simp; omega) fun i x hx => ?_
    · obtain ⟨z, _, rfl⟩ := List.mem_map.mp hx
      rfl
    · rw [List.getElem?_map] at hx
      cases q : zs[i]? with
      | none => rw [q] at hx; cases hx
      | some z =>
        rw [q] at hx
        cases hx
        obtain ⟨g1, g2⟩ := hn z (List.mem_of_getElem? q)
        rw [← List.map_take]
        refine lam_wp (l := l_are_kinds_2) rfl rfl rfl fun s => ?_
        simp only [l_are_kinds_2]
        simp? [w_pu (p_is_name n z g2), g1, w_pu (p_is_above (n + 1) (zs.take i) z), asc_last ha q]
        simp
  have el : prog.lams.lookup 2 = some l_are_kinds_2 := rfl
  simp? [gl8, el, l_are_kinds_2, caps, w_pu hw]
  simp
end Mp.K02
set_option maxHeartbeats 1000000
namespace Mp.K02
open Mp PySem
structure PotOk (p : Pot) : Prop where
  nm : nameB p.nm = true ∧ p.nm.length ≤ SZ
  s0 : 0 ≤ p.sum
  s1 : p.sum ≤ 9999
  k1 : 1 ≤ p.kinds.length
  k2 : p.kinds.length ≤ 6
  kn : ∀ z ∈ p.kinds, nameB z = true ∧ z.length ≤ SZ
  ka : Asc p.kinds
  f0 : 0 ≤ p.first
  f1 : p.first ≤ 999
  l0 : p.first ≤ p.last
  l1 : p.last ≤ 999
  p0 : 1 ≤ p.part
  p1 : p.part ≤ 12
theorem atP {p : Pot} {x y z u v w : PV} {k : Nat} : L2.atI [x, y, z, u, v, w] (k : Int) = [x, y, z, u, v, w][k]? := atI_nat _ k
theorem at0 {α : Type} {x : α} {xs : List α} : L2.atI (x :: xs) 0 = some x := by
  have := atI_nat (x :: xs) 0
  simpa using this
theorem at1 {α : Type} {x y : α} {xs : List α} : L2.atI (x :: y :: xs) 1 = some y := by
  have := atI_nat (x :: y :: xs) 1
  simpa using this
theorem at2 {α : Type} {x y z : α} {xs : List α} : L2.atI (x :: y :: z :: xs) 2 = some z := by
  have := atI_nat (x :: y :: z :: xs) 2
  simpa using this
theorem at3 {α : Type} {x y z u : α} {xs : List α} : L2.atI (x :: y :: z :: u :: xs) 3 = some u := by
  have := atI_nat (x :: y :: z :: u :: xs) 3
  simpa using this
theorem at4 {α : Type} {x y z u v : α} {xs : List α} : L2.atI (x :: y :: z :: u :: v :: xs) 4 = some v := by
  have := atI_nat (x :: y :: z :: u :: v :: xs) 4
  simpa using this
theorem at5 {α : Type} {x y z u v w : α} {xs : List α} : L2.atI (x :: y :: z :: u :: v :: w :: xs) 5 = some w := by
  have := atI_nat (x :: y :: z :: u :: v :: w :: xs) 5
  simpa using this
theorem p_is_pot (n : Nat) (p : Pot) (h : PotOk p) : Pu ((runs prog (n + 6)).def_ 29 [p.pv]) (.bl true) := pu_of fun s => by
  have e1 := h.nm.1
  have e2 := h.s0
  have e3 := h.s1
  have e4 := h.f0
  have e5 := h.f1
  have e6 := h.l0
  have e7 := h.l1
  have e8 := h.p0
  have e9 := h.p1
  unfold Pot.pv
  (refine o_def d_is_pot rfl rfl ?_; simp only [d_is_pot, List.map_cons, List.map_nil, List.cons_append, List.nil_append, List.append_nil, List.replicate_succ, List.replicate_zero, Nat.reduceSub])
  simp? [w_pu (p_is_tuple_of (n + 4) _ 6), at0, at1, at2, at3, at4, at5, w_pu (p_is_name (n + 3) p.nm h.nm.2), e1, gl5, gl0, gl6, w_pu (p_is_up_to (n + 2) _ _), w_pu (p_is_between (n + 3) _ _ _), w_pu (p_are_kinds n p.kinds h.k1 h.k2 h.kn h.ka), e2, e3, e4, e5, e6, e7, e8, e9]
  simp [e2, e3, e4, e5, e6, e7, e8, e9]
theorem toDs_pots (ps : List Pot) : PV.toDs (ps.map Pot.pv) = some (ps.map Pot.dat) := toDs_map Pot.toD ps
theorem toDs_movs (ps : List Mov) : PV.toDs (ps.map Mov.pv) = some (ps.map Mov.dat) := toDs_map Mov.toD ps
theorem ahead_of {α : Type} {R : α → α → Prop} {l : List α} (h : l.Pairwise R) {i : Nat} {x : α} (hi : l[i]? = some x) {p : List α} {y : α} (e : l.take i = p ++ [y]) : R y x := by
  have hl : i < l.length := (List.getElem?_eq_some_iff.mp hi).1
  have hlen := congrArg List.length e
  rw [List.length_take, List.length_append] at hlen
  simp only [List.length_singleton] at hlen
  have hy : (l.take i)[p.length]? = some y := by rw [e]; simp
  rw [List.getElem?_take] at hy
  split at hy
  · rename_i h0
    have := List.pairwise_iff_getElem.mp h p.length i (by omega) hl h0
    rw [List.getElem?_eq_some_iff] at hi hy
    obtain ⟨_, rfl⟩ := hi
    obtain ⟨_, rfl⟩ := hy
    exact this
  · cases hy
theorem at_last {α : Type} {l : List α} {y : α} : L2.atI (l ++ [y]) (-1) = some y := by
  rw [atI_last (by simp)]
  simp
theorem p_wrong_in_pots (n : Nat) (ps : List Pot) (h1 : 1 ≤ ps.length) (h2 : ps.length ≤ 8) (h : ∀ p ∈ ps, PotOk p) (ha : ps.Pairwise fun p q => sLt p.nm q.nm) : Pu ((runs prog (n + 9)).def_ 22 [.tup (ps.map Pot.pv)]) (.lst []) := pu_of fun s => by
  (refine o_def d_wrong_in_pots rfl rfl ?_; simp only [d_wrong_in_pots, List.map_cons, List.map_nil, List.cons_append, List.nil_append, List.append_nil, List.replicate_succ, List.replicate_zero, Nat.reduceSub])
  have hw : Pu ((runs prog (n + 8)).def_ 28 [.tup (ps.map Pot.pv), .int 1, .int 8, .clo 0 []]) (.lst []) := by
    refine p_wrong_in (n + 7) (ps.map Pot.pv) 1 8 0 [] (fun x hx => ?_) (by simp; omega) (by simp; omega) fun i x hx => ?_
    · obtain ⟨z, _, rfl⟩ := List.mem_map.mp hx
      rfl
    · rw [List.getElem?_map] at hx
      cases q : ps[i]? with
      | none => rw [q] at hx; cases hx
      | some p =>
        rw [q] at hx
        cases hx
        have hp := h p (List.mem_of_getElem? q)
        rw [← List.map_take]
        refine lam_wp (l := l_wrong_in_pots_0) rfl rfl rfl fun s => ?_
        simp only [l_wrong_in_pots_0]
        have ic : isClo p.pv = false := rfl
        rcases lastCases (ps.take i) with e | ⟨pre, y, e⟩
        · rw [e]
          simp? [ic, w_pu (p_is_pot n p hp)]
          simp
        · have hlt := ahead_of ha q e
          rw [e]
          have e0 : ((pre ++ [y]).map Pot.pv).isEmpty = false := by simp
          simp? [ic, w_pu (p_is_pot n p hp), eqT0 (toDs_pots (pre ++ [y])), e0]
          simp only [List.map_append, List.map_cons, List.map_nil]
          unfold Pot.pv
          simp? [at_last, at0, hlt]
          simp
  have el : prog.lams.lookup 0 = some l_wrong_in_pots_0 := rfl
  simp? [gl1, el, l_wrong_in_pots_0, caps, w_pu hw]
  simp
structure MovOk (ns : List Str) (m : Mov) : Prop where
  a : m.a ∈ ns
  b : m.b ∈ ns
  ne : m.a ≠ m.b
  m0 : 0 ≤ m.m
  m1 : m.m ≤ 9999
theorem p_is_move (n : Nat) (ns : List Str) (m : Mov) (h : MovOk ns m) : Pu ((runs prog (n + 4)).def_ 30 [.lst (ns.map .str), m.pv]) (.bl true) := pu_of fun s => by
  have e1 := h.a
  have e2 := h.b
  have e3 := h.ne
  have e4 := h.m0
  have e5 := h.m1
  unfold Mov.pv
  (refine o_def d_is_move rfl rfl ?_; simp only [d_is_move, List.map_cons, List.map_nil, List.cons_append, List.nil_append, List.append_nil, List.replicate_succ, List.replicate_zero, Nat.reduceSub])
  simp? [w_pu (p_is_tuple_of (n + 2) _ 3), at0, at1, at2, w_pu (p_is_one_ofL (n + 2) _ ns), e1, e2, e3, gl5, w_pu (p_is_up_to n _ _), e4, e5]
  simp
theorem p_wrong_in_moves (n : Nat) (ps : List Pot) (ms : List Mov) (h2 : ms.length ≤ 8) (hp : ps.length ≤ 8) (h : ∀ m ∈ ms, MovOk (ps.map Pot.nm) m) (ha : ms.Pairwise fun p q => pLt (p.a, p.b) (q.a, q.b)) : Pu ((runs prog (n + 7)).def_ 23 [.tup (ps.map Pot.pv), .tup (ms.map Mov.pv)]) (.lst []) := pu_of fun s => by
  (refine o_def d_wrong_in_moves rfl rfl ?_; simp only [d_wrong_in_moves, List.map_cons, List.map_nil, List.cons_append, List.nil_append, List.append_nil, List.replicate_succ, List.replicate_zero, Nat.reduceSub])
  simp? []
  refine wp_mapP (e := Pot.pv) (fun p => some (.str p.nm)) (l := ps) (fun p _ => ?_) ?_
  · have ic : isClo p.pv = false := rfl
    simp? [ic]
    unfold Pot.pv
    simp? [at0]
    simp
  · have e : (ps.filterMap fun p => some (PV.str p.nm)) = (ps.map Pot.nm).map .str := by
      simp [List.filterMap_eq_map]
    have hl : ((ps.map Pot.nm).map PV.str).length ≤ SZ := by
      simp only [List.length_map]
      show _ ≤ 16777216
      omega
    rw [e]
    have hw : Pu ((runs prog (n + 6)).def_ 28 [.tup (ms.map Mov.pv), .int 0, .int 8, .clo 1 [.lst ((ps.map Pot.nm).map .str)]]) (.lst []) := by
      refine p_wrong_in (n + 5) (ms.map Mov.pv) 0 8 1 _ (fun x hx => ?_) (by omega) (by simp; omega) fun i x hx => ?_
      · obtain ⟨z, _, rfl⟩ := List.mem_map.mp hx
        rfl
      · rw [List.getElem?_map] at hx
        cases q : ms[i]? with
        | none => rw [q] at hx; cases hx
        | some m =>
          rw [q] at hx
          cases hx
          have hm := h m (List.mem_of_getElem? q)
          rw [← List.map_take]
          refine lam_wp (l := l_wrong_in_moves_1) rfl rfl rfl fun s => ?_
          simp only [l_wrong_in_moves_1]
          have ic : isClo m.pv = false := rfl
          rcases lastCases (ms.take i) with e | ⟨pre, y, e⟩
          · rw [e]
            simp? [ic, w_pu (p_is_move n _ m hm)]
            simp
          · have hlt := ahead_of ha q e
            rw [e]
            have e0 : ((pre ++ [y]).map Mov.pv).isEmpty = false := by simp
            simp? [ic, w_pu (p_is_move n _ m hm), eqT0 (toDs_movs (pre ++ [y])), e0]
            simp only [List.map_append, List.map_cons, List.map_nil]
            have c2 : ∀ x : Mov, cut [PV.str x.a, PV.str x.b, PV.int x.m] none (some 2) = [PV.str x.a, PV.str x.b] := fun x => cut_take _ 2
            unfold Mov.pv
            simp? [at_last, c2, hlt]
            simp
    have el : prog.lams.lookup 1 = some l_wrong_in_moves_1 := rfl
    simp? [newL_f hl, gl2, el, l_wrong_in_moves_1, caps, getX, w_pu hw]
    simp
end Mp.K02
set_option maxHeartbeats 1000000
namespace Mp.K02
open Mp PySem
abbrev Bk : Type := List Pot × List Mov
def bkPV (b : Bk) : PV := .tup [.tup (b.1.map Pot.pv), .tup (b.2.map Mov.pv)]
structure BkOk (b : Bk) : Prop where
  p1 : 1 ≤ b.1.length
  p2 : b.1.length ≤ 8
  m2 : b.2.length ≤ 8
  po : ∀ p ∈ b.1, PotOk p
  pa : b.1.Pairwise fun p q => sLt p.nm q.nm
  mo : ∀ m ∈ b.2, MovOk (b.1.map Pot.nm) m
  ma : b.2.Pairwise fun p q => pLt (p.a, p.b) (q.a, q.b)
def At (s : Sto) (l : Nat) (b : Bk) : Prop := s[l]? = some (.ins 0 [(5, bkPV b)])
theorem p_make (n : Nat) (b : Bk) (h : BkOk b) (s : Sto) : (runs prog (n + 11)).make 0 [.tup (b.1.map Pot.pv), .tup (b.2.map Mov.pv)] s = .ok (.loc s.length) (s ++ [.ins 0 [(5, bkPV b)]]) := of_wp (by
  rw [w_make (k := 13) rfl]
  (refine o_def d_Book__init_ rfl rfl ?_; simp only [d_Book__init_, List.map_cons, List.map_nil, List.cons_append, List.nil_append, List.append_nil, List.replicate_succ, List.replicate_zero, Nat.reduceSub])
  simp? [w_pu (p_wrong_in_pots n b.1 h.p1 h.p2 h.po h.pa), w_pu (p_wrong_in_moves (n + 2) b.1 b.2 h.m2 h.p2 h.mo h.ma)]
  rw [w_setF at_end (by rfl) (by simp)]
  rw [set_end]
  simp? []
  exact ⟨_, _, rfl, rfl, rfl⟩)
section
variable {s : Sto} {l : Nat} {b : Bk} {Q : PV → Sto → Prop}
theorem a_pots (m : Nat) (h : At s l b) : Wp (atrV prog (runs prog (m + 2)) (.loc l) 3) Q s = Q (.tup (b.1.map Pot.pv)) s := by
  rw [w_atrP h (k := 11) rfl, w_low]
  refine w_ok (of_wp ?_)
  (refine o_def d_Book_pots rfl rfl ?_; simp only [d_Book_pots, List.map_cons, List.map_nil, List.cons_append, List.nil_append, List.append_nil, List.replicate_succ, List.replicate_zero, Nat.reduceSub])
  simp? []
  rw [w_atrF h rfl (by rfl) rfl]
  unfold bkPV
  simp? [at0]
  simp
theorem a_moves (m : Nat) (h : At s l b) : Wp (atrV prog (runs prog (m + 2)) (.loc l) 4) Q s = Q (.tup (b.2.map Mov.pv)) s := by
  rw [w_atrP h (k := 12) rfl, w_low]
  refine w_ok (of_wp ?_)
  (refine o_def d_Book_moves rfl rfl ?_; simp only [d_Book_moves, List.map_cons, List.map_nil, List.cons_append, List.nil_append, List.append_nil, List.replicate_succ, List.replicate_zero, Nat.reduceSub])
  simp? []
  rw [w_atrF h rfl (by rfl) rfl]
  unfold bkPV
  simp? [at1]
  simp
theorem a_parts (m : Nat) (h : At s l b) : Wp (atrV prog (runs prog (m + 2)) (.loc l) 2) Q s = Q (bkPV b) s := by
  rw [w_atrP h (k := 10) rfl, w_low]
  refine w_ok (of_wp ?_)
  (refine o_def d_Book_parts rfl rfl ?_; simp only [d_Book_parts, List.map_cons, List.map_nil, List.cons_append, List.nil_append, List.append_nil, List.replicate_succ, List.replicate_zero, Nat.reduceSub])
  simp? []
  rw [w_atrF h rfl (by rfl) rfl]
  simp? []
  simp
theorem c_book (n : Nat) (h : At s l b) : (runs prog (n + 1)).def_ 16 [.loc l] s = .ok .non s := of_wp (by
  (refine o_def d_check_book rfl rfl ?_; simp only [d_check_book, List.map_cons, List.map_nil, List.cons_append, List.nil_append, List.append_nil, List.replicate_succ, List.replicate_zero, Nat.reduceSub])
  simp? []
  rw [w_isBI (cl := prog.cls) h rfl]
  simp? [ownAns]
  simp)
theorem c_names (n : Nat) (h : At s l b) (ho : BkOk b) : (runs prog (n + 3)).def_ 25 [.loc l] s = .ok (.tup ((b.1.map Pot.nm).map .str)) s := of_wp (by
  (refine o_def d_names_of rfl rfl ?_; simp only [d_names_of, List.map_cons, List.map_nil, List.cons_append, List.nil_append, List.append_nil, List.replicate_succ, List.replicate_zero, Nat.reduceSub])
  simp? [a_pots n h]
  refine wp_mapP (e := Pot.pv) (fun p => some (.str p.nm)) (l := b.1) (fun p _ => ?_) ?_
  · have ic : isClo p.pv = false := rfl
    simp? [ic]
    unfold Pot.pv
    simp? [at0]
    simp
  · have e : (b.1.filterMap fun p => some (PV.str p.nm)) = (b.1.map Pot.nm).map .str := by
      simp [List.filterMap_eq_map]
    have hl : ((b.1.map Pot.nm).map PV.str).length ≤ SZ := by
      have := ho.p2
      simp only [List.length_map]
      show _ ≤ 16777216
      omega
    rw [e]
    simp? [newL_f hl]
    simp)
theorem c_pot (n : Nat) (h : At s l b) (ho : BkOk b) {p : Pot} (hp : p ∈ b.1) : (runs prog (n + 4)).def_ 17 [.loc l, .str p.nm] s = .ok .non s := of_wp (by
  (refine o_def d_check_pot rfl rfl ?_; simp only [d_check_pot, List.map_cons, List.map_nil, List.cons_append, List.nil_append, List.append_nil, List.replicate_succ, List.replicate_zero, Nat.reduceSub])
  have hm : p.nm ∈ b.1.map Pot.nm := List.mem_map.mpr ⟨p, hp, rfl⟩
  simp? [w_ok (c_names n h ho), w_pu (p_is_one_of (n + 2) p.nm (b.1.map Pot.nm)), hm]
  simp)
theorem c_kind (n : Nat) (z : Str) (hz : nameB z = true ∧ z.length ≤ SZ) : Pu ((runs prog (n + 3)).def_ 18 [.str z]) .non := pu_of fun s => by
  (refine o_def d_check_kind rfl rfl ?_; simp only [d_check_kind, List.map_cons, List.map_nil, List.cons_append, List.nil_append, List.append_nil, List.replicate_succ, List.replicate_zero, Nat.reduceSub])
  simp? [w_pu (p_is_name n z hz.2), hz.1]
  simp
theorem c_day (n : Nat) (d : Int) (h0 : 0 ≤ d) (h1 : d ≤ 999) : Pu ((runs prog (n + 4)).def_ 19 [.int d]) .non := pu_of fun s => by
  have hn : Pu ((runs prog (n + 3)).def_ 27 [.int d, .int 0, .int 999]) .non := pu_of fun s => by
    (refine o_def d_check_number rfl rfl ?_; simp only [d_check_number, List.map_cons, List.map_nil, List.cons_append, List.nil_append, List.append_nil, List.replicate_succ, List.replicate_zero, Nat.reduceSub])
    simp? [w_pu (p_is_between n d 0 999), h0, h1]
    simp
  (refine o_def d_check_day rfl rfl ?_; simp only [d_check_day, List.map_cons, List.map_nil, List.cons_append, List.nil_append, List.append_nil, List.replicate_succ, List.replicate_zero, Nat.reduceSub])
  simp? [gl0, w_pu hn]
  simp
theorem p_may (n : Nat) (p : Pot) (z : Str) (d : Int) : Pu ((runs prog (n + 1)).def_ 20 [p.pv, .str z, .int d]) (.bl (decide (z ∈ p.kinds) && (decide (p.first ≤ d) && decide (d ≤ p.last)))) := pu_of fun s => by
  unfold Pot.pv
  (refine o_def d_may rfl rfl ?_; simp only [d_may, List.map_cons, List.map_nil, List.cons_append, List.nil_append, List.append_nil, List.replicate_succ, List.replicate_zero, Nat.reduceSub])
  simp? [at2, at3, at4]
  by_cases h1 : z ∈ p.kinds <;> by_cases h2 : p.first ≤ d <;> simp [h1, h2]
theorem names_nd (ho : BkOk b) : (b.1.map Pot.nm).Nodup := by
  unfold List.Nodup
  rw [List.pairwise_map]
  refine ho.pa.imp fun h e => ?_
  rw [e] at h
  exact sLt_irrefl _ h
theorem c_spot (n : Nat) (h : At s l b) (ho : BkOk b) {p : Pot} {i : Nat} (hp : b.1[i]? = some p) : (runs prog (n + 4)).def_ 21 [.loc l, .str p.nm] s = .ok (.int (i : Int)) s := of_wp (by
  (refine o_def d_pot_spot rfl rfl ?_; simp only [d_pot_spot, List.map_cons, List.map_nil, List.cons_append, List.nil_append, List.append_nil, List.replicate_succ, List.replicate_zero, Nat.reduceSub])
  have hi : (b.1.map Pot.nm)[i]? = some p.nm := by rw [List.getElem?_map, hp]; rfl
  simp? [w_ok (c_names n h ho), idxV_strs hi (names_nd ho)]
  simp)
theorem c_may_pay (n : Nat) (h : At s l b) (ho : BkOk b) {p : Pot} (hp : p ∈ b.1) (z : Str) (hz : nameB z = true ∧ z.length ≤ SZ) (d : Int) (h0 : 0 ≤ d) (h1 : d ≤ 999) :
    (runs prog (n + 5)).def_ 8 [.loc l, .str p.nm, .str z, .int d] s = .ok (.bl (decide (z ∈ p.kinds) && (decide (p.first ≤ d) && decide (d ≤ p.last)))) s := of_wp (by
  obtain ⟨i, hi⟩ := List.mem_iff_getElem?.mp hp
  have e : L2.atI (b.1.map Pot.pv) (i : Int) = some p.pv := by rw [atI_nat, List.getElem?_map, hi]; rfl
  (refine o_def d_may_pay rfl rfl ?_; simp only [d_may_pay, List.map_cons, List.map_nil, List.cons_append, List.nil_append, List.append_nil, List.replicate_succ, List.replicate_zero, Nat.reduceSub])
  simp? [w_ok (c_book (n + 3) h), w_ok (c_pot n h ho hp), w_pu (c_kind (n + 1) z hz), w_pu (c_day n d h0 h1), a_pots (n + 2) h, w_ok (c_spot n h ho hi), e, w_pu (p_may (n + 3) p z d)]
  simp)
theorem c_plain (n : Nat) (h : At s l b) (ho : BkOk b) : (runs prog (n + 3)).def_ 9 [.loc l] s = .ok (.bl (b.1.all fun p => decide (p.part = 12))) s := of_wp (by
  (refine o_def d_is_plain rfl rfl ?_; simp only [d_is_plain, List.map_cons, List.map_nil, List.cons_append, List.nil_append, List.append_nil, List.replicate_succ, List.replicate_zero, Nat.reduceSub])
  simp? [w_ok (c_book (n + 1) h), a_pots n h]
  refine wp_mapP (e := Pot.pv) (fun p => some (.bl (decide (p.part = 12)))) (l := b.1) (fun p _ => ?_) ?_
  · have ic : isClo p.pv = false := rfl
    simp? [ic]
    unfold Pot.pv
    simp? [at5]
    simp
  · have e : (b.1.filterMap fun p => some (PV.bl (decide (p.part = 12)))) = (b.1.map fun p => decide (p.part = 12)).map .bl := by
      simp [List.filterMap_eq_map]
    have hl : ((b.1.map fun p => decide (p.part = 12)).map PV.bl).length ≤ SZ := by
      have := ho.p2
      simp only [List.length_map]
      show _ ≤ 16777216
      omega
    rw [e]
    simp? [newL_f hl, all_bls]
    simp [List.all_map])
end
end Mp.K02
set_option maxHeartbeats 1000000
namespace Mp.K02
open Mp PySem
def bkD (b : Bk) : PyData := .tuple [.tuple (b.1.map Pot.dat), .tuple (b.2.map Mov.dat)]
theorem bk_toD (b : Bk) : (bkPV b).toD = some (bkD b) := by
  refine toD_tup ?_
  unfold PV.toDs
  rw [toD_tup (toDs_pots b.1)]
  unfold PV.toDs
  rw [toD_tup (toDs_movs b.2)]
  rfl
theorem depthAll_le {k : Nat} : ∀ {l : List PyData}, (∀ x ∈ l, x.depth ≤ k) → PyData.depthAll l ≤ k
  | [], _ => by simp [PyData.depthAll]
  | x :: l, h => by
    rw [PyData.depthAll]
    exact Nat.max_le.mpr ⟨h x (by simp), depthAll_le fun y hy => h y (List.mem_cons_of_mem _ hy)⟩
theorem depth_strs (zs : List Str) : PyData.depthAll (zs.map .str) = 0 := Nat.le_zero.mp (depthAll_le fun x hx => by
  obtain ⟨z, _, rfl⟩ := List.mem_map.mp hx
  simp [PyData.depth])
theorem pot_depth (p : Pot) : p.dat.depth ≤ 2 := by
  simp [Pot.dat, PyData.depth, PyData.depthAll, depth_strs]
theorem mov_depth (p : Mov) : p.dat.depth ≤ 1 := by
  simp [Mov.dat, PyData.depth, PyData.depthAll]
theorem bk_depth (b : Bk) : (bkD b).depth ≤ 4 := by
  have h1 : PyData.depthAll (b.1.map Pot.dat) ≤ 2 := depthAll_le fun x hx => by
    obtain ⟨z, _, rfl⟩ := List.mem_map.mp hx
    exact pot_depth z
  have h2 : PyData.depthAll (b.2.map Mov.dat) ≤ 1 := depthAll_le fun x hx => by
    obtain ⟨z, _, rfl⟩ := List.mem_map.mp hx
    exact mov_depth z
  simp only [bkD, PyData.depth, PyData.depthAll]
  omega
def bkEq (b c : Bk) : Bool := PyData.eqv (bkD b) (bkD c)
theorem bkEq_comm (b c : Bk) : bkEq b c = bkEq c b := PySem.W.eqv_comm _ _
theorem eqvAll_refl : ∀ {l : List PyData}, (∀ x ∈ l, PyData.eqv x x = true) → PyData.eqvAll l l = true
  | [], _ => rfl
  | x :: l, h => by
    rw [PyData.eqvAll, h x (by simp), eqvAll_refl fun y hy => h y (List.mem_cons_of_mem _ hy)]
    rfl
theorem bkEq_refl (b : Bk) : bkEq b b = true := by
  unfold bkEq bkD
  rw [PyData.eqv]
  refine eqvAll_refl fun x hx => ?_
  simp only [List.mem_cons, List.not_mem_nil, or_false] at hx
  rcases hx with rfl | rfl
  · rw [PyData.eqv]
    refine eqvAll_refl fun x hx => ?_
    obtain ⟨z, _, rfl⟩ := List.mem_map.mp hx
    unfold Pot.dat
    have hs : PyData.eqvAll (z.kinds.map .str) (z.kinds.map .str) = true := eqvAll_refl fun x hx => by
      obtain ⟨z, _, rfl⟩ := List.mem_map.mp hx
      simp [PyData.eqv]
    simp [PyData.eqv, PyData.eqvAll, hs]
  · rw [PyData.eqv]
    refine eqvAll_refl fun x hx => ?_
    obtain ⟨z, _, rfl⟩ := List.mem_map.mp hx
    simp [Mov.dat, PyData.eqv, PyData.eqvAll]
theorem eqBk {cts : List PV} (b c : Bk) : cmpV cts .eq (bkPV b) (bkPV c) = M.ret (bkEq b c) := eq_of (bk_toD b) (bk_toD c) (by have := bk_depth b; omega)
section
variable {s : Sto} {l l2 : Nat} {b c : Bk}
theorem c_eq (n : Nat) (h : At s l b) (h2 : At s l2 c) : (runs prog (n + 1)).def_ 14 [.loc l, .loc l2] s = .ok (.bl (bkEq b c)) s := of_wp (by
  (refine o_def d_Book__eq_ rfl rfl ?_; simp only [d_Book__eq_, List.map_cons, List.map_nil, List.cons_append, List.nil_append, List.append_nil, List.replicate_succ, List.replicate_zero, Nat.reduceSub])
  simp? []
  rw [w_isBI (cl := prog.cls) h2 rfl]
  simp? [ownAns]
  rw [w_atrF h rfl (by rfl) rfl]
  simp? []
  rw [w_atrF h2 rfl (by rfl) rfl]
  simp? [eqBk]
  simp)
theorem c_eqT (n : Nat) (xs : List PV) : Pu ((runs prog (n + 1)).def_ 14 [.loc l, .tup xs]) (.bl false) := pu_of fun s => by
  (refine o_def d_Book__eq_ rfl rfl ?_; simp only [d_Book__eq_, List.map_cons, List.map_nil, List.cons_append, List.nil_append, List.append_nil, List.replicate_succ, List.replicate_zero, Nat.reduceSub])
  simp? []
  simp
end
inductive SD : Nat → PV → Prop
  | non {k : Nat} : SD k .non
  | bl {k : Nat} (b : Bool) : SD k (.bl b)
  | int {k : Nat} (i : Int) : SD k (.int i)
  | str {k : Nat} (z : Str) : SD k (.str z)
  | tup {k : Nat} {xs : List PV} (h : ∀ x ∈ xs, SD k x) (hl : xs.length ≤ SZ) : SD (k + 1) (.tup xs)
theorem isnon {cts : List PV} {x : PV} : cmpV cts .is x .non = M.ret (isNon x) := rfl
theorem same_ok : ∀ (k : Nat) (v : PV), SD k v → ∀ n, Pu ((runs prog (n + k + 1)).def_ 7 [v, v]) (.bl true) := by
  intro k
  induction k with
  | zero =>
    intro v h n
    refine pu_of fun s => ?_
    cases h with
    | non => (refine o_def d__law_same rfl rfl ?_; simp only [d__law_same, List.map_cons, List.map_nil, List.cons_append, List.nil_append, List.append_nil, List.replicate_succ, List.replicate_zero, Nat.reduceSub]); simp? [isnon, isNon]; simp
    | bl b => (refine o_def d__law_same rfl rfl ?_; simp only [d__law_same, List.map_cons, List.map_nil, List.cons_append, List.nil_append, List.append_nil, List.replicate_succ, List.replicate_zero, Nat.reduceSub]); simp? [isnon, isNon]; simp
    | int i => (refine o_def d__law_same rfl rfl ?_; simp only [d__law_same, List.map_cons, List.map_nil, List.cons_append, List.nil_append, List.append_nil, List.replicate_succ, List.replicate_zero, Nat.reduceSub]); simp? [isnon, isNon]; simp
    | str z => (refine o_def d__law_same rfl rfl ?_; simp only [d__law_same, List.map_cons, List.map_nil, List.cons_append, List.nil_append, List.append_nil, List.replicate_succ, List.replicate_zero, Nat.reduceSub]); simp? [isnon, isNon]; simp
  | succ k ih =>
    intro v h n
    refine pu_of fun s => ?_
    cases h with
    | non => (refine o_def d__law_same rfl rfl ?_; simp only [d__law_same, List.map_cons, List.map_nil, List.cons_append, List.nil_append, List.append_nil, List.replicate_succ, List.replicate_zero, Nat.reduceSub]); simp? [isnon, isNon]; simp
    | bl b => (refine o_def d__law_same rfl rfl ?_; simp only [d__law_same, List.map_cons, List.map_nil, List.cons_append, List.nil_append, List.append_nil, List.replicate_succ, List.replicate_zero, Nat.reduceSub]); simp? [isnon, isNon]; simp
    | int i => (refine o_def d__law_same rfl rfl ?_; simp only [d__law_same, List.map_cons, List.map_nil, List.cons_append, List.nil_append, List.append_nil, List.replicate_succ, List.replicate_zero, Nat.reduceSub]); simp? [isnon, isNon]; simp
    | str z => (refine o_def d__law_same rfl rfl ?_; simp only [d__law_same, List.map_cons, List.map_nil, List.cons_append, List.nil_append, List.append_nil, List.replicate_succ, List.replicate_zero, Nat.reduceSub]); simp? [isnon, isNon]; simp
    | @tup _ xs h hl =>
      have hl2 : xs.length ≤ 16777216 := hl
      have q : in62 (xs.length : Int) = true := by
        unfold in62
        simp only [Bool.and_eq_true, decide_eq_true_eq]
        omega
      (refine o_def d__law_same rfl rfl ?_; simp only [d__law_same, List.map_cons, List.map_nil, List.cons_append, List.nil_append, List.append_nil, List.replicate_succ, List.replicate_zero, Nat.reduceSub])
      simp? [q, rngL]
      simp only [Int.sub_zero, Int.toNat_natCast, ne_eq, not_true_eq_false, decide_true, Bool.not_true, Bool.false_eq_true, if_false]
      refine wp_map (e := fun k : Nat => .int (0 + (k : Int))) (fun r acc s' => s' = s ∧ ∃ j, j + r.length = xs.length ∧ acc = List.replicate j (.bl true)) (List.range xs.length) [] s ⟨rfl, 0, by simp, rfl⟩ (fun i r acc s' ⟨p, hp⟩ ⟨hs, j, hj, ha⟩ => ?_) (fun acc s' ⟨hs, j, hj, ha⟩ => ?_)
      · subst hs ha
        have hi : i < xs.length := by
          have : i ∈ List.range xs.length := by rw [hp]; simp
          exact List.mem_range.mp this
        have hx : L2.atI xs (0 + (i : Int)) = some xs[i] := by rw [Int.zero_add, atI_nat, List.getElem?_eq_getElem hi]
        have ih' : Pu ((runs prog (n + (k + 1))).def_ 7 [xs[i], xs[i]]) (.bl true) := ih xs[i] (h _ (List.getElem_mem hi)) n
        simp? [hx, w_pu ih']
        refine ⟨trivial, j + 1, by simp at hj; omega, ?_⟩
        show List.replicate j (PV.bl true) ++ [PV.bl true] = _
        rw [List.replicate_succ']
      · subst hs ha
        have hj : j = xs.length := by simpa using hj
        subst hj
        rw [newL_f (by simpa using hl)]
        simp? [all_trues]
        simp
end Mp.K02
set_option maxHeartbeats 4000000
namespace Mp.K02
open Mp PySem
def Bowl (s : Sto) (b : Nat) : Prop := ∃ a x y : Int, s[b]? = some (.lst [.int a, .int x, .int y])
structure Ext (b : Nat) (s s' : Sto) : Prop where
  bw : Bowl s' b
  len : s.length ≤ s'.length
  old : ∀ i x, i ≠ b → s[i]? = some x → s'[i]? = some x
theorem Ext.refl {b : Nat} {s : Sto} (h : Bowl s b) : Ext b s s := ⟨h, Nat.le_refl _, fun _ _ _ h => h⟩
theorem Ext.trans {b : Nat} {s s1 s2 : Sto} (h : Ext b s s1) (k : Ext b s1 s2) : Ext b s s2 := ⟨k.bw, Nat.le_trans h.len k.len, fun i x hi e => k.old i x hi (h.old i x hi e)⟩
theorem Bowl.lt {s : Sto} {b : Nat} (h : Bowl s b) : b < s.length := by
  obtain ⟨a, x, y, h⟩ := h
  exact (List.getElem?_eq_some_iff.mp h).1
theorem draw_ok (n : Nat) (s : Sto) (b : Nat) (a x y m : Int) (hb : s[b]? = some (.lst [.int a, .int x, .int y])) (hm : 0 < m) (hm2 : m < 1073741824) :
    ∃ r a' x' y', (runs prog (n + 1)).def_ 5 [.loc b, .int m] s = .ok (.int r) (s.set b (.lst [.int a', .int x', .int y'])) ∧ 0 ≤ r ∧ r < m := by
  have e : (runs prog (n + 1)).def_ 5 = body prog (runs prog n) d__law_draw := rfl
  rw [e]
  have hlt : b < s.length := (List.getElem?_eq_some_iff.mp hb).1
  by_cases ha : 0 < a
  · refine ⟨a.fmod m, a.fdiv m, x, y, ?_, ?_, ?_⟩
    · simp [body, d__law_draw, exs, ex, evT, ev, evs, evg, evgs, M.bnd, M.ret, M.grd, M.opt, getVar, getX, isClo, ixV, asS, L2.atI, L2.ixN, cmpV, cmpI, bfV, setV, tupG, consG, nilG, hb, ha, gsLen, truth, two, divmodV, hm, hm2]
    · exact Int.fmod_nonneg_of_pos a hm
    · exact Int.fmod_lt_of_pos a hm
  · let t := (x * 39373 + 17011 * (y + 1)).fmod 2147483563
    let x' := (t * (t.fmod 4093 + 30011) + 7 * (y + 1)).fmod 2147483563
    refine ⟨(x'.fdiv 733).fmod m, a, x', y + 1, ?_, ?_, ?_⟩
    · have g1 : ∀ t : Int, in64 (t.fmod 4093 + 30011) = true := by
        intro t
        have h1 := Int.fmod_nonneg_of_pos t (b := 4093) (by decide)
        have h2 := Int.fmod_lt_of_pos t (b := 4093) (by decide)
        unfold in64
        simp only [Bool.and_eq_true, decide_eq_true_eq]
        omega
      have ne : m ≠ 0 := by omega
      have hs : ∀ v, (s.set b v)[b]? = some v := fun v => List.getElem?_set_self hlt
      clear hlt
      have g2 : in64 39373 = true := by decide
      have g3 : in64 17011 = true := by decide
      have g4 : in64 7 = true := by decide
      simp [body, d__law_draw, exs, ex, evT, ev, evs, evg, evgs, M.bnd, M.ret, M.grd, M.opt, getVar, getX, isClo, ixV, asS, L2.atI, L2.ixN, cmpV, cmpI, bfV, setV, tupG, consG, nilG, hb, ha, gsLen, truth, two, divmodV, hm, hm2, binV, intV, ne, hs, List.set_set, g1, g2, g3, g4, t, x']
    · exact Int.fmod_nonneg_of_pos _ hm
    · exact Int.fmod_lt_of_pos _ hm
theorem w_draw (n : Nat) {s : Sto} {b : Nat} {m : Int} (hb : Bowl s b) (hm : 0 < m) (hm2 : m < 1073741824) : Wp ((runs prog (n + 1)).def_ 5 [.loc b, .int m]) (fun v s' => (∃ r : Int, v = .int r ∧ 0 ≤ r ∧ r < m) ∧ Ext b s s' ∧ s'.length = s.length) s := by
  obtain ⟨a, x, y, hb⟩ := hb
  obtain ⟨r, a', x', y', h, r1, r2⟩ := draw_ok n s b a x y m hb hm hm2
  have hlt : b < s.length := (List.getElem?_eq_some_iff.mp hb).1
  refine ⟨_, _, h, ⟨r, rfl, r1, r2⟩, ⟨⟨a', x', y', List.getElem?_set_self hlt⟩, by simp, fun i x hi e => by rw [List.getElem?_set_ne (Ne.symm hi)]; exact e⟩, by simp⟩
theorem w_of (n : Nat) {s : Sto} {b : Nat} {v : PV} {xs : List PV} (hv : v = .tup xs ∨ v = .lst xs) (hb : Bowl s b) (h1 : 0 < xs.length) (h2 : xs.length < 1073741824) : Wp ((runs prog (n + 2)).def_ 4 [.loc b, v]) (fun u s' => u ∈ xs ∧ Ext b s s' ∧ s'.length = s.length) s := by
  have core : ∀ r : Int, 0 ≤ r → r < xs.length → ∃ u, u ∈ xs ∧ L2.atI xs r = some u := fun r r1 r2 => by
    have hr : r.toNat < xs.length := by omega
    refine ⟨xs[r.toNat], List.getElem_mem hr, ?_⟩
    have := atI_nat xs r.toNat
    rw [Int.toNat_of_nonneg r1] at this
    rw [this, List.getElem?_eq_getElem hr]
  (refine o_def d__law_of rfl rfl ?_; simp only [d__law_of, List.map_cons, List.map_nil, List.cons_append, List.nil_append, List.append_nil, List.replicate_succ, List.replicate_zero, Nat.reduceSub])
  rcases hv with rfl | rfl
  · simp? []
    refine wp_use (w_draw n hb (by omega) (by omega)) fun u s' ⟨⟨r, hu, r1, r2⟩, e, el⟩ => ?_
    subst hu
    obtain ⟨w, hw, hx⟩ := core r r1 r2
    simp? [hx]
    exact ⟨hw, e, el⟩
  · simp? []
    refine wp_use (w_draw n hb (by omega) (by omega)) fun u s' ⟨⟨r, hu, r1, r2⟩, e, el⟩ => ?_
    subst hu
    obtain ⟨w, hw, hx⟩ := core r r1 r2
    simp? [hx]
    exact ⟨hw, e, el⟩
end Mp.K02
set_option maxHeartbeats 4000000
namespace Mp.K02
open Mp PySem
structure ExtN (b N : Nat) (s s' : Sto) : Prop where
  bw : Bowl s' b
  len : s.length ≤ s'.length
  old : ∀ i x, i ≠ b → i < N → s[i]? = some x → s'[i]? = some x
theorem Ext.n {b N : Nat} {s s' : Sto} (h : Ext b s s') : ExtN b N s s' := ⟨h.bw, h.len, fun i x hi _ => h.old i x hi⟩
theorem ExtN.trans {b N : Nat} {s s1 s2 : Sto} (h : ExtN b N s s1) (k : ExtN b N s1 s2) : ExtN b N s s2 := ⟨k.bw, Nat.le_trans h.len k.len, fun i x hi hN e => k.old i x hi hN (h.old i x hi hN e)⟩
theorem ExtN.ext {b : Nat} {s s' : Sto} (h : ExtN b s.length s s') : Ext b s s' := ⟨h.bw, h.len, fun i x hi e => h.old i x hi (List.getElem?_eq_some_iff.mp e).1 e⟩
theorem ExtN.set {b N f : Nat} {s : Sto} {x : MO} (hb : Bowl s b) (hf : N ≤ f) (hn : f ≠ b) : ExtN b N s (s.set f x) := by
  obtain ⟨a, u, v, h⟩ := hb
  exact ⟨⟨a, u, v, by rw [List.getElem?_set_ne hn]; exact h⟩, by simp, fun i y hi hN e => by rw [List.getElem?_set_ne (by omega)]; exact e⟩
theorem ExtN.push {b N : Nat} {s : Sto} {x : List MO} (hb : Bowl s b) : ExtN b N s (s ++ x) := by
  obtain ⟨a, u, v, h⟩ := hb
  exact ⟨⟨a, u, v, at_old h⟩, by simp, fun i y hi hN e => at_old e⟩
def Nm (z : Str) : Prop := nameB z = true ∧ z.length ≤ 8
def Ltr (z : Str) (k : Nat) : Prop := z.length = k ∧ ∀ c ∈ z.cps.toList, c ∈ lettersL
theorem nm_of {z : Str} {k : Nat} (h : Ltr z k) (h1 : 1 ≤ k) (h2 : k ≤ 8) (hw : z ∉ wordsL) : Nm z := by
  obtain ⟨hl, hc⟩ := h
  refine ⟨?_, by omega⟩
  unfold nameB wordB
  have e1 : z ≠ "" := fun e => by
    rw [e] at hl
    have : ("" : Str).length = 0 := rfl
    omega
  have e2 : z.cps.toList.all (fun c => decide (c ∈ lettersL)) = true := List.all_eq_true.mpr fun c h => decide_eq_true (hc c h)
  rw [e2, decide_eq_false e1, decide_eq_false hw]
  simp
  omega
theorem words_few : wordsL.all (fun w => decide ((wordsL.filter fun v => decide (v.cps.toList.dropLast = w.cps.toList.dropLast)).length ≤ 3)) = true := by decide +kernel
theorem letters_nd : lettersL.Nodup := by decide +kernel
theorem letters_len : lettersL.length = 26 := by decide +kernel
theorem lit_letters : (Str.ofString "abcdefghijklmnopqrstuvwxyz") = lettersS := by decide +kernel
theorem lettersS_l : lettersS.cps.toList = lettersL := rfl
def more (z : Str) (c : Nat) : Str := ⟨(z.cps.toList.take 7).toArray⟩ ++ ⟨#[c]⟩
theorem more_l (z : Str) (c : Nat) : (more z c).cps.toList = z.cps.toList.take 7 ++ [c] := by
  show ((z.cps.toList.take 7).toArray ++ #[c]).toList = _
  simp
def cands (z : Str) : List Str := z :: lettersL.map (more z)
theorem more_inj {z : Str} {c d : Nat} (h : more z c = more z d) : c = d := by
  have := congrArg (fun x : Str => x.cps.toList) h
  simp only [more_l] at this
  exact (List.cons.inj (List.append_cancel_left this)).1
theorem cand_ex (z : Str) (fs : List Str) (hf : fs.length ≤ 7) : ∃ y r, (cands z).filter (fun y => !decide (y ∈ wordsL ++ fs)) = y :: r := by
  cases q : (cands z).filter (fun y => !decide (y ∈ wordsL ++ fs)) with
  | cons y r => exact ⟨y, r, rfl⟩
  | nil =>
    exfalso
    rw [List.filter_eq_nil_iff] at q
    let p := z.cps.toList.take 7
    have hsub : lettersL.map (more z) ⊆ (wordsL.filter fun v => decide (v.cps.toList.dropLast = p)) ++ fs := by
      intro y hy
      have h := q y (List.mem_cons_of_mem _ hy)
      simp only [Bool.not_eq_true', decide_eq_false_iff_not, Decidable.not_not] at h
      rcases List.mem_append.mp h with h | h
      · refine List.mem_append_left _ (List.mem_filter.mpr ⟨h, decide_eq_true ?_⟩)
        obtain ⟨c, _, rfl⟩ := List.mem_map.mp hy
        rw [more_l]
        simp [p]
      · exact List.mem_append_right _ h
    have hnd : (lettersL.map (more z)).Nodup := by
      unfold List.Nodup
      rw [List.pairwise_map]
      exact letters_nd.imp fun h e => h (more_inj e)
    have hlen := hnd.length_le_of_subset hsub
    rw [List.length_map, letters_len, List.length_append] at hlen
    have h3 : (wordsL.filter fun v => decide (v.cps.toList.dropLast = p)).length ≤ 3 := by
      cases e : wordsL.filter fun v => decide (v.cps.toList.dropLast = p) with
      | nil => simp
      | cons w r =>
        have hw : w ∈ wordsL.filter fun v => decide (v.cps.toList.dropLast = p) := by rw [e]; simp
        obtain ⟨hw1, hw2⟩ := List.mem_filter.mp hw
        have := of_decide_eq_true (List.all_eq_true.mp words_few w hw1)
        rw [of_decide_eq_true hw2, e] at this
        exact this
    omega
theorem cand_ltr {z y : Str} {k : Nat} (h : Ltr z k) (h1 : 1 ≤ k) (h2 : k ≤ 8) (hy : y ∈ cands z) : ∃ j, Ltr y j ∧ 1 ≤ j ∧ j ≤ 8 := by
  rcases List.mem_cons.mp hy with rfl | hy
  · exact ⟨k, h, h1, h2⟩
  · obtain ⟨c, hc, rfl⟩ := List.mem_map.mp hy
    refine ⟨(more z c).length, ⟨rfl, fun d hd => ?_⟩, ?_, ?_⟩
    · rw [more_l] at hd
      rcases List.mem_append.mp hd with hd | hd
      · exact h.2 d (List.mem_of_mem_take hd)
      · simp only [List.mem_singleton] at hd
        subst hd
        exact hc
    · show 1 ≤ (more z c).cps.size
      rw [← Array.length_toList, more_l]
      simp
    · show (more z c).cps.size ≤ 8
      rw [← Array.length_toList, more_l]
      simp
      omega
end Mp.K02
set_option maxHeartbeats 4000000
namespace Mp.K02
open Mp PySem
def l1 : List Str := PySem.Txt.split "all bill book cost day end first from give kind last least left line lost move must no none pay pot program" " "
def l2 : List Str := PySem.Txt.split "quit room row share strike sum take till to undo use whole yes" " "
theorem l12 : l1 ++ l2 = wordsL := by decide +kernel
theorem sp1 : (decide ((Str.ofString " ").length ≠ 0) && decide ((Str.ofString "all bill book cost day end first from give kind last least left line lost move must no none pay pot program").length + 2 ≤ SZ) && (PySem.Txt.split (Str.ofString "all bill book cost day end first from give kind last least left line lost move must no none pay pot program") (Str.ofString " ")).all okS) = true := by decide +kernel
theorem sp2 : (decide ((Str.ofString " ").length ≠ 0) && decide ((Str.ofString "quit room row share strike sum take till to undo use whole yes").length + 2 ≤ SZ) && (PySem.Txt.split (Str.ofString "quit room row share strike sum take till to undo use whole yes") (Str.ofString " ")).all okS) = true := by decide +kernel
theorem l1len : l1.length ≤ 100 := by decide +kernel
theorem l2len : l2.length ≤ 100 := by decide +kernel
theorem wlen : wordsL.length ≤ 100 := by decide +kernel
theorem in62_of {i : Int} (h0 : 0 ≤ i) (h1 : i ≤ 1000) : in62 i = true := by
  unfold in62
  simp only [Bool.and_eq_true, decide_eq_true_eq]
  omega
theorem sz_of {k : Nat} (h : k ≤ 1000) : k ≤ SZ := by show k ≤ 16777216; omega
theorem emp : (Str.ofString "").cps.toList = [] := by decide +kernel
theorem cut7 {α : Type} (xs : List α) : cut xs none (some 7) = xs.take 7 := cut_take xs 7
theorem w_names (n : Nat) {s : Sto} {b m : Nat} (hb : Bowl s b) (h1 : 1 ≤ m) (h2 : m ≤ 8) : Wp ((runs prog (n + 4)).def_ 15 [.loc b, .int m]) (fun v s' => ∃ zs : List Str, v = .tup (zs.map .str) ∧ zs.length = m ∧ (∀ z ∈ zs, Nm z) ∧ Asc zs ∧ Ext b s s') s := by
  (refine o_def d__law_names rfl rfl ?_; simp only [d__law_names, List.map_cons, List.map_nil, List.cons_append, List.nil_append, List.append_nil, List.replicate_succ, List.replicate_zero, Nat.reduceSub])
  have hz0 : ([] : List PV).length ≤ SZ := Nat.zero_le _
  have a1 : (l1.map PV.str).length + (l2.map PV.str).length ≤ 1000 := by
    have := l1len
    have := l2len
    simp only [List.length_map]
    omega
  simp? [w_split sp1 (l := l1) rfl (sz_of (by have := l1len; omega)), w_split sp2 (l := l2) rfl (sz_of (by have := l2len; omega)), newL_f (xs := l1.map PV.str ++ l2.map PV.str) (by rw [List.length_append]; exact sz_of a1), newL_t hz0, in62_of (i := (m : Int)) (by omega) (by omega), rngL]
  rw [← List.map_append, l12, Int.sub_zero, Int.toNat_natCast]
  generalize (Str.ofString "all bill book cost day end first from give kind last least left line lost move must no none pay pot program") = W
  have hbl := hb.lt
  refine wp_loop (e := fun k : Nat => .int (0 + (k : Int))) (fun r ρ t => ∃ (fs : List Str) (c5 c6 c7 c8 : Option PV), ρ = [some (.loc b), some (.int m), some (.str W), some (.lst (wordsL.map .str)), some (.loc s.length), c5, c6, c7, c8, none, none] ∧ fs.length + r.length = m ∧ fs.Nodup ∧ (∀ z ∈ fs, Nm z) ∧ t[s.length]? = some (.lst (fs.map .str)) ∧ ExtN b s.length s t) (List.range m) _ _
    ⟨[], none, none, none, none, rfl, by simp, List.nodup_nil, fun z h => (by cases h), by simp, ExtN.push hb⟩ (fun i r ρ t hp ⟨fs, c5, c6, c7, c8, hρ, hl, hnd, hnm, ht, he⟩ => ?_) (fun ρ t ⟨fs, c5, c6, c7, c8, hρ, hl, hnd, hnm, ht, he⟩ => ?_)
  · subst hρ
    have hfs : fs.length ≤ 7 := by
      simp only [List.length_cons] at hl
      omega
    simp? []
    refine wp_use (w_of (n + 1) (.inl rfl) he.bw (by simp) (by simp)) fun u t1 ⟨hu, e1, el1⟩ => ?_
    have hL : ∃ k : Nat, u = .int k ∧ 1 ≤ k ∧ k ≤ 8 := by
      simp only [List.mem_cons, List.not_mem_nil, or_false] at hu
      rcases hu with rfl | rfl | rfl | rfl | rfl | rfl
      · exact ⟨1, rfl, by omega, by omega⟩
      · exact ⟨1, rfl, by omega, by omega⟩
      · exact ⟨2, rfl, by omega, by omega⟩
      · exact ⟨3, rfl, by omega, by omega⟩
      · exact ⟨5, rfl, by omega, by omega⟩
      · exact ⟨8, rfl, by omega, by omega⟩
    obtain ⟨k, hu, hk1, hk2⟩ := hL
    subst hu
    simp? [in62_of (i := (k : Int)) (by omega) (by omega), rngL]
    rw [Int.sub_zero, Int.toNat_natCast]
    have ht1 := e1.old _ _ (by omega) ht
    refine wp_loop (e := fun k : Nat => .int (0 + (k : Int))) (fun r ρ t2 => ∃ (z : Str) (c7 : Option PV), ρ = [some (.loc b), some (.int m), some (.str W), some (.lst (wordsL.map .str)), some (.loc s.length), some (.int (0 + (i : Int))), some (.str z), c7, c8, none, none] ∧ Ltr z (k - r.length) ∧ r.length ≤ k ∧ t2[s.length]? = some (.lst (fs.map .str)) ∧ ExtN b s.length s t2) (List.range k) _ _
      ⟨"", c7, rfl, ⟨by simp; rfl, fun c h => (by rw [emp] at h; cases h)⟩, by simp, ht1, he.trans e1.n⟩ (fun j r2 ρ t2 hp2 ⟨z, c7', hρ, hz, hr, ht2, he2⟩ => ?_) (fun ρ t2 ⟨z, c7', hρ, hz, hr, ht2, he2⟩ => ?_)
    · subst hρ
      simp? []
      refine wp_use (w_draw (n + 2) he2.bw (by decide) (by decide)) fun u t3 ⟨⟨q, hu, q1, q2⟩, e3, el3⟩ => ?_
      subst hu
      obtain ⟨c, hc, hc2⟩ := atI_in (xs := lettersL) q1 (by rw [letters_len]; exact q2)
      rw [lit_letters, w_ixS (z := lettersS) hc2]
      have hzl : z.length + (⟨#[c]⟩ : Str).length ≤ SZ := by
        have := hz.1
        show z.length + 1 ≤ 16777216
        omega
      simp only [List.length_cons] at hr
      simp? [bin_addS hzl]
      refine ⟨z ++ ⟨#[c]⟩, _, rfl, ⟨?_, fun d hd => ?_⟩, by omega, e3.old _ _ (by omega) ht2, he2.trans e3.n⟩
      · have := hz.1
        show (z.cps ++ #[c]).size = _
        rw [Array.size_append]
        have e : z.cps.size = z.length := rfl
        simp only [List.length_cons] at this
        simp
        omega
      · have e : (z ++ (⟨#[c]⟩ : Str)).cps.toList = z.cps.toList ++ [c] := by
          show (z.cps ++ #[c]).toList = _
          simp
        rw [e] at hd
        rcases List.mem_append.mp hd with hd | hd
        · exact hz.2 d hd
        · simp only [List.mem_singleton] at hd
          subst hd
          exact hc
    · subst hρ
      simp only [List.length_nil, Nat.sub_zero] at hz
      simp? [lit_letters]
      rw [show chars lettersS = lettersL.map fun c => PV.str ⟨#[c]⟩ from rfl]
      refine wp_mapP (e := fun c => PV.str ⟨#[c]⟩) (fun c => some (.str (more z c))) (l := lettersL) (fun c hc => ?_) ?_
      · have hzl : (⟨(z.cps.toList.take 7).toArray⟩ : Str).length + (⟨#[c]⟩ : Str).length ≤ SZ := by
          refine sz_of ?_
          show (z.cps.toList.take 7).toArray.size + 1 ≤ 1000
          simp
          omega
        simp? [cut7, bin_addS hzl]
        first | exact ⟨rfl, rfl⟩ | exact ⟨rfl, trivial⟩
      · have ec : (lettersL.filterMap fun c => some (PV.str (more z c))) = (lettersL.map (more z)).map .str := by
          simp [List.filterMap_eq_map]
        have el : ((lettersL.map (more z)).map PV.str).length ≤ SZ := by
          simp only [List.length_map, letters_len]
          exact sz_of (by omega)
        have el2 : ([PV.str z] ++ (lettersL.map (more z)).map PV.str).length ≤ SZ := by
          simp only [List.length_append, List.length_map, letters_len, List.length_singleton]
          exact sz_of (by omega)
        have ecl : [PV.str z] ++ (lettersL.map (more z)).map PV.str = (cands z).map .str := rfl
        rw [ec, newL_f el, w_ret, bin_addL, newL_f el2, w_ret, ecl, items_lst, w_ret, wat_lst, w_ret]
        refine wp_mapP (e := PV.str) (fun y => if y ∈ wordsL ++ fs then none else some (.str y)) (l := cands z) (fun y hy => ?_) ?_
        · have hw := wlen
          simp? []
          rw [w_addLL ht2 (by simp only [List.length_map]; exact sz_of (by omega)), ← List.map_append]
          simp? []
          by_cases hm : y ∈ wordsL ++ fs
          · simp [hm]
          · simp [hm]
        · obtain ⟨y, rest, hy⟩ := cand_ex z fs hfs
          have ef : ((cands z).filterMap fun y => if y ∈ wordsL ++ fs then none else some (PV.str y)) = ((cands z).filter (fun y => !decide (y ∈ wordsL ++ fs))).map .str := by
            induction cands z with
            | nil => rfl
            | cons a l ih =>
              rw [List.filterMap_cons, List.filter_cons, ih]
              by_cases hm : a ∈ wordsL ++ fs
              · simp [hm]
              · simp [hm]
          have hln : ((y :: rest).map PV.str).length ≤ SZ := by
            rw [List.length_map, ← hy]
            refine Nat.le_trans (List.length_filter_le _ _) ?_
            show ([PV.str z] ++ (lettersL.map (more z)).map PV.str).length.pred.succ ≤ SZ
            simpa [cands] using el2
          have hym : y ∈ (cands z).filter (fun y => !decide (y ∈ wordsL ++ fs)) := by rw [hy]; simp
          obtain ⟨hy1, hy2⟩ := List.mem_filter.mp hym
          have hy3 : y ∉ wordsL ++ fs := by simpa using hy2
          obtain ⟨j, hj, hj1, hj2⟩ := cand_ltr hz hk1 hk2 hy1
          rw [ef, hy, newL_f hln]
          have hlt2 := he2.len
          have hsl : s.length < t2.length := (List.getElem?_eq_some_iff.mp ht2).1
          simp? [w_bmTA ht2, at0, w_append ht2 (by rw [List.length_map]; show _ < 16777216; omega)]
          refine ⟨fs ++ [y], _, _, _, _, rfl, ?_, ?_, fun x hx => ?_, ?_, he2.trans (ExtN.set he2.bw (Nat.le_refl _) (by omega))⟩
          · simp only [List.length_append, List.length_cons, List.length_nil] at hl ⊢
            omega
          · rw [List.nodup_append]
            refine ⟨hnd, by simp, fun a ha c hc e => ?_⟩
            simp only [List.mem_singleton] at hc
            subst hc e
            exact hy3 (List.mem_append_right _ ha)
          · rcases List.mem_append.mp hx with hx | hx
            · exact hnm x hx
            · simp only [List.mem_singleton] at hx
              subst hx
              exact nm_of hj hj1 hj2 fun h => hy3 (List.mem_append_left _ h)
          · rw [List.getElem?_set_self hsl]
            simp
  · subst hρ
    have hlen : fs.length = m := by simpa using hl
    simp? []
    rw [w_sorted (f := PV.str) (g := PyData.str) (R := sLt) (asL_at ht) (sz_of (by omega)) (fun _ => rfl) (sortable_strs fs) (fun a b => (PySem.W.dataLt_str a b).symm)]
    simp? []
    refine ⟨fs.mergeSort (leOf sLt), rfl, by rw [List.length_mergeSort]; exact hlen, fun z hz => hnm z ((List.mergeSort_perm fs _).mem_iff.mp hz), sort_up sLt_irrefl sLt_trans sLt_tri hnd, he.ext⟩
end Mp.K02
set_option maxHeartbeats 4000000
namespace Mp.K02
open Mp PySem
theorem Nm.ok {z : Str} (h : Nm z) : nameB z = true ∧ z.length ≤ SZ := ⟨h.1, sz_of (by have := h.2; omega)⟩
theorem asc_sub {zs ks : List Str} (h : Asc zs) (s : ks.Sublist zs) : Asc ks := List.Pairwise.sublist s h
structure PotD (nm : Str) (kinds : List Str) (p : Pot) : Prop where
  nm : p.nm = nm
  ok : PotOk p
theorem potOk_of {nm : Str} {kinds ks : List Str} {sum first last part : Int} (hn : Nm nm) (hk : ∀ z ∈ kinds, Nm z) (ha : Asc kinds) (hl : kinds.length ≤ 6) (hs : ks.Sublist kinds) (h0 : 1 ≤ ks.length) (s0 : 0 ≤ sum) (s1 : sum ≤ 9999) (f0 : 0 ≤ first) (f1 : first ≤ 999) (l0 : first ≤ last) (l1 : last ≤ 999) (p0 : 1 ≤ part) (p1 : part ≤ 12) :
    PotOk ⟨nm, sum, ks, first, last, part⟩ :=
  ⟨hn.ok, s0, s1, h0, Nat.le_trans hs.length_le hl, fun z hz => (hk z (hs.subset hz)).ok, asc_sub ha hs, f0, f1, l0, l1, p0, p1⟩
abbrev envB (b many wide : Int) : True := trivial
theorem cut1 {α : Type} (xs : List α) : cut xs none (some 1) = xs.take 1 := cut_take xs 1
def mk (m : Mov) : Str × Str := (m.a, m.b)
def mv (m : Mov) : PV := .int m.m
theorem cts_not (p : Str × Str) : prog.cts.contains (kP p) = false := by
  have h : g_WORDS ≠ kP p := by
    unfold kP
    intro h
    have : (match g_WORDS with
      | .tup xs => xs.length
      | _ => 0) = 35 := by decide +kernel
    rw [h] at this
    simp at this
  show List.contains [g_WORDS] (kP p) = false
  simp only [List.contains_cons, List.contains_nil, Bool.or_false, beq_eq_false_iff_ne, ne_eq]
  exact fun e => h e.symm
def putM (l : List Mov) (m : Mov) : List Mov := if l.any (fun x => decide (mk x = mk m)) then l.map (fun x => if mk x = mk m then m else x) else l ++ [m]
theorem putM_kput (l : List Mov) (m : Mov) : kput (dP mk mv l) (kP (mk m)) (mv m) = dP mk mv (putM l m) := by
  unfold kput putM dP
  have e1 : ((l.map fun a => (kP (mk a), mv a)).any fun p => decide (p.1 = kP (mk m))) = l.any fun x => decide (mk x = mk m) := by
    rw [List.any_map]
    congr 1
    funext a
    exact decide_eq_decide.mpr kP_inj
  rw [e1]
  cases q : l.any fun x => decide (mk x = mk m) with
  | true =>
    simp only [if_true, List.map_map]
    refine List.map_congr_left fun a _ => ?_
    simp only [Function.comp]
    by_cases h : mk a = mk m
    · rw [if_pos (kP_inj.mpr h), if_pos h, h]
    · rw [if_neg (fun e => h (kP_inj.mp e)), if_neg h]
  | false => simp
theorem putM_len (l : List Mov) (m : Mov) : (putM l m).length ≤ l.length + 1 := by
  unfold putM
  split <;> simp
theorem putM_mem {l : List Mov} {m x : Mov} (h : x ∈ putM l m) : x ∈ l ∨ x = m := by
  unfold putM at h
  split at h
  · obtain ⟨y, hy, e⟩ := List.mem_map.mp h
    by_cases q : mk y = mk m
    · rw [if_pos q] at e
      exact .inr e.symm
    · rw [if_neg q] at e
      exact .inl (e ▸ hy)
  · rcases List.mem_append.mp h with h | h
    · exact .inl h
    · exact .inr (by simpa using h)
theorem putM_keys (l : List Mov) (m : Mov) (h : (l.map mk).Nodup) : ((putM l m).map mk).Nodup := by
  unfold putM
  split
  · have e : (l.map fun x => if mk x = mk m then m else x).map mk = l.map mk := by
      rw [List.map_map]
      refine List.map_congr_left fun a _ => ?_
      simp only [Function.comp]
      by_cases q : mk a = mk m
      · rw [if_pos q, q]
      · rw [if_neg q]
    rw [e]
    exact h
  · rename_i q
    rw [List.map_append, List.nodup_append]
    refine ⟨h, by simp, fun a ha c hc e => ?_⟩
    simp only [List.map_cons, List.map_nil, List.mem_singleton] at hc
    subst hc e
    obtain ⟨x, hx, e⟩ := List.mem_map.mp ha
    exact q (List.any_eq_true.mpr ⟨x, hx, decide_eq_true e⟩)
theorem find_mov {l : List Mov} {p : Str × Str} (h : p ∈ l.map mk) : ∃ m, l.find? (fun a => decide (mk a = p)) = some m ∧ m ∈ l ∧ mk m = p := by
  cases q : l.find? fun a => decide (mk a = p) with
  | none =>
    obtain ⟨m, hm, e⟩ := List.mem_map.mp h
    have := List.find?_eq_none.mp q m hm
    simp [e] at this
  | some m => exact ⟨m, rfl, List.mem_of_find?_eq_some q, by simpa using List.find?_some q⟩
end Mp.K02
set_option maxHeartbeats 8000000
namespace Mp
def ssN : Ss → Nat → S
  | .nil, _ => .pass
  | .cons a _, 0 => a
  | .cons _ r, n + 1 => ssN r n
def forB : S → Ss
  | .for_ _ _ b => b
  | _ => .nil
end Mp
namespace Mp.K02
open Mp PySem
theorem w_moves (n : Nat) {t : Sto} {b fd fp q : Nat} {many wide m8 : Int} {zs : List Str} {K : PV} {c8 c9 c11 c12 : Option PV} {Q : Fl × Mp.Env → Sto → Prop} (hb : Bowl t b) (hfd : fd ≠ b) (hd : t[fd]? = some (.dct [])) (hz : zs.Nodup) (hq : q ≤ 8) (hm : q = 0 ∨ 2 ≤ zs.length) (hzl : zs.length ≤ 8) (w0 : 0 < wide) (w1 : wide ≤ 10000)
    (hk : ∀ (ds : List Mov) (c13 c14 : Option PV) (t' : Sto), (∀ m ∈ ds, MovOk zs m) → (ds.map mk).Nodup → ds.length ≤ 8 → t'[fd]? = some (.dct (dP mk mv ds)) → Bowl t' b → t.length ≤ t'.length → (∀ i x, i ≠ b → i ≠ fd → t[i]? = some x → t'[i]? = some x) →
      Q (.nx, [some (.loc b), some (.int many), some (.int m8), some (.int wide), some (.tup (zs.map .str)), some K, some (.loc fp), some (.loc fd), c8, c9, none, c11, c12, c13, c14, none]) t') :
    Wp (loopM [] (trn prog (runs prog (n + 4)) (.name 13) (forB (ssN d__law_book.body 2))) (rngL 0 (q : Int)) [some (.loc b), some (.int many), some (.int m8), some (.int wide), some (.tup (zs.map .str)), some K, some (.loc fp), some (.loc fd), c8, c9, none, c11, c12, none, none, none]) Q t := by
  unfold rngL
  rw [Int.sub_zero, Int.toNat_natCast]
  refine wp_loop (e := fun k : Nat => .int (0 + (k : Int))) (fun r ρ t' => ∃ (ds : List Mov) (c13 c14 : Option PV), ρ = [some (.loc b), some (.int many), some (.int m8), some (.int wide), some (.tup (zs.map .str)), some K, some (.loc fp), some (.loc fd), c8, c9, none, c11, c12, c13, c14, none] ∧ (∀ m ∈ ds, MovOk zs m) ∧ (ds.map mk).Nodup ∧ ds.length + r.length ≤ q ∧ t'[fd]? = some (.dct (dP mk mv ds)) ∧ Bowl t' b ∧ t.length ≤ t'.length ∧ (∀ i x, i ≠ b → i ≠ fd → t[i]? = some x → t'[i]? = some x)) (List.range q) _ t
    ⟨[], none, none, rfl, fun m h => (by cases h), List.nodup_nil, by simp, hd, hb, Nat.le_refl _, fun i x _ _ h => h⟩ (fun i r ρ t1 hp ⟨ds, c13, c14, hρ, ho, hnd, hl, ht, hb1, hlen, hold⟩ => ?_) (fun ρ t1 ⟨ds, c13, c14, hρ, ho, hnd, hl, ht, hb1, hlen, hold⟩ => ?_)
  · subst hρ
    have hz2 : 2 ≤ zs.length := by
      rcases hm with h | h
      · subst h
        simp only [List.length_cons] at hl
        omega
      · exact h
    simp only [d__law_book, ssN, forB]
    simp? []
    refine wp_use (w_of (n + 2) (.inl rfl) hb1 (by rw [List.length_map]; omega) (by rw [List.length_map]; omega)) fun u t2 ⟨hu, e2, el2⟩ => ?_
    obtain ⟨one, hone, hu⟩ := List.mem_map.mp hu
    subst hu
    try simp? []
    refine wp_use (w_draw (n + 3) e2.bw w0 (by omega)) fun u t3 ⟨⟨r1, hu, r10, r11⟩, e3, el3⟩ => ?_
    subst hu
    try simp? []
    refine wp_mapP (e := PV.str) (fun z => if z = one then none else some (.str z)) (l := zs) (fun z _ => ?_) ?_
    · simp? []
      by_cases h : z = one
      · simp [h]
      · simp [h]
    · have ef : (zs.filterMap fun z => if z = one then none else some (PV.str z)) = (zs.filter fun z => !decide (z = one)).map .str := by
        induction zs with
        | nil => rfl
        | cons a l ih =>
          clear ih
          induction (a :: l) with
          | nil => rfl
          | cons a l ih =>
            rw [List.filterMap_cons, List.filter_cons, ih]
            by_cases h : a = one
            · simp [h]
            · simp [h]
      have hne : 0 < (zs.filter fun z => !decide (z = one)).length := by
        match zs, hz2, hz with
        | a :: c :: l, _, hz =>
          have hac : a ≠ c := fun e => by
            rw [List.nodup_cons] at hz
            exact hz.1 (by rw [e]; simp)
          by_cases h : a = one
          · have : c ≠ one := fun e => hac (h.trans e.symm)
            have hm : c ∈ (a :: c :: l).filter fun z => !decide (z = one) := List.mem_filter.mpr ⟨by simp, by simpa using this⟩
            exact List.length_pos_of_mem hm
          · have hm : a ∈ (a :: c :: l).filter fun z => !decide (z = one) := List.mem_filter.mpr ⟨by simp, by simpa using h⟩
            exact List.length_pos_of_mem hm
      have hle : (zs.filter fun z => !decide (z = one)).length ≤ 8 := Nat.le_trans (List.length_filter_le _ _) hzl
      rw [ef, newL_f (by rw [List.length_map]; exact sz_of (by omega))]
      try simp? []
      refine wp_use (w_of (n + 2) (.inr rfl) e3.bw (by rw [List.length_map]; exact hne) (by rw [List.length_map]; omega)) fun u t4 ⟨hu, e4, el4⟩ => ?_
      obtain ⟨other, hoth, hu⟩ := List.mem_map.mp hu
      obtain ⟨ho1, ho2⟩ := List.mem_filter.mp hoth
      have ho2 : other ≠ one := by simpa using ho2
      subst hu
      have e14 := (e2.trans e3).trans e4
      have ht4 := e14.old _ _ hfd ht
      have hlt4 := (List.getElem?_eq_some_iff.mp ht4).1
      have hdl : (dP mk mv ds).length < SZ := by
        show (ds.map _).length < 16777216
        rw [List.length_map]
        simp only [List.length_cons] at hl
        omega
      have hk1 : kOk prog.cts (dP mk mv ds) (.tup [.str one, .str other]) = true := dP_ok (p := (one, other)) (cts_not _)
      have hk2 : kput (dP mk mv ds) (.tup [.str one, .str other]) (.int r1) = dP mk mv (putM ds ⟨one, other, r1⟩) := putM_kput ds ⟨one, other, r1⟩
      try simp? [w_setD ht4 hk1 hdl, hk2]
      refine ⟨putM ds ⟨one, other, r1⟩, _, _, rfl, fun m hm => ?_, putM_keys _ _ hnd, ?_, List.getElem?_set_self hlt4, ?_, ?_, fun i x hi hi2 h => ?_⟩
      · rcases putM_mem hm with hm | rfl
        · exact ho m hm
        · exact ⟨hone, ho1, fun e => ho2 e.symm, r10, by show r1 ≤ 9999; omega⟩
      · have := putM_len ds ⟨one, other, r1⟩
        simp only [List.length_cons] at hl
        omega
      · obtain ⟨a, x, y, h⟩ := e14.bw
        exact ⟨a, x, y, by rw [List.getElem?_set_ne hfd]; exact h⟩
      · rw [List.length_set]
        exact Nat.le_trans hlen e14.len
      · rw [List.getElem?_set_ne (Ne.symm hi2)]
        exact e14.old i x hi (hold i x hi hi2 h)
  · subst hρ
    exact hk ds c13 c14 t1 ho hnd (by simp at hl; omega) ht hb1 hlen hold
end Mp.K02
set_option maxHeartbeats 8000000
namespace Mp.K02
open Mp PySem
def ssR : Ss → Nat → Ss
  | r, 0 => r
  | .nil, _ => .nil
  | .cons _ r, n + 1 => ssR r n
def mvO (ds : List Mov) (p : Str × Str) : Mov := (ds.find? fun a => decide (mk a = p)).getD ⟨p.1, p.2, 0⟩
theorem w_book (n : Nat) {s : Sto} {b many moves : Nat} {wide : Int} (hb : Bowl s b) (h1 : 1 ≤ many) (h2 : many ≤ 8) (w0 : 0 < wide) (w1 : wide ≤ 10000) (hmv : moves ≤ 8) : Wp ((runs prog (n + 5)).def_ 3 [.loc b, .int many, .int moves, .int wide]) (fun v s' => ∃ (bk : Bk) (kinds : List Str), v = .tup [bkPV bk, .tup (kinds.map .str)] ∧ BkOk bk ∧ kinds.length = 3 ∧ (∀ z ∈ kinds, Nm z) ∧ Asc kinds ∧ (∀ p ∈ bk.1, p.last ≤ 919) ∧ Ext b s s') s := by
  (refine o_def d__law_book rfl rfl ?_; simp only [d__law_book, List.map_cons, List.map_nil, List.cons_append, List.nil_append, List.append_nil, List.replicate_succ, List.replicate_zero, Nat.reduceSub])
  have hz0 : ([] : List PV).length ≤ SZ := Nat.zero_le _
  simp? []
  refine wp_use (w_names n hb h1 h2) fun u s1 ⟨zs, hu, zl, zn, za, e1⟩ => ?_
  subst hu
  simp? []
  refine wp_use (w_names (m := 3) n e1.bw (by omega) (by omega)) fun u s2 ⟨ks, hu, kl, kn, ka, e2⟩ => ?_
  subst hu
  simp? [newL_t hz0, w_newD0]
  have ed : (s2 ++ [MO.lst []]).length = s2.length + 1 := by simp
  rw [ed]
  have hbl := hb.lt
  have l1 := e1.len
  have l2 := e2.len
  have e12 : ExtN b s.length s s2 := e1.n.trans e2.n
  refine wp_loop (e := PV.str) (fun r ρ t => ∃ (ps : List Pot) (c8 c9 c11 c12 : Option PV), ρ = [some (.loc b), some (.int many), some (.int moves), some (.int wide), some (.tup (zs.map .str)), some (.tup (ks.map .str)), some (.loc s2.length), some (.loc (s2.length + 1)), c8, c9, none, c11, c12, none, none, none] ∧ ps.map Pot.nm ++ r = zs ∧ (∀ p ∈ ps, PotOk p ∧ p.last ≤ 919) ∧ t[s2.length]? = some (.lst (ps.map Pot.pv)) ∧ t[s2.length + 1]? = some (.dct []) ∧ ExtN b s.length s t) zs _ _
    ⟨[], none, none, none, none, rfl, rfl, fun z h => (by cases h), by simp, by simp, (e12.trans (ExtN.push e2.bw)).trans (ExtN.push (ExtN.push (N := 0) e2.bw).bw)⟩ (fun nm r ρ t hp ⟨ps, c8, c9, c11, c12, hρ, hz, ho, hf, hd, he⟩ => ?_) (fun ρ t ⟨ps, c8, c9, c11, c12, hρ, hz, ho, hf, hd, he⟩ => ?_)
  · subst hρ
    have hnm : Nm nm := zn nm (by rw [← hz]; simp)
    have hpl : ps.length ≤ 7 := by
      have := congrArg List.length hz
      simp only [List.length_append, List.length_map, List.length_cons] at this
      omega
    simp? []
    refine wp_map (e := PV.str) (fun r acc t' => ∃ sel pre : List Str, ks = pre ++ r ∧ sel.Sublist pre ∧ acc = sel.map .str ∧ Ext b t t') ks [] t ⟨[], [], rfl, List.Sublist.refl _, rfl, Ext.refl he.bw⟩ (fun z r acc t' hp ⟨sel, pre, hks, hs, ha, e⟩ => ?_) (fun acc t1 ⟨sel, pre, hks, hs, ha, e3⟩ => ?_)
    · simp? []
      refine wp_use (w_draw (n + 3) e.bw (by decide) (by decide)) fun u t2 ⟨⟨q, hu, q1, q2⟩, e4, el4⟩ => ?_
      subst hu
      try simp? []
      by_cases q0 : q = 0
      · rw [if_pos q0]
        refine ⟨sel ++ [z], pre ++ [z], by rw [hks]; simp, hs.append (List.Sublist.refl _), by rw [ha]; simp [addO], e.trans e4⟩
      · rw [if_neg q0]
        refine ⟨sel, pre ++ [z], by rw [hks]; simp, hs.trans (List.sublist_append_left _ _), by rw [ha]; rfl, e.trans e4⟩
    · rw [List.append_nil] at hks
      subst hks ha
      have hsl : sel.length ≤ 3 := by rw [← kl]; exact hs.length_le
      simp? [newL_f (xs := sel.map PV.str) (by rw [List.length_map]; exact sz_of (by omega))]
      refine wp_use (w_draw (n + 3) e3.bw (by decide) (by decide)) fun u t2 ⟨⟨r1, hu, r10, r11⟩, e4, el4⟩ => ?_
      subst hu
      try simp? []
      refine wp_use (w_of (n + 2) (.inl rfl) e4.bw (by simp) (by simp)) fun u t3 ⟨hu, e5, el5⟩ => ?_
      have hF : ∃ first : Int, u = .int first ∧ 0 ≤ first ∧ first ≤ 19 := by
        simp only [List.mem_cons, List.not_mem_nil, or_false] at hu
        rcases hu with rfl | rfl | rfl
        · exact ⟨0, rfl, by omega, by omega⟩
        · exact ⟨0, rfl, by omega, by omega⟩
        · exact ⟨r1, rfl, by omega, by omega⟩
      obtain ⟨first, hu, f0, f1⟩ := hF
      subst hu
      try simp? []
      refine wp_use (w_draw (n + 3) e5.bw (by decide) (by decide)) fun u t4 ⟨⟨r2, hu, r20, r21⟩, e6, el6⟩ => ?_
      subst hu
      try simp? []
      refine wp_use (w_of (n + 2) (.inl rfl) e6.bw (by simp) (by simp)) fun u t5 ⟨hu, e7, el7⟩ => ?_
      have hD : ∃ d : Int, u = .int d ∧ 0 ≤ d ∧ d ≤ 900 := by
        simp only [List.mem_cons, List.not_mem_nil, or_false] at hu
        rcases hu with rfl | rfl | rfl
        · exact ⟨r2, rfl, by omega, by omega⟩
        · exact ⟨30, rfl, by omega, by omega⟩
        · exact ⟨900, rfl, by omega, by omega⟩
      obtain ⟨d, hu, d0, d1⟩ := hD
      subst hu
      have e35 : Ext b t t5 := (((e3.trans e4).trans e5).trans e6).trans e7
      have hf5 := e35.old _ _ (by omega) hf
      have hd5 := e35.old _ _ (by omega) hd
      try simp? [w_bmTA hf5]
      refine wp_use (w_draw (n + 3) e35.bw w0 (by omega)) fun u t6 ⟨⟨r3, hu, r30, r31⟩, e8, el8⟩ => ?_
      subst hu
      have hks : ∃ sk : List Str, sk.Sublist ks ∧ 1 ≤ sk.length ∧ (sel = [] → cut (ks.map PV.str) none (some 1) = sk.map PV.str) ∧ (sel ≠ [] → sel = sk) := by
        cases sel with
        | nil =>
          refine ⟨ks.take 1, List.take_sublist 1 ks, by rw [List.length_take]; omega, fun _ => ?_, fun h => absurd rfl h⟩
          rw [cut1, ← List.map_take]
        | cons y sel => exact ⟨y :: sel, hs, by simp, fun h => (by cases h), fun _ => rfl⟩
      obtain ⟨sk, sk1, sk2, sk3, sk4⟩ := hks
      have e36 := e35.trans e8
      try simp? [neT0 (toDs_strs sel)]
      by_cases h0 : sel = []
      all_goals
        first | rw [if_neg (by simp [h0]), sk3 h0] | rw [if_pos (by simp [h0]), sk4 h0]
        refine wp_use (w_draw (n + 3) e36.bw (by decide) (by decide)) fun u t7 ⟨⟨r4, hu, r40, r41⟩, e9, el9⟩ => ?_
        subst hu
        try simp? []
        refine wp_use (w_of (n + 2) (.inl rfl) e9.bw (by simp) (by simp)) fun u t8 ⟨hu, e10, el10⟩ => ?_
        have hP : ∃ q : Int, u = .int q ∧ 1 ≤ q ∧ q ≤ 12 := by
          simp only [List.mem_cons, List.not_mem_nil, or_false] at hu
          rcases hu with rfl | rfl | rfl | rfl | rfl
          · exact ⟨12, rfl, by omega, by omega⟩
          · exact ⟨12, rfl, by omega, by omega⟩
          · exact ⟨12, rfl, by omega, by omega⟩
          · exact ⟨6, rfl, by omega, by omega⟩
          · exact ⟨1 + r4, rfl, by omega, by omega⟩
        obtain ⟨q, rfl, p0, p1⟩ := hP
        have e40 := (e36.trans e9).trans e10
        have hf8 := e40.old _ _ (by omega) hf
        have hd8 := e40.old _ _ (by omega) hd
        have hlt8 := (List.getElem?_eq_some_iff.mp hf8).1
        try simp? []
        rw [w_append hf8 (by rw [List.length_map]; show _ < 16777216; omega)]
        try simp? []
        refine ⟨ps ++ [⟨nm, r3, sk, first, first + d, q⟩], _, _, _, _, rfl, ?_, fun p hp => ?_, ?_, ?_, (he.trans e40.n).trans (ExtN.set e10.bw (by omega) (by omega))⟩
        · rw [List.map_append, List.append_assoc, ← hz]
          rfl
        · rcases List.mem_append.mp hp with hp | hp
          · exact ho p hp
          · rw [List.mem_singleton.mp hp]
            refine ⟨?_, by show first + d ≤ 919; omega⟩
            exact potOk_of hnm kn ka (by omega) sk1 sk2 r30 (by omega) f0 (by omega) (by omega) (by omega) p0 p1
        · rw [List.getElem?_set_self hlt8, List.map_append]
          rfl
        · rw [List.getElem?_set_ne (by omega)]
          exact hd8
  · subst hρ
    rw [List.append_nil] at hz
    subst hz
    have hnd : (ps.map Pot.nm).Nodup := by
      unfold List.Nodup
      exact za.imp fun h e => by
        rw [e] at h
        exact sLt_irrefl _ h
    have hll : (ps.map Pot.nm).length ≤ 8 := by omega
    have hend : ∀ (ds : List Mov) (c13 c14 : Option PV) (t' : Sto), (∀ m ∈ ds, MovOk (ps.map Pot.nm) m) → (ds.map mk).Nodup → ds.length ≤ 8 → t'[s2.length + 1]? = some (.dct (dP mk mv ds)) → Bowl t' b → t.length ≤ t'.length → (∀ i x, i ≠ b → i ≠ s2.length + 1 → t[i]? = some x → t'[i]? = some x) →
        Wp (exs prog (runs prog (n + 4)) (ssR d__law_book.body 3) [some (.loc b), some (.int many), some (.int moves), some (.int wide), some (.tup ((ps.map Pot.nm).map .str)), some (.tup (ks.map .str)), some (.loc s2.length), some (.loc (s2.length + 1)), c8, c9, none, c11, c12, c13, c14, none]) (fun q s' => Wp (bEnd q) (fun v s' => ∃ (bk : Bk) (kinds : List Str), v = .tup [bkPV bk, .tup (kinds.map .str)] ∧ BkOk bk ∧ kinds.length = 3 ∧ (∀ z ∈ kinds, Nm z) ∧ Asc kinds ∧ (∀ p ∈ bk.1, p.last ≤ 919) ∧ Ext b s s') s') t' := by
      intro ds c13 c14 t' hmo hdn hdl htd hbt htl hto
      have hft : t'[s2.length]? = some (.lst (ps.map Pot.pv)) := hto _ _ (by omega) (by omega) hf
      simp only [d__law_book, ssR]
      try simp? []
      rw [w_tupleL hft]
      have hdl2 : (dP mk mv ds).length ≤ SZ := by
        show (ds.map _).length ≤ 16777216
        rw [List.length_map]
        omega
      try simp? []
      rw [w_listD htd hdl2]
      have ekd : ((dP mk mv ds).map fun p : PV × PV => p.1) = (ds.map mk).map kP := by
        unfold dP
        simp [List.map_map, Function.comp_def]
      rw [ekd]
      try simp? []
      rw [w_sorted (f := kP) (g := fun p => PyData.tuple [.str p.1, .str p.2]) (R := pLt) (x := .lst ((ds.map mk).map kP)) rfl (by rw [List.length_map]; exact sz_of (by omega)) (fun _ => rfl) (sortable_prs _) (fun a b => dataLt_ss.symm)]
      try simp? []
      have hfind : ∀ p ∈ (ds.map mk).mergeSort (leOf pLt), ∃ m, m ∈ ds ∧ mk m = p ∧ (ds.find? fun a => decide (mk a = p)) = some m := by
        intro p hp
        have hp := (List.mergeSort_perm _ _).mem_iff.mp hp
        obtain ⟨m0, hm0, hmk⟩ := List.mem_map.mp hp
        cases q : ds.find? fun a => decide (mk a = p) with
        | none =>
          have := List.find?_eq_none.mp q m0 hm0
          simp [hmk] at this
        | some m => exact ⟨m, List.mem_of_find?_eq_some q, by simpa using List.find?_some q, rfl⟩
      refine wp_mapP (e := kP) (fun p => some (mvO ds p).pv) (l := (ds.map mk).mergeSort (leOf pLt)) (fun p hp => ?_) ?_
      · obtain ⟨m, hm, hmk, hf0⟩ := hfind p hp
        have ic : isClo (kP p) = false := rfl
        simp? [ic]
        rw [w_dgetD htd (v := mv m) (dP_ok (cts_not p)) (by rw [dP_find, hf0]; rfl)]
        unfold kP
        simp? []
        refine ⟨?_, trivial⟩
        unfold mvO
        rw [hf0, ← hmk]
        rfl
      · have hsl : ((ds.map mk).mergeSort (leOf pLt)).length ≤ 8 := by
          rw [List.length_mergeSort, List.length_map]
          exact hdl
        have ep : ((ds.map mk).mergeSort (leOf pLt)).filterMap (fun p => some (mvO ds p).pv) = (((ds.map mk).mergeSort (leOf pLt)).map (mvO ds)).map Mov.pv := by
          simp [List.filterMap_eq_map, Function.comp_def]
        rw [ep, newL_f (by simp only [List.length_map]; exact sz_of (by omega))]
        try simp? []
        refine ⟨(ps, ((ds.map mk).mergeSort (leOf pLt)).map (mvO ds)), ks, rfl, ⟨by show 1 ≤ ps.length; rw [← List.length_map (f := Pot.nm), zl]; exact h1, by show ps.length ≤ 8; rw [← List.length_map (f := Pot.nm)]; exact hll, by show (List.map _ _).length ≤ 8; rw [List.length_map]; exact hsl, fun p hp => (ho p hp).1, ?_, fun m hm => ?_, ?_⟩, kl, kn, ka, fun p hp => (ho p hp).2, ?_⟩
        · have := za
          unfold Asc at this
          rw [List.pairwise_map] at this
          exact this
        · obtain ⟨p, hp, rfl⟩ := List.mem_map.mp hm
          obtain ⟨m, hm, hmk, hf0⟩ := hfind p hp
          unfold mvO
          rw [hf0]
          exact hmo m hm
        · show List.Pairwise _ (List.map _ _)
          rw [List.pairwise_map]
          have hs := sort_up (R := pLt) pLt_irrefl pLt_trans pLt_tri hdn
          refine List.Pairwise.imp_of_mem (fun {p q} hp hq h => ?_) hs
          obtain ⟨m, hm, hmk, hf0⟩ := hfind p hp
          obtain ⟨m2, hm2, hmk2, hf2⟩ := hfind q hq
          unfold mvO
          rw [hf0, hf2]
          show pLt (mk m) (mk m2)
          rw [hmk, hmk2]
          exact h
        · refine ⟨hbt, by have := he.len; omega, fun i x hi h => ?_⟩
          have hlt := (List.getElem?_eq_some_iff.mp h).1
          exact hto i x hi (by omega) (he.old i x hi hlt h)
    simp? []
    by_cases hm1 : 1 < (many : Int)
    · rw [if_pos hm1]
      refine wp_use (w_draw (n + 3) he.bw (by omega) (by omega)) fun u t7 ⟨⟨r4, hu, r40, r41⟩, e9, el9⟩ => ?_
      subst hu
      have h6 : in62 r4 = true := in62_of r40 (by omega)
      try simp? [h6]
      rw [← Int.toNat_of_nonneg r40]
      refine w_moves n e9.bw (show s2.length + 1 ≠ b by omega) (e9.old _ _ (by omega) hd) hnd (by omega) (.inr (by omega)) hll w0 w1 fun ds c13 c14 t' g1 g2 g3 g4 g5 g6 g7 => ?_
      exact hend ds c13 c14 t' g1 g2 g3 g4 g5 (Nat.le_trans e9.len g6) fun i x hi hi2 h => g7 i x hi hi2 (e9.old i x hi h)
    · rw [if_neg hm1]
      have h6 : in62 0 = true := rfl
      try simp? [h6]
      exact w_moves n (q := 0) he.bw (show s2.length + 1 ≠ b by omega) hd hnd (by omega) (.inl rfl) hll w0 w1 hend
end Mp.K02
set_option maxHeartbeats 8000000
namespace Mp.K02
open Mp PySem
theorem w_bookI (n : Nat) {s : Sto} {b : Nat} {many moves wide : Int} (hb : Bowl s b) (h1 : 1 ≤ many) (h2 : many ≤ 8) (w0 : 0 < wide) (w1 : wide ≤ 10000) (m0 : 0 ≤ moves) (m1 : moves ≤ 8) : Wp ((runs prog (n + 5)).def_ 3 [.loc b, .int many, .int moves, .int wide]) (fun v s' => ∃ (bk : Bk) (kinds : List Str), v = .tup [bkPV bk, .tup (kinds.map .str)] ∧ BkOk bk ∧ kinds.length = 3 ∧ (∀ z ∈ kinds, Nm z) ∧ Asc kinds ∧ (∀ p ∈ bk.1, p.last ≤ 919) ∧ Ext b s s') s := by
  have e1 : many = ((many.toNat : Nat) : Int) := by omega
  have e2 : moves = ((moves.toNat : Nat) : Int) := by omega
  rw [e1, e2]
  exact w_book n hb (by omega) (by omega) w0 w1 (by omega)
theorem w_bowl (n : Nat) {s : Sto} (ns : List Int) (lap : Int) (h0 : 0 ≤ lap) (h1 : lap ≤ 2) : Wp ((runs prog (n + 1)).def_ 2 [.scr ns, .int lap]) (fun v s' => v = .loc s.length ∧ ∃ o, s' = s ++ [o] ∧ Bowl s' s.length) s := by
  (refine o_def d__law_bowl rfl rfl ?_; simp only [d__law_bowl, List.map_cons, List.map_nil, List.cons_append, List.nil_append, List.append_nil, List.replicate_succ, List.replicate_zero, Nat.reduceSub])
  have g1 : in64 8819 = true := rfl
  have g2 : in64 48611 = true := rfl
  have g3 : in64 19 = true := rfl
  have g4 : in64 53 = true := rfl
  have g5 : in64 27011 = true := rfl
  have g6 : (decide (0 ≤ (16 : Int)) && decide ((16 : Int) ≤ 1000000) && in64 10) = true := rfl
  have n1 : (decide ((2147483053 : Int) ≠ 0)) = true := rfl
  have n2 : (decide ((2147483563 : Int) ≠ 0)) = true := rfl
  have hc : cut (ns.map PV.int) none (some 9) = (ns.take 9).map .int := by
    rw [show (some (9 : Int)) = some ((9 : Nat) : Int) from rfl, cut_take, List.map_take]
  have hl : ((ns.take 9).map PV.int).length ≤ SZ := by
    rw [List.length_map]
    exact sz_of (by have := List.length_take_le 9 ns; omega)
  simp? [g1, hc, newL_f hl]
  refine wp_loop (e := PV.int) (fun r ρ t => t = s ∧ ∃ (v : Int) (c3 : Option PV), ρ = [some (.scr ns), some (.int lap), some (.int v), c3, none]) (ns.take 9) _ s ⟨rfl, _, _, rfl⟩ (fun x r ρ t hp ⟨ht, v, c3, hρ⟩ => ?_) (fun ρ t ⟨ht, v, c3, hρ⟩ => ?_)
  · subst ht hρ
    simp? [g2, g3, n1, n2]
    exact ⟨rfl, _, _, rfl⟩
  · subst ht hρ
    have tl : ∀ {x y z : PV}, ([x, y, z] : List PV).length ≤ SZ := by intros; exact sz_of (by simp)
    have e : (∃ w : Int, lap < (ns.length : Int) ∧ L2.atI (ns.map PV.int) lap = some (.int w)) ∨ ¬ lap < (ns.length : Int) := by
      by_cases hlt : lap < (ns.length : Int)
      · obtain ⟨w, hw⟩ : ∃ w, ns[lap.toNat]? = some w := ⟨_, List.getElem?_eq_getElem (by omega)⟩
        refine .inl ⟨w, hlt, ?_⟩
        have e0 : lap = ((lap.toNat : Nat) : Int) := by omega
        rw [e0, atI_nat, List.getElem?_map, hw]
        rfl
      · exact .inr hlt
    rcases e with ⟨w, hlt, hx⟩ | hlt
    all_goals
      first | simp? [List.length_map, hlt, ix_scr, hx, n1, n2, g4, g5, g6] | simp? [List.length_map, hlt, ix_scr, n1, n2, g4, g5, g6]
      repeat' split
      all_goals
        rw [newL_t tl]
        simp? []
        refine ⟨?_, _, rfl, _, _, _, at_end⟩
        first | rfl | trivial
theorem w_law (n : Nat) (ns : List Int) (hr : ∀ s b, Bowl s b → Wp ((runs prog (n + 1)).def_ 1 [.loc b]) (fun v s' => v = .bl true ∧ Ext b s s') s) : Wp ((runs prog (n + 2)).def_ 0 [.scr ns]) (fun v _ => v = .bl true) [] := by
  (refine o_def d_law rfl rfl ?_; simp only [d_law, List.map_cons, List.map_nil, List.cons_append, List.nil_append, List.append_nil, List.replicate_succ, List.replicate_zero, Nat.reduceSub])
  obtain ⟨k, hk1, hk2, hk⟩ : ∃ k : Nat, 1 ≤ k ∧ k ≤ 3 ∧ (if (if (3 : Int) < ((ns.map PV.int).length : Int) then (3 : Int) else ((ns.map PV.int).length : Int)) > 1 then (if (3 : Int) < ((ns.map PV.int).length : Int) then (3 : Int) else ((ns.map PV.int).length : Int)) else 1) = (k : Int) := by
    refine ⟨(if (if (3 : Int) < ((ns.map PV.int).length : Int) then (3 : Int) else ((ns.map PV.int).length : Int)) > 1 then (if (3 : Int) < ((ns.map PV.int).length : Int) then (3 : Int) else ((ns.map PV.int).length : Int)) else 1).toNat, ?_, ?_, ?_⟩ <;> split <;> split at * <;> omega
  simp? [hk, in62_of (i := (k : Int)) (by omega) (by omega), rngL]
  rw [Int.sub_zero, Int.toNat_natCast]
  refine wp_map (e := fun k : Nat => .int (0 + (k : Int))) (fun r acc _ => ∃ j, j ≤ 3 ∧ j + r.length = k ∧ acc = List.replicate j (.bl true)) (List.range k) [] [] ⟨0, by omega, by simp, rfl⟩ (fun i r acc s ⟨p, hp⟩ ⟨j, j3, hj, ha⟩ => ?_) (fun acc s ⟨j, j3, hj, ha⟩ => ?_)
  · subst ha
    have hi : i < k := by
      have : i ∈ List.range k := by rw [hp]; simp
      exact List.mem_range.mp this
    simp? []
    refine wp_use (w_bowl n ns (0 + (i : Int)) (by omega) (by omega)) fun v s' ⟨hv, o, hs, hb⟩ => ?_
    subst hv
    try simp? []
    refine wp_use (hr s' s.length hb) fun v s2 ⟨hv, _⟩ => ?_
    subst hv
    simp only [List.length_cons] at hj
    try simp? []
    refine ⟨j + 1, by omega, by omega, ?_⟩
    show List.replicate j (PV.bl true) ++ [PV.bl true] = _
    rw [List.replicate_succ']
  · subst ha
    rw [newL_f (by rw [List.length_replicate]; exact sz_of (by omega))]
    simp? [all_trues]
end Mp.K02
set_option maxHeartbeats 8000000
namespace Mp.K02
open Mp PySem
def RB : Ss := forB (ssN d__law_right.body 0)
def PB : Ss := forB (ssN RB 4)
def KB : Ss := forB (ssN PB 0)
def DB : Ss := forB (ssN KB 0)
theorem sd_bl2 (a b : Bool) : SD 1 (.tup [.bl a, .bl b]) := .tup (fun x hx => by
  simp only [List.mem_cons, List.not_mem_nil, or_false] at hx
  rcases hx with rfl | rfl <;> exact .bl _) (sz_of (by simp))
theorem r_day (n : Nat) {t : Sto} {b l : Nat} {bk : Bk} {p : Pot} {z : Str} {d : Int} {c1 c2 c3 c6 c7 c9 c10 c11 c12 : Option PV} {Q : Fl × Mp.Env → Sto → Prop} (h : At t l bk) (ho : BkOk bk) (hp : p ∈ bk.1) (hz : Nm z) (d0 : 0 ≤ d) (d1 : d ≤ 999)
    (hk : ∀ c10, Q (.nx, [some (.loc b), c1, c2, c3, some p.pv, some (.loc l), c6, c7, some (.str z), some (.int d), c10, c11, c12]) t) :
    Wp (trn prog (runs prog (n + 6)) (.name 9) DB (.int d) [some (.loc b), c1, c2, c3, some p.pv, some (.loc l), c6, c7, some (.str z), c9, c10, c11, c12]) Q t := by
  have e := c_may_pay (n + 1) h ho hp z hz.ok d d0 d1
  have ic : isClo p.pv = false := rfl
  have es := same_ok 1 _ (sd_bl2 (decide (z ∈ p.kinds) && (decide (p.first ≤ d) && decide (d ≤ p.last))) (decide (z ∈ p.kinds) && (decide (p.first ≤ d) && decide (d ≤ p.last)))) (n + 4)
  unfold Pot.pv at *
  simp only [DB, KB, PB, RB, d__law_right, ssN, forB]
  simp? [ic, at0, at2, at3, at4, w_ok e, argsBy]
  by_cases h1 : z ∈ p.kinds <;> by_cases h2 : p.first ≤ d <;> simp only [h1, h2, if_true, if_false, decide_true, decide_false, Bool.true_and, Bool.false_and] at es ⊢ <;> simp? [w_pu es] <;> exact hk _
theorem r_kind (n : Nat) {t : Sto} {b l : Nat} {bk : Bk} {p : Pot} {z : Str} {c1 c2 c3 c6 c7 c8 c9 c10 c11 c12 : Option PV} {Q : Fl × Mp.Env → Sto → Prop} (hb : Bowl t b) (hl : l ≠ b) (h : At t l bk) (ho : BkOk bk) (hp : p ∈ bk.1) (hz : Nm z) (h9 : p.last ≤ 919)
    (hk : ∀ c9 c10 t', Ext b t t' → Q (.nx, [some (.loc b), c1, c2, c3, some p.pv, some (.loc l), c6, c7, some (.str z), c9, c10, c11, c12]) t') :
    Wp (trn prog (runs prog (n + 6)) (.name 8) KB (.str z) [some (.loc b), c1, c2, c3, some p.pv, some (.loc l), c6, c7, c8, c9, c10, c11, c12]) Q t := by
  have ic : isClo p.pv = false := rfl
  have hpo := ho.po p hp
  have q1 := hpo.f0
  have q2 := hpo.f1
  have q3 := hpo.l0
  unfold KB
  rw [show PB = .cons (ssN PB 0) .nil from rfl]
  simp only [KB, PB, RB, d__law_right, ssN, forB]
  unfold Pot.pv at *
  simp? [ic, at3, at4]
  refine wp_use (w_draw (n + 5) hb (by decide) (by decide)) fun u t1 ⟨⟨r1, hu, r10, r11⟩, e1, el1⟩ => ?_
  subst hu
  try simp? []
  have el : ∀ m : Int, [PV.int 0, .int p.first, .int p.last, .int (p.last + 1), .int m, .int r1, .int 999] = [0, p.first, p.last, p.last + 1, m, r1, 999].map PV.int := fun _ => rfl
  rw [el]
  refine wp_loop (e := PV.int) (fun r ρ t' => t' = t1 ∧ ∃ c9 c10, ρ = [some (.loc b), c1, c2, c3, some p.pv, some (.loc l), c6, c7, some (.str z), c9, c10, c11, c12]) _ _ _ ⟨rfl, _, _, rfl⟩ (fun d r ρ t' ⟨pre, hpre⟩ ⟨ht, c9, c10, hρ⟩ => ?_) (fun ρ t' ⟨ht, c9, c10, hρ⟩ => ?_)
  · subst ht hρ
    have hd : 0 ≤ d ∧ d ≤ 999 := by
      have hm : d ∈ [0, p.first, p.last, p.last + 1, if p.first - 1 > 0 then p.first - 1 else 0, r1, 999] := by rw [hpre]; simp
      simp only [List.mem_cons, List.not_mem_nil, or_false] at hm
      split at hm <;> omega
    have := r_day n (bk := bk) (p := p) (z := z) (d := d) (c1 := c1) (c2 := c2) (c3 := c3) (c6 := c6) (c7 := c7) (c9 := c9) (c10 := c10) (c11 := c11) (c12 := c12) (b := b) (e1.old _ _ hl h) ho hp hz hd.1 hd.2 (Q := afterT (fun ρ t'' => t'' = t' ∧ ∃ c9 c10, ρ = [some (.loc b), c1, c2, c3, some p.pv, some (.loc l), c6, c7, some (.str z), c9, c10, c11, c12]) (fun q s' => Wp (sq prog (runs prog (n + 6)) .nil q) Q s')) (fun c10 => ⟨rfl, _, _, rfl⟩)
    exact this
  · subst ht hρ
    simp? []
    exact hk _ _ _ e1
theorem r_pots (n : Nat) {t : Sto} {b l : Nat} {bk : Bk} {kinds : List Str} {fr : Str} {c1 c2 c4 c7 c8 c9 c10 c11 c12 : Option PV} {Q : Fl × Mp.Env → Sto → Prop} (hb : Bowl t b) (hl : l ≠ b) (h : At t l bk) (ho : BkOk bk) (hz : ∀ z ∈ kinds ++ [fr], Nm z) (hkl : kinds.length = 3) (h9 : ∀ p ∈ bk.1, p.last ≤ 919)
    (hk : ∀ c4 c8 c9 c10 t', Ext b t t' → Q (.nx, [some (.loc b), c1, c2, some (.tup (kinds.map .str)), c4, some (.loc l), some (.str fr), c7, c8, c9, c10, c11, c12]) t') :
    Wp (loopM [] (trn prog (runs prog (n + 6)) (.name 4) PB) (bk.1.map Pot.pv) [some (.loc b), c1, c2, some (.tup (kinds.map .str)), c4, some (.loc l), some (.str fr), c7, c8, c9, c10, c11, c12]) Q t := by
  refine wp_loop (e := Pot.pv) (fun r ρ t' => Ext b t t' ∧ ∃ c4 c8 c9 c10, ρ = [some (.loc b), c1, c2, some (.tup (kinds.map .str)), c4, some (.loc l), some (.str fr), c7, c8, c9, c10, c11, c12]) _ _ _ ⟨Ext.refl hb, _, _, _, _, rfl⟩ (fun p r ρ t1 ⟨pre, hpre⟩ ⟨e1, c4, c8, c9, c10, hρ⟩ => ?_) (fun ρ t1 ⟨e1, c4, c8, c9, c10, hρ⟩ => ?_)
  · subst hρ
    have hp : p ∈ bk.1 := by rw [hpre]; simp
    have hsz : (kinds.map PV.str ++ [PV.str fr]).length ≤ SZ := by
      rw [List.length_append, List.length_map]
      exact sz_of (by simp; omega)
    rw [show PB = .cons (.for_ (.name 8) (.of (.bin .add false (.var 3) (.tup (.cons (.var 6) .nil)))) KB) .nil from rfl]
    simp? [newT_ok' hsz]
    have el : kinds.map PV.str ++ [PV.str fr] = (kinds ++ [fr]).map .str := by rw [List.map_append]; rfl
    rw [el]
    refine wp_loop (e := PV.str) (fun r ρ t' => Ext b t t' ∧ ∃ c8 c9 c10, ρ = [some (.loc b), c1, c2, some (.tup (kinds.map .str)), some p.pv, some (.loc l), some (.str fr), c7, c8, c9, c10, c11, c12]) _ _ _ ⟨e1, _, _, _, rfl⟩ (fun z r ρ t2 ⟨pre, hpre⟩ ⟨e2, c8, c9, c10, hρ⟩ => ?_) (fun ρ t2 ⟨e2, c8, c9, c10, hρ⟩ => ?_)
    · subst hρ
      have hzm : z ∈ kinds ++ [fr] := by rw [hpre]; simp
      exact r_kind n e2.bw hl (e2.old _ _ hl h) ho hp (hz z hzm) (h9 p hp) fun c9 c10 t' e3 => ⟨e2.trans e3, _, _, _, rfl⟩
    · subst hρ
      simp? []
      exact ⟨e2, _, _, _, _, rfl⟩
  · subst hρ
    exact hk _ _ _ _ _ e1
theorem sd_bl4 (a b c d : Bool) : SD 1 (.tup [.bl a, .bl b, .bl c, .bl d]) := .tup (fun x hx => by
  simp only [List.mem_cons, List.not_mem_nil, or_false] at hx
  rcases hx with rfl | rfl | rfl | rfl <;> exact .bl _) (sz_of (by simp))
def OB : Ss := forB (ssN RB 7)
theorem w_low {n k : Nat} {args : List PV} {Q : PV → Sto → Prop} {s : Sto} : Wp ((runs prog (n + 1)).low k args) Q s = Wp ((runs prog n).def_ k args) Q s := rfl
theorem r_oth (n : Nat) {t : Sto} {l l2 : Nat} {bk bo : Bk} {c0 c1 c3 c4 c6 c7 c8 c9 c10 c11 c12 : Option PV} {Q : Fl × Mp.Env → Sto → Prop} (h : At t l bk) (h2 : At t l2 bo)
    (hk : ∀ c12, Q (.nx, [c0, c1, some (bkPV bk), c3, c4, some (.loc l), c6, c7, c8, c9, c10, some (.loc l2), c12]) t) :
    Wp (trn prog (runs prog (n + 6)) (.name 11) OB (.loc l2) [c0, c1, some (bkPV bk), c3, c4, some (.loc l), c6, c7, c8, c9, c10, c11, c12]) Q t := by
  have ic : isClo (bkPV bk) = false := rfl
  have es := same_ok 1 _ (sd_bl4 (bkEq bo bk) (!bkEq bo bk) false true) (n + 4)
  have k1 := c_eq (n + 4) h h2
  have k2 := c_eq (n + 4) h h
  have k3 := c_eqT (l := l2) (n + 4) [.tup (bk.1.map Pot.pv), .tup (bk.2.map Mov.pv)]
  have ce : clsOf (.loc l) t = .ok 0 t := clsOf_at h
  have ce2 : clsOf (.loc l2) t = .ok 0 t := clsOf_at h2
  have ea : eqArg 0 (.loc l2) t = .ok () t := eqArg_at h2
  have ea1 : eqArg 0 (.loc l) t = .ok () t := eqArg_at h
  have ea2 : ∀ {xs : List PV}, eqArg 0 (.tup xs) = M.ret () := rfl
  have le : prog.eqs.lookup 0 = some 14 := rfl
  rw [bkEq_comm] at k1
  rw [bkEq_refl] at k2
  simp only [OB, RB, d__law_right, ssN, forB]
  simp? [ic, w_ok ce, w_ok ce2, w_ok ea, w_ok ea1, ea2, le, a_parts (n + 4) h2, eqBk, w_low, w_ok k1, w_ok k2]
  unfold bkPV at *
  simp? [ea2, le, w_low, w_pu k3, w_ok ce, w_ok ce2, w_ok ea, w_ok ea1, w_ok k1, w_ok k2, w_pu es]
  exact hk _
theorem sd_strs (zs : List Str) (hl : zs.length ≤ 100) : SD 1 (.tup (zs.map .str)) := .tup (fun x hx => by
  obtain ⟨z, _, rfl⟩ := List.mem_map.mp hx
  exact .str z) (by rw [List.length_map]; exact sz_of (by omega))
theorem SD.up {k : Nat} {v : PV} (h : SD k v) : SD (k + 1) v := by
  induction h with
  | non => exact .non
  | bl b => exact .bl b
  | int i => exact .int i
  | str z => exact .str z
  | tup h hl ih => exact .tup ih hl
theorem sd_pot {p : Pot} (h : PotOk p) : SD 2 p.pv := .tup (fun x hx => by
  simp only [List.mem_cons, List.not_mem_nil, or_false] at hx
  rcases hx with rfl | rfl | rfl | rfl | rfl | rfl
  · exact .str _
  · exact .int _
  · exact sd_strs _ (by have := h.k2; omega)
  · exact .int _
  · exact .int _
  · exact .int _) (sz_of (by simp))
theorem sd_mov (m : Mov) : SD 1 m.pv := .tup (fun x hx => by
  simp only [List.mem_cons, List.not_mem_nil, or_false] at hx
  rcases hx with rfl | rfl | rfl
  · exact .str _
  · exact .str _
  · exact .int _) (sz_of (by simp))
theorem sd_pots {bk : Bk} (h : BkOk bk) : SD 3 (.tup (bk.1.map Pot.pv)) := .tup (fun x hx => by
  obtain ⟨z, hz, rfl⟩ := List.mem_map.mp hx
  exact sd_pot (h.po z hz)) (by rw [List.length_map]; exact sz_of (by have := h.p2; omega))
theorem sd_movs {bk : Bk} (h : BkOk bk) : SD 3 (.tup (bk.2.map Mov.pv)) := .tup (fun x hx => by
  obtain ⟨z, hz, rfl⟩ := List.mem_map.mp hx
  exact (sd_mov z).up) (by rw [List.length_map]; exact sz_of (by have := h.m2; omega))
theorem sd_bk {bk : Bk} (h : BkOk bk) : SD 4 (bkPV bk) := .tup (fun x hx => by
  simp only [List.mem_cons, List.not_mem_nil, or_false] at hx
  rcases hx with rfl | rfl
  · exact sd_pots h
  · exact sd_movs h) (sz_of (by simp))
end Mp.K02
set_option maxHeartbeats 1000000
namespace Mp.K02
open Mp PySem
instance (z : Str) : Decidable (Nm z) := inferInstanceAs (Decidable (_ ∧ _))
theorem bk_0 {bk : Bk} {s : Sto} {Q : PV → Sto → Prop} : Wp (ixV (bkPV bk) (.int 0)) Q s = Q (.tup (bk.1.map Pot.pv)) s := by
  unfold bkPV
  simp? [at0]
theorem bk_1 {bk : Bk} {s : Sto} {Q : PV → Sto → Prop} : Wp (ixV (bkPV bk) (.int 1)) Q s = Q (.tup (bk.2.map Mov.pv)) s := by
  unfold bkPV
  simp? [at1]
theorem free_ex (kinds : List Str) (hl : kinds.length = 3) : ∃ z r, (["zz", "zy", "zx", "zw"] : List Str).filter (fun y => !decide (y ∈ kinds)) = z :: r ∧ Nm z := by
  have nd : (["zz", "zy", "zx", "zw"] : List Str).Nodup := by decide +kernel
  have nm : ∀ z ∈ (["zz", "zy", "zx", "zw"] : List Str), Nm z := by decide +kernel
  cases q : (["zz", "zy", "zx", "zw"] : List Str).filter (fun y => !decide (y ∈ kinds)) with
  | nil =>
    exfalso
    rw [List.filter_eq_nil_iff] at q
    have hs : (["zz", "zy", "zx", "zw"] : List Str) ⊆ kinds := fun y hy => by simpa using q y hy
    have := nd.length_le_of_subset hs
    simp [hl] at this
  | cons z r =>
    refine ⟨z, r, rfl, nm z ?_⟩
    have : z ∈ (["zz", "zy", "zx", "zw"] : List Str).filter (fun y => !decide (y ∈ kinds)) := by rw [q]; simp
    exact (List.mem_filter.mp this).1
theorem r_rest (n : Nat) {t : Sto} {b : Nat} {bk : Bk} {kinds : List Str} {c1 c4 c5 c6 c7 c8 c9 c10 c11 c12 : Option PV} {Q : Fl × Mp.Env → Sto → Prop} (hb : Bowl t b) (ho : BkOk bk) (hz : ∀ z ∈ kinds, Nm z) (hkl : kinds.length = 3) (h9 : ∀ p ∈ bk.1, p.last ≤ 919)
    (hk : ∀ c4 c5 c6 c7 c8 c9 c10 c11 c12 t', Ext b t t' → Q (.nx, [some (.loc b), c1, some (bkPV bk), some (.tup (kinds.map .str)), c4, c5, c6, c7, c8, c9, c10, c11, c12]) t') :
    Wp (exs prog (runs prog (n + 13)) (ssR RB 2) [some (.loc b), c1, some (bkPV bk), some (.tup (kinds.map .str)), c4, c5, c6, c7, c8, c9, c10, c11, c12]) Q t := by
  have ic : isClo (bkPV bk) = false := rfl
  have hbl := hb.lt
  have mk1 : (runs prog (n + 13)).def_ 6 [bkPV bk] t = .ok (.loc t.length) (t ++ [.ins 0 [(5, bkPV bk)]]) := of_wp (by
    (refine o_def d__law_made rfl rfl ?_; simp only [d__law_made, List.map_cons, List.map_nil, List.cons_append, List.nil_append, List.append_nil, List.replicate_succ, List.replicate_zero, Nat.reduceSub])
    unfold bkPV
    simp? [at0, at1, w_ok (p_make (n + 1) bk ho t)]
    simp [bkPV])
  obtain ⟨fr, rest, hfr, hfn⟩ := free_ex kinds hkl
  have e1 : Ext b t (t ++ [.ins 0 [(5, bkPV bk)]]) := (ExtN.push hb).ext
  have hat : At (t ++ [.ins 0 [(5, bkPV bk)]]) t.length bk := at_end
  generalize ht1 : t ++ [.ins 0 [(5, bkPV bk)]] = t1 at mk1 e1 hat
  rw [show ssR RB 2 = .cons (ssN RB 2) (.cons (ssN RB 3) (.cons (.for_ (.name 4) (.of (.ix (.var 2) (.cst (.int 0)))) PB) (.cons (ssN RB 5) (.cons (ssN RB 6) (.cons (ssN RB 7) .nil))))) from rfl]
  rw [show ssN RB 2 = .asg (.name 5) (.call 6 (.cons (.var 2) .nil) []) from rfl]
  simp? [ic, w_ok mk1]
  rw [show ssN RB 3 = S.asg (.name 6) (.ix (.lc false [7] (.name 7) (.of (.tup (.cons (.cst (.str "zz")) (.cons (.cst (.str "zy")) (.cons (.cst (.str "zx")) (.cons (.cst (.str "zw")) .nil)))))) (.som (.cmp .notin (.var 7) (.var 3))) (.var 7)) (.cst (.int 0))) from rfl]
  simp? [ic]
  have e4 : ([PV.str "zz", .str "zy", .str "zx", .str "zw"] : List PV) = (["zz", "zy", "zx", "zw"] : List Str).map .str := rfl
  rw [e4]
  refine wp_mapP (e := PV.str) (fun y => if y ∈ kinds then none else some (.str y)) (fun y _ => ?_) ?_
  · have ic : isClo (bkPV bk) = false := rfl
    simp? [ic]
    by_cases hm : y ∈ kinds
    · simp [hm]
    · simp [hm]
  · have ef : ((["zz", "zy", "zx", "zw"] : List Str).filterMap fun y => if y ∈ kinds then none else some (PV.str y)) = ((["zz", "zy", "zx", "zw"] : List Str).filter (fun y => !decide (y ∈ kinds))).map .str := by
      generalize (["zz", "zy", "zx", "zw"] : List Str) = l
      induction l with
      | nil => rfl
      | cons a l ih =>
        rw [List.filterMap_cons, List.filter_cons, ih]
        by_cases hm : a ∈ kinds
        · simp [hm]
        · simp [hm]
    have hsz : ((fr :: rest).map PV.str).length ≤ SZ := by
      rw [← hfr, List.length_map]
      exact sz_of (Nat.le_trans (List.length_filter_le _ _) (by simp))
    rw [ef, hfr, newL_f hsz]
    simp? [at0, ic]
    have hz2 : ∀ z ∈ kinds ++ [fr], Nm z := fun z h => by
      rcases List.mem_append.mp h with h | h
      · exact hz z h
      · rw [List.mem_singleton.mp h]; exact hfn
    simp? [bk_0]
    refine r_pots (n + 7) e1.bw (show t.length ≠ b by omega) hat ho hz2 hkl h9 fun c4 c8 c9 c10 t2 e2 => ?_
    have hat2 := e2.old _ _ (show t.length ≠ b by omega) hat
    rw [show ssN RB 5 = .asg (.name 10) (.cmp .eq (.lc false [4] (.name 4) (.of (.ix (.var 2) (.cst (.int 0)))) (.som (.cmp .ne (.ix (.var 4) (.cst (.int 5))) (.cst (.int 12)))) (.var 4)) (.lst false .nil)) from rfl]
    simp? [ic, bk_0]
    refine wp_mapP (e := Pot.pv) (fun p => if p.part = 12 then none else some p.pv) (fun p _ => ?_) ?_
    · have ic : isClo (bkPV bk) = false := rfl
      have ic2 : isClo p.pv = false := rfl
      unfold Pot.pv at *
      simp? [ic, ic2, at5]
      by_cases hm : p.part = 12
      · simp [hm]
      · simp [hm]
    · have ef : (bk.1.filterMap fun p => if p.part = 12 then none else some p.pv) = (bk.1.filter fun p => !decide (p.part = 12)).map Pot.pv := by
        generalize bk.1 = l
        induction l with
        | nil => rfl
        | cons a l ih =>
          rw [List.filterMap_cons, List.filter_cons, ih]
          by_cases hm : a.part = 12
          · simp [hm]
          · simp [hm]
      have hsz : ((bk.1.filter fun p => !decide (p.part = 12)).map Pot.pv).length ≤ SZ := by
        rw [List.length_map]
        exact sz_of (Nat.le_trans (List.length_filter_le _ _) (by have := ho.p2; omega))
      have hem : ((bk.1.filter fun p => !decide (p.part = 12)).map Pot.pv).isEmpty = bk.1.all fun p => decide (p.part = 12) := by
        generalize bk.1 = l
        induction l with
        | nil => rfl
        | cons a l ih =>
          rw [List.filter_cons, List.all_cons, ← ih]
          by_cases hm : a.part = 12
          · simp [hm]
          · simp [hm]
      rw [ef, newL_f hsz]
      simp? [eqL0 (toDs_pots _), hem]
      rw [show ssN RB 6 = .cond (.not (.of (.call 7 (.cons (.tup (.cons (.call 9 (.cons (.var 5) .nil) []) (.cons (.callK 9 .nil (.cons (.var 5) .nil) [0]) (.cons (.atr (.var 5) 2) (.cons (.atr (.var 5) 3) (.cons (.atr (.var 5) 4) .nil)))))) (.cons (.tup (.cons (.var 10) (.cons (.var 10) (.cons (.var 2) (.cons (.ix (.var 2) (.cst (.int 0))) (.cons (.ix (.var 2) (.cst (.int 1))) .nil)))))) .nil)) []))) (.cons (.ret (.cst (.bl false))) .nil) .nil from rfl]
      have hpl := c_plain (n + 10) hat2 ho
      have hs5 : SD 5 (.tup [.bl (bk.1.all fun p => decide (p.part = 12)), .bl (bk.1.all fun p => decide (p.part = 12)), bkPV bk, .tup (bk.1.map Pot.pv), .tup (bk.2.map Mov.pv)]) := .tup (fun x hx => by
        simp only [List.mem_cons, List.not_mem_nil, or_false] at hx
        rcases hx with rfl | rfl | rfl | rfl | rfl
        · exact .bl _
        · exact .bl _
        · exact sd_bk ho
        · exact (sd_pots ho).up
        · exact (sd_movs ho).up) (sz_of (by simp))
      simp? [ic, w_ok hpl, argsBy, a_parts (n + 11) hat2, a_pots (n + 11) hat2, a_moves (n + 11) hat2, bk_0, bk_1, w_pu (same_ok 5 _ hs5 (n + 7))]
      rw [show ssN RB 7 = .for_ (.name 11) (.of (.tup (.cons (.mkK 0 .nil (.cons (.ix (.var 2) (.cst (.int 1))) (.cons (.ix (.var 2) (.cst (.int 0))) .nil)) [1, 0]) (.cons (.mk 0 (.cons (.ix (.var 2) (.cst (.int 0))) (.cons (.slc false (.ix (.var 2) (.cst (.int 1))) (.som (.cst (.int 1))) .non) .nil))) (.cons (.mk 0 (.cons (.ix (.var 2) (.cst (.int 0))) (.cons (.tup .nil) .nil))) .nil))))) OB from rfl]
      have hoD : BkOk (bk.1, bk.2.drop 1) := ⟨ho.p1, ho.p2, Nat.le_trans (by rw [List.length_drop]; omega) ho.m2, ho.po, ho.pa, fun m hm => ho.mo m (List.mem_of_mem_drop hm), List.Pairwise.sublist (List.drop_sublist _ _) ho.ma⟩
      have hoN : BkOk (bk.1, []) := ⟨ho.p1, ho.p2, Nat.zero_le _, ho.po, ho.pa, fun m hm => (by cases hm), List.Pairwise.nil⟩
      have ed : cut (bk.2.map Mov.pv) (some 1) none = (bk.2.drop 1).map Mov.pv := by
        rw [show (some (1 : Int)) = some ((1 : Nat) : Int) from rfl, cut_drop, List.map_drop]
      have m1 := p_make (n + 2) bk ho t2
      have m2 := p_make (n + 2) (bk.1, bk.2.drop 1) hoD
      have m3 : ∀ s, (runs prog (n + 13)).make 0 [.tup (bk.1.map Pot.pv), .tup []] s = .ok (.loc s.length) (s ++ [.ins 0 [(5, bkPV (bk.1, []))]]) := p_make (n + 2) (bk.1, []) hoN
      simp? [ic, bk_0, bk_1, argsBy, ed, w_ok m1, w_ok (m2 _), w_ok (m3 _)]
      have g1 : At (t2 ++ [MO.ins 0 [(5, bkPV bk)]] ++ [MO.ins 0 [(5, bkPV (bk.1, List.drop 1 bk.2))]] ++ [MO.ins 0 [(5, bkPV (bk.1, []))]]) t2.length bk := at_old (at_old at_end)
      have g2 : At (t2 ++ [MO.ins 0 [(5, bkPV bk)]] ++ [MO.ins 0 [(5, bkPV (bk.1, List.drop 1 bk.2))]] ++ [MO.ins 0 [(5, bkPV (bk.1, []))]]) (t2 ++ [MO.ins 0 [(5, bkPV bk)]]).length (bk.1, bk.2.drop 1) := at_old at_end
      have g3 : At (t2 ++ [MO.ins 0 [(5, bkPV bk)]] ++ [MO.ins 0 [(5, bkPV (bk.1, List.drop 1 bk.2))]] ++ [MO.ins 0 [(5, bkPV (bk.1, []))]]) (t2 ++ [MO.ins 0 [(5, bkPV bk)]] ++ [MO.ins 0 [(5, bkPV (bk.1, List.drop 1 bk.2))]]).length (bk.1, []) := at_end
      have e3 : Ext b t2 (t2 ++ [MO.ins 0 [(5, bkPV bk)]] ++ [MO.ins 0 [(5, bkPV (bk.1, List.drop 1 bk.2))]] ++ [MO.ins 0 [(5, bkPV (bk.1, []))]]) := by
        rw [List.append_assoc, List.append_assoc]
        exact (ExtN.push e2.bw).ext
      have hat3 := e3.old _ _ (show t.length ≠ b by omega) hat2
      generalize t2 ++ [MO.ins 0 [(5, bkPV bk)]] ++ [MO.ins 0 [(5, bkPV (bk.1, List.drop 1 bk.2))]] ++ [MO.ins 0 [(5, bkPV (bk.1, []))]] = t3 at g1 g2 g3 e3 hat3 ⊢
      generalize (t2 ++ [MO.ins 0 [(5, bkPV bk)]] ++ [MO.ins 0 [(5, bkPV (bk.1, List.drop 1 bk.2))]]).length = a3 at g3 ⊢
      generalize (t2 ++ [MO.ins 0 [(5, bkPV bk)]]).length = a2 at g2 ⊢
      rw [show [PV.loc t2.length, .loc a2, .loc a3] = [t2.length, a2, a3].map PV.loc from rfl]
      refine wp_loop (e := PV.loc) (fun r ρ t' => t' = t3 ∧ ∃ c11 c12, ρ = [some (.loc b), c1, some (bkPV bk), some (.tup (kinds.map .str)), c4, some (.loc t.length), some (.str fr), c7, c8, c9, some (.bl (bk.1.all fun p => decide (p.part = 12))), c11, c12]) _ _ _ ⟨rfl, _, _, rfl⟩ (fun a r ρ t' ⟨pre, hpre⟩ ⟨ht, c11, c12, hρ⟩ => ?_) (fun ρ t' ⟨ht, c11, c12, hρ⟩ => ?_)
      · subst ht hρ
        have ha : ∃ bo, At t' a bo := by
          have hm : a ∈ [t2.length, a2, a3] := by rw [hpre]; simp
          simp only [List.mem_cons, List.not_mem_nil, or_false] at hm
          rcases hm with rfl | rfl | rfl
          · exact ⟨_, g1⟩
          · exact ⟨_, g2⟩
          · exact ⟨_, g3⟩
        obtain ⟨bo, ha⟩ := ha
        exact r_oth (n + 7) hat3 ha fun c12 => ⟨rfl, _, _, rfl⟩
      · subst ht hρ
        simp? []
        exact hk _ _ _ _ _ _ _ _ _ _ ((e1.trans e2).trans e3)
theorem w_right (n : Nat) {s : Sto} {b : Nat} (hb : Bowl s b) : Wp ((runs prog (n + 14)).def_ 1 [.loc b]) (fun v s' => v = .bl true ∧ Ext b s s') s := by
  refine o_def d__law_right rfl rfl ?_
  rw [show d__law_right.body = .cons (.for_ (.name 1) (.rng (.cst (.int 3))) RB) (.cons (.ret (.cst (.bl true))) .nil) from rfl]
  have h6 : in62 3 = true := rfl
  simp only [d__law_right, List.map_cons, List.map_nil, List.cons_append, List.nil_append, List.append_nil, List.replicate_succ, List.replicate_zero, Nat.reduceSub]
  simp? [h6, rngL]
  refine wp_loop (e := fun k : Nat => .int (0 + (k : Int))) (fun r ρ t => Ext b s t ∧ ∃ c1 c2 c3 c4 c5 c6 c7 c8 c9 c10 c11 c12, ρ = [some (.loc b), c1, c2, c3, c4, c5, c6, c7, c8, c9, c10, c11, c12]) _ _ _ ⟨Ext.refl hb, _, _, _, _, _, _, _, _, _, _, _, _, rfl⟩ (fun k r ρ t _ ⟨e0, c1, c2, c3, c4, c5, c6, c7, c8, c9, c10, c11, c12, hρ⟩ => ?_) (fun ρ t ⟨e0, c1, c2, c3, c4, c5, c6, c7, c8, c9, c10, c11, c12, hρ⟩ => ?_)
  · subst hρ
    rw [show RB = .cons (.asg (.tup (.cons (.name 2) (.cons (.name 3) .nil))) (.call 3 (.cons (.var 0) (.cons (.bin .add false (.cst (.int 1)) (.call 5 (.cons (.var 0) (.cons (.cst (.int 8)) .nil)) [])) (.cons (.cst (.int 8)) (.cons (.call 4 (.cons (.var 0) (.cons (.tup (.cons (.cst (.int 10)) (.cons (.cst (.int 10000)) .nil))) .nil)) []) .nil)))) [])) (.cons (ssN RB 1) (ssR RB 2)) from rfl]
    simp? []
    refine wp_use (w_draw (n + 12) e0.bw (by decide) (by decide)) fun u t1 ⟨⟨r1, hu, r10, r11⟩, e1, el1⟩ => ?_
    subst hu
    try simp? []
    refine wp_use (w_of (n + 11) (.inl rfl) e1.bw (by simp) (by simp)) fun u t2 ⟨hu, e2, el2⟩ => ?_
    have hw : ∃ w : Int, u = .int w ∧ 0 < w ∧ w ≤ 10000 := by
      simp only [List.mem_cons, List.not_mem_nil, or_false] at hu
      rcases hu with rfl | rfl
      · exact ⟨10, rfl, by omega, by omega⟩
      · exact ⟨10000, rfl, by omega, by omega⟩
    obtain ⟨w, hu, w0, w1⟩ := hw
    subst hu
    try simp? []
    refine wp_use (w_bookI (n + 8) e2.bw (by omega) (by omega) w0 w1 (by omega) (by omega)) fun u t3 ⟨bk, kinds, hu, ho, hkl, hkn, hka, h9, e3⟩ => ?_
    subst hu
    try simp? []
    rw [show ssN RB 1 = .cond (.cmp .eq (.call 5 (.cons (.var 0) (.cons (.cst (.int 2)) .nil)) []) (.cst (.int 0))) (.cons (.asg (.name 2) (.tup (.cons (.bf .tuple false (.cons (.lc false [4] (.name 4) (.of (.ix (.var 2) (.cst (.int 0)))) .non (.bin .add false (.slc false (.var 4) .non (.som (.cst (.int 5)))) (.tup (.cons (.cst (.int 12)) .nil)))) .nil)) (.cons (.ix (.var 2) (.cst (.int 1))) .nil)))) .nil) .nil from rfl]
    simp? []
    refine wp_use (w_draw (n + 12) e3.bw (by decide) (by decide)) fun u t4 ⟨⟨r2, hu, r20, r21⟩, e4, el4⟩ => ?_
    subst hu
    have ic : isClo (bkPV bk) = false := rfl
    simp? []
    have e34 := e3.trans e4
    have e14 := (e1.trans e2).trans e34
    by_cases hr2 : r2 = 0
    · rw [if_pos hr2]
      simp? [ic, bk_0, bk_1]
      refine wp_mapP (e := Pot.pv) (fun p => some (Pot.pv { p with part := 12 })) (fun p _ => ?_) ?_
      · have ic : isClo (bkPV bk) = false := rfl
        have ic2 : isClo p.pv = false := rfl
        have c5 : ∀ x y z u v w : PV, cut [x, y, z, u, v, w] none (some 5) = [x, y, z, u, v] := fun x y z u v w => cut_take [x, y, z, u, v, w] 5
        unfold Pot.pv at *
        simp? [ic, ic2, c5]
        simp
      · have ef : (bk.1.filterMap fun p => some (Pot.pv { p with part := 12 })) = (bk.1.map fun p => { p with part := 12 }).map Pot.pv := by
          simp [List.filterMap_eq_map, Function.comp_def]
        have hsz : ((bk.1.map fun p => { p with part := 12 }).map Pot.pv).length ≤ SZ := by
          rw [List.length_map, List.length_map]
          exact sz_of (by have := ho.p2; omega)
        rw [ef, newL_f hsz]
        simp? [ic, bk_1]
        have en : (bk.1.map fun p => { p with part := 12 }).map Pot.nm = bk.1.map Pot.nm := by
          rw [List.map_map]
          rfl
        have ho' : BkOk (bk.1.map fun p => { p with part := 12 }, bk.2) := by
          refine ⟨by show 1 ≤ (List.map _ _).length; rw [List.length_map]; exact ho.p1, by show (List.map _ _).length ≤ 8; rw [List.length_map]; exact ho.p2, ho.m2, fun p hp => ?_, ?_, fun m hm => ?_, ho.ma⟩
          · obtain ⟨q, hq, rfl⟩ := List.mem_map.mp hp
            have h := ho.po q hq
            exact ⟨h.nm, h.s0, h.s1, h.k1, h.k2, h.kn, h.ka, h.f0, h.f1, h.l0, h.l1, by show (1 : Int) ≤ 12; omega, by show (12 : Int) ≤ 12; omega⟩
          · show List.Pairwise _ (List.map _ _)
            rw [List.pairwise_map]
            exact ho.pa
          · show MovOk ((bk.1.map fun p => { p with part := 12 }).map Pot.nm) m
            rw [en]
            exact ho.mo m hm
        rw [show PV.tup [.tup ((bk.1.map fun p => { p with part := 12 }).map Pot.pv), .tup (bk.2.map Mov.pv)] = bkPV (bk.1.map fun p => { p with part := 12 }, bk.2) from rfl]
        have h9' : ∀ p ∈ (bk.1.map fun p => { p with part := 12 }), p.last ≤ 919 := fun p hp => by
          obtain ⟨q, hq, rfl⟩ := List.mem_map.mp hp
          exact h9 q hq
        have h9'' : ∀ p ∈ ((bk.1.map fun p => { p with part := 12 }, bk.2) : Bk).1, p.last ≤ 919 := h9'
        generalize ((bk.1.map fun p => { p with part := 12 }, bk.2) : Bk) = bk' at ho' h9'' ⊢
        exact r_rest n e4.bw ho' hkn hkl h9'' fun c4 c5 c6 c7 c8 c9 c10 c11 c12 t' e5 => ⟨(e0.trans e14).trans e5, _, _, _, _, _, _, _, _, _, _, _, _, rfl⟩
    · rw [if_neg hr2]
      try simp? []
      exact r_rest n e4.bw ho hkn hkl h9 fun c4 c5 c6 c7 c8 c9 c10 c11 c12 t' e5 => ⟨(e0.trans e14).trans e5, _, _, _, _, _, _, _, _, _, _, _, _, rfl⟩
  · subst hρ
    simp? []
    first | exact ⟨rfl, e0⟩ | exact ⟨trivial, e0⟩
abbrev LV : Nat := 15
theorem law_ok : ∀ ns : List Int, ns.length ≤ 63 → ∃ s', (runs prog LV).def_ 0 [.scr ns] [] = .ok (.bl true) s' := fun ns _ => by
  obtain ⟨v, s', h, hv⟩ := w_law 13 ns fun s b hb => w_right 0 hb
  subst hv
  exact ⟨s', h⟩
end Mp.K02
set_option maxHeartbeats 0
open PySem PySem.W PySem.Calls PyProof.Rows
theorem PySem.Challenge.cw_grantlines_k02_whole_which_pots_may_pay_holds : PySem.Challenge.rw_grantlines_k02_whole_which_pots_may_pay.Holds := by
  w_on; o_law
  refine HandSHeadRun.head_any (r := OpenLaw.row PySem.Challenge.rw_grantlines_k02_whole_which_pots_may_pay) (q := view (OpenLaw.row PySem.Challenge.rw_grantlines_k02_whole_which_pots_may_pay).prog [Mp.K02.lawTop]) (H := Mp.hookW Mp.K02.L) (ob := Mp.obW Mp.K02.L) (M := 20000) (loose := Mp.K02.topN) (d := HandSHeadRun.topDef (OpenLaw.row PySem.Challenge.rw_grantlines_k02_whole_which_pots_may_pay).prog Mp.K02.lawTop) (kwd := []) (Mp.obW_eq Mp.K02.L)
    (by kernel_rfl) (fun s => by kernel_rfl) Mp.K02.run (by kernel_rfl) (by kernel_rfl) (by kernel_rfl) (by rfl) (by first | assumption | decide +kernel) (by decide +kernel) ⟨rfl, rfl, rfl, rfl, rfl, by decide +kernel⟩ ?hw ?hc
  case hw => w_witness2
  case hc =>
    refine Mp.walk_ofTE (l := PySem.Challenge.rw_grantlines_k02_whole_which_pots_may_pay) (n := 63) (k := Mp.K02.LV + 1) (x := "script") (CX := fun _ _ _ _ _ _ _ => False) rfl (by decide) (by kernel_rfl) ⟨rfl, by decide, by decide⟩ ?F (fun _ _ _ _ _ z => z)
    intro w mg fa h Y G hmg0
    obtain ⟨K, KX, c⟩ := Y
    have hmg : mg ("law" : PySem.Str) = some (.ref fa) := by
      have e : (HandSHeadRun.topDef (OpenLaw.row PySem.Challenge.rw_grantlines_k02_whole_which_pots_may_pay).prog Mp.K02.lawTop).name = ("law" : PySem.Str) := by kernel_rfl
      rw [← e]
      exact hmg0
    exact Mp.lawAt_W (e := Mp.K02.e_law) rfl Mp.K02.lwok c KX G hmg (by decide +kernel) rfl rfl (by decide +kernel) rfl Mp.K02.law_ok

