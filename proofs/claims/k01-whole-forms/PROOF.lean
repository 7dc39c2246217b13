import PyProof.Rows.All
import Wide.All
import OpenK.AllK
import Wide.FinOn
import KE.KStateDown
import Lean
import HandS.Base
import HandS.Call
import HandS.List
import HandS.Comp
import HandS.Ends
import HandS.Dict
import HandS.Iter
import HandS.Text
import HandS.More
import HandS.Exc
import HandS.TryOnly
import HandS.TryMany
import HandS.ExcOwn
import HandS.ExcSuper
import HandS.Words
import HandS.WordsList
import HandS.WordsDict
import HandS.WordsExc
import HandS.Lambda
import HandS.Nested
import HandS.NestedK
import HandS.Property
import HandS.ClsMeth
import HandS.IsInst
import HandS.Flow
import HandS.Style
import HandS.Strs
import HandS.Conv
import HandS.TupAny
import HandS.TupMul
import HandS.Zip
import HandS.SortInts
import HandS.Star
import HandS.Defaults
import HandS.EndTab
import HandS.Head0
import HandS.Head1
import HandS.Head2
import HandS.HeadEnd
import HandS.HeadHook1
import HandS.HeadHook2
import HandS.HeadHook3
import HandS.HeadHook4
import HandS.HeadWalk
import KE.KOpsOwn
import KE.LtData
import KE.KDictKeyed
import KE.GoesNew
import HandS.Set
import HandS.SetBool
import HandS.SetFor
import HandS.Spec
import PySem.Challenge.RW_keptmeanings_k01_whole_forms
import HandS.Deep
import HandS.Walk
set_option Elab.async false
set_option linter.all false
set_option maxRecDepth 100000
set_option maxHeartbeats 0
/-! Q1: the data, the small language and its evaluator (no program in sight). -/
namespace Q
open PySem
/-- built-in types that are asked for -/
inductive Ty where
  | int | bool | str | tuple | list | dict | set | none
  deriving DecidableEq
def Ty.name : Ty → String
  | .int => "int" | .bool => "bool" | .str => "str" | .tuple => "tuple" | .list => "list" | .dict => "dict" | .set => "set" | .none => "NoneType"
/-- data: what cannot change, by value; ref: a thing of the store -/
inductive D where
  | non | bl (b : Bool) | int (i : Int) | str (x : Str)
  | tup (xs : List D) | lst (xs : List D) | slst (xs : List D) | dct (kvs : List (D × D)) | set (xs : List D)
  | ins (c : Nat) (fs : List D)
  | ty (t : Ty) | cls (c : Nat) | fn (k : Nat) | nfn (k : Nat) | clo (k : Nat) (caps : List D) | ref (i : Nat)
/-- what can change -/
inductive MO where
  | lst (xs : List D) | dct (kvs : List (D × D)) | set (xs : List D) | ins (c : Nat) (fs : List D) | gone
abbrev Sto := List MO
/-- an exception: its class, the value of its field -/
structure Ex where
  c : Nat
  f : Option D
inductive R (α : Type) where
  | ok (a : α) (μ : Sto) | ex (x : Ex) (μ : Sto) | no
@[inline] def R.bind {α β : Type} (r : R α) (f : α → Sto → R β) : R β := match r with
  | .ok a μ => f a μ
  | .ex x μ => .ex x μ
  | .no => .no
def R.of {α : Type} (o : Option α) (μ : Sto) : R α := match o with
  | some a => .ok a μ
  | none => .no
mutual
def D.py : D → Option PyData
  | .non => some .none
  | .bl b => some (.bool b)
  | .int i => some (.int i)
  | .str x => some (.str x)
  | .tup xs => (D.pys xs).map .tuple
  | .lst xs => (D.pys xs).map .list
  | .slst xs => (D.pys xs).map .list
  | _ => none
def D.pys : List D → Option (List PyData)
  | [] => some []
  | x :: xs => (D.py x).bind fun p => (D.pys xs).map fun ps => p :: ps
end
/-- a thing of the store as it is now -/
def view (μ : Sto) : D → D
  | .ref i => match μ[i]? with
    | some (.lst xs) => .lst xs
    | some (.dct kvs) => .dct kvs
    | some (.set xs) => .set xs
    | _ => .ref i
  | .slst xs => .lst xs
  | d => d
/-- x == y -/
def eqD (μ : Sto) (x y : D) : Option Bool :=
  match (view μ x).py, (view μ y).py with
  | some p, some q => if SeqAt.shaped p && SeqAt.shaped q then some (PyData.eqv p q) else none
  | _, _ => none
def tyOf : D → Option Ty
  | .non => some .none | .bl _ => some .bool | .int _ => some .int | .str _ => some .str
  | .tup _ => some .tuple | .lst _ => some .list | .slst _ => some .list | .dct _ => some .dict | .set _ => some .set
  | _ => none
def subTy : Ty → Ty → Bool
  | .bool, .int => true
  | a, b => decide (a = b)
def truth (μ : Sto) (d : D) : Option Bool := match view μ d with
  | .non => some false
  | .bl b => some b
  | .int i => some (i != 0)
  | .str x => if x.length ≤ sizeLine then some ((x.length : Int) != 0) else none
  | .tup xs => some !xs.isEmpty
  | .lst xs => some !xs.isEmpty
  | _ => none
/-- the items of what is walked -/
def items (μ : Sto) (d : D) : Option (List D) := match view μ d with
  | .tup xs => some xs
  | .lst xs => some xs
  | .str x => some (x.cps.toList.map fun c => .str ⟨#[c]⟩)
  | _ => none
/-- what may stand within other things -/
def isP : D → Bool
  | .ref _ => false
  | .nfn _ => false
  | .clo _ _ => false
  | _ => true
def allP : List D → Bool
  | [] => true
  | d :: ds => isP d && allP ds
/-- the greatest length that is carried -/
abbrev lim : Nat := 16777216
/-- x op y, of built-in things -/
def binD (op : Operator) (x y : D) : Option D := match op, x, y with
  | .Add, .int i, .int j => some (.int (i + j))
  | .Add, .str a, .str c => if a.length + c.length ≤ lim then some (.str (a ++ c)) else none
  | .Add, .lst xs, .lst ys => if xs.length + ys.length ≤ lim then some (.lst (xs ++ ys)) else none
  | .Add, .tup xs, .tup ys => if xs.length + ys.length ≤ lim then some (.tup (xs ++ ys)) else none
  | .Sub, .int i, .int j => some (.int (i - j))
  | .Mult, .int i, .int j => if (decide (-(2 ^ 64) < i) && decide (i < 2 ^ 64)) || (decide (-(2 ^ 64) < j) && decide (j < 2 ^ 64)) then some (.int (i * j)) else none
  | .Mod, .int i, .int j => if 0 < j then some (.int (i % j)) else none
  | .FloorDiv, .int i, .int j => if 0 < j ∧ j < 1073741824 then some (.int (i / j)) else none
  | _, _, _ => none
def isNon : D → Bool
  | .non => true
  | _ => false
/-- a comparison -/
def cmpD (op : CmpOp) (μ : Sto) (x y : D) : Option Bool := match op with
  | .Eq => eqD μ x y
  | .NotEq => (eqD μ x y).map (!·)
  | .Lt => (match x, y with | .int i, .int j => some (decide (i < j)) | _, _ => none)
  | .LtE => (match x, y with | .int i, .int j => some (decide (i ≤ j)) | _, _ => none)
  | .Gt => (match x, y with | .int i, .int j => some (decide (j < i)) | _, _ => none)
  | .GtE => (match x, y with | .int i, .int j => some (decide (j ≤ i)) | _, _ => none)
  | .Is => (match y with | .non => some (isNon x) | _ => none)
  | .IsNot => (match y with | .non => some (!isNon x) | _ => none)
  | _ => none
/-- two keys that are one -/
def keyEq (a b : D) : Bool := match a.py, b.py with
  | some p, some q => PyData.eqv p q
  | _, _ => false
def getK (kvs : List (D × D)) (k : D) : Option D := (kvs.find? fun p => keyEq p.1 k).map (·.2)
/-- x in y -/
def inD (μ : Sto) (x y : D) : Option Bool := match view μ y with
  | .lst ys => (match (view μ x).py, D.pys ys with
    | some p, some ps => if SeqAt.shaped p && SeqAt.shaped (.list ps) then some (ps.any fun z => PyData.eqv z p) else none
    | _, _ => none)
  | .tup ys => (match (view μ x).py, D.pys ys with
    | some p, some ps => if SeqAt.shaped p && SeqAt.shaped (.tuple ps) then some (ps.any fun z => PyData.eqv z p) else none
    | _, _ => none)
  | .dct kvs => (match x with
    | .str _ => some (getK kvs x).isSome
    | _ => none)
  | _ => none
/-- x[y] -/
def subD (μ : Sto) (x y : D) : Option D := match view μ x, y with
  | .lst xs, .int i => L2.atI xs i
  | .tup xs, .int i => L2.atI xs i
  | .str z, .int i => if z.length ≤ lim then (L2.atI z.cps.toList i).map fun c => .str ⟨#[c]⟩ else none
  | .dct kvs, .str k => getK kvs (.str k)
  | _, _ => none
def cutL {α : Type} (xs : List α) (lo hi : Option Int) : List α := (xs.drop (HT.sIx xs.length 0 lo)).take (HT.sIx xs.length xs.length hi - HT.sIx xs.length 0 lo)
def cutD (μ : Sto) (x : D) (lo hi : Option Int) : Option D := match view μ x with
  | .lst xs => some (.lst (cutL xs lo hi))
  | .tup xs => some (.tup (cutL xs lo hi))
  | _ => none
def partD : D → Option Int
  | .int i => some i
  | _ => none
def lenD (μ : Sto) (x : D) : Option Nat := match view μ x with
  | .lst xs => some xs.length
  | .tup xs => some xs.length
  | .str z => if z.length ≤ lim then some z.length else none
  | _ => none
abbrev Sl := List (Option D)
def getS (sl : Sl) (i : Nat) : Option D := match sl[i]? with
  | some (some d) => some d
  | _ => none
/-- what a statement comes to -/
inductive O where
  | nx (sl : Sl) (μ : Sto) | rt (d : D) (μ : Sto) | bk (sl : Sl) (μ : Sto) | ct (sl : Sl) (μ : Sto) | ex (x : Ex) (sl : Sl) (μ : Sto) | no
/-- an expression, then statements -/
def seqO {α : Type} (r : R α) (sl : Sl) (k : α → Sto → O) : O := match r with
  | .ok a μ => k a μ
  | .ex x μ => .ex x sl μ
  | .no => .no
def thenO (o : O) (k : Sl → Sto → O) : O := match o with
  | .nx sl μ => k sl μ
  | o => o
/-- a target: a name's slot, or a tuple of targets -/
inductive T where
  | nm (i : Nat) | tp (ts : T) | nil | cons (t ts : T)
def T.len : T → Nat
  | .cons _ ts => ts.len + 1
  | _ => 0
/-- the slots that a target stores -/
def T.slots : T → List Nat
  | .nm i => [i]
  | .tp ts => ts.slots
  | .nil => []
  | .cons t ts => t.slots ++ ts.slots
def setT : T → List D → Sl → Option Sl
  | .nm i, [d], sl => some (sl.set i (some d))
  | .tp ts, [.tup ds], sl => if ds.length == ts.len then setT ts ds sl else none
  | .nil, [], sl => some sl
  | .cons t ts, d :: ds, sl => (setT t [d] sl).bind (setT ts ds)
  | _, _, _ => none
/-- for t in ds: body -/
def forO (t : T) (body : Sl → Sto → O) : List D → Sl → Sto → O
  | [], sl, μ => .nx sl μ
  | d :: ds, sl, μ => match setT t [d] sl with
    | none => .no
    | some sl1 => match body sl1 μ with
      | .nx sl2 μ2 => forO t body ds sl2 μ2
      | .ct sl2 μ2 => forO t body ds sl2 μ2
      | .bk sl2 μ2 => .nx sl2 μ2
      | o => o
/-- while: at most so many turns -/
def whiO (test : Sl → Sto → R Bool) (body : Sl → Sto → O) : Nat → Sl → Sto → O
  | 0, _, _ => .no
  | n + 1, sl, μ => seqO (test sl μ) sl fun k μ => if k then (match body sl μ with
      | .nx sl2 μ2 => whiO test body n sl2 μ2
      | .ct sl2 μ2 => whiO test body n sl2 μ2
      | .bk sl2 μ2 => .nx sl2 μ2
      | o => o) else .nx sl μ
/-- what stands still and can be walked -/
def itemsF : D → Option (List D)
  | .tup xs => some xs
  | .lst xs => some xs
  | .slst xs => some xs
  | .str x => some (x.cps.toList.map fun c => .str ⟨#[c]⟩)
  | _ => none
def zipD : List D → List D → List D
  | x :: xs, y :: ys => .tup [x, y] :: zipD xs ys
  | _, _ => []
def rngD (lo : Int) : Nat → List D
  | 0 => []
  | n + 1 => .int lo :: rngD (lo + 1) n
def enuD (i : Nat) : List D → List D
  | [] => []
  | x :: xs => .tup [.int i, x] :: enuD (i + 1) xs
/-- slots forgotten -/
def wipeS (sl : Sl) : List Nat → Sl
  | [] => sl
  | v :: vs => (wipeS sl vs).set v none
/-- [elt for t in ds if test] -/
def lcL (t : T) (test : Sl → Sto → R Bool) (elt : Sl → Sto → R D) (sl : Sl) : List D → Sto → R (List D)
  | [], μ => .ok [] μ
  | d :: ds, μ => match setT t [d] sl with
    | none => .no
    | some sl1 => (test sl1 μ).bind fun k μ => if k then (elt sl1 μ).bind fun y μ => (lcL t test elt sl ds μ).bind fun ys μ => .ok (y :: ys) μ else lcL t test elt sl ds μ
/-- nothing is raised within -/
def noEx {α : Type} (r : R α) : R α := match r with
  | .ex _ _ => .no
  | r => r
def lcR (t : T) (vs : List Nat) (ri : R (List D)) (test : Sl → Sto → R Bool) (elt : Sl → Sto → R D) (sl : Sl) : R D := ri.bind fun ds μ => noEx ((lcL t test elt (wipeS sl vs) ds μ).bind fun ys μ => if ys.length ≤ lim && allP ys then .ok (.lst ys) μ else .no)
/-- an expression's value as a test -/
def tst (r : R D) : R Bool := r.bind fun d μ => R.of (truth μ d) μ
/-- a value that may be handed on as it is -/
def isA : D → Bool
  | .nfn _ => false
  | _ => true
/-- a value that may be handed back -/
def isV : D → Bool
  | .nfn _ => false
  | .clo _ _ => false
  | _ => true
def allA : List D → Bool
  | [] => true
  | d :: ds => isA d && allA ds
end Q
/-! Q2: how data stand in the abstract heap. -/
namespace Q
open PySem PySem.Spec PyProof.Rows L2
/-- a function made while a law runs (a nested def, a lambda): its words, the names that it captures -/
structure NFi where
  name : Str
  qual : Str
  params : Arguments
  body : FuncBody
  scope : Scope
  fr : List Str
abbrev NFi.fd (n : NFi) (cl : List (Str × Addr)) (c : Addr) (doc pm ctv : Value) : FuncData :=
  { name := n.name, qualname := n.qual, params := n.params, body := n.body, scope := n.scope, globals := mainGlobals, closure := cl, defaults := .none, kwdefaults := .none, doc := doc, pyModule := pm, annotations := none, code := .ref c, closureTuple := ctv, builtins := builtinsNs }
/-- the object at f is a function -/
def CloO (f : Addr) (n : NFi) (cl : List (Str × Addr)) (c : Addr) : HO := .ext fun h => ∃ (od : Option Addr) (sl : Array (Option Value)) (doc pm ctv : Value), h.get? f = some (⟨.type "function", od, .func (n.fd cl c doc pm ctv), sl⟩ : Obj)
/-- the object at c is o -/
def CellO (c : Addr) (o : Obj) : HO := .ext fun h => h.get? c = some o
/-- what is fixed through a law: the program, its written part, where classes and functions stand; cl: the running frame's cells -/
structure Wd where
  P : Program
  w : World
  K : PySem.W.Frag
  mg : Str → Option Value
  base : Heap
  cA : Nat → Addr
  cF : Nat → List Str
  fA : Nat → Addr
  T : List NdefX.NTab
  nf : Nat → NFi
  cl : List (Str × Addr)
/-- a written dict with text keys, by what it holds -/
def KDct (K : PySem.W.Frag) (w : World) (a : Addr) (kvs : List (Str × V)) : Prop :=
  ∃ es n, KDict K w a es n ∧ ∀ z : Str, ∃ o, PySem.W.nsIn K a z = some o ∧ RelO (kvs.lookup z) o
mutual
/-- data that do not change -/
inductive Rep (U : Wd) (G : Hp) : V → D → Prop
  | non : Rep U G .non .non
  | bl (b : Bool) : Rep U G (.bl b) (.bl b)
  | int (i : Int) : Rep U G (.int i) (.int i)
  | str (x : Str) : Rep U G (.str x) (.str x)
  | ty (t : Ty) : Rep U G (.ty t.name) (.ty t)
  | cls (c : Nat) : Rep U G (.ref (U.cA c)) (.cls c)
  | fn (k : Nat) : Rep U G (.ref (U.fA k)) (.fn k)
  | tup {a : Addr} {xs : List V} {ds : List D} : SqT U.K G a xs → RepL U G xs ds → Rep U G (.ref a) (.tup ds)
  | lst {a : Addr} {xs : List V} {ds : List D} : G a = some (.lst xs) → RepL U G xs ds → Rep U G (.ref a) (.lst ds)
  | slst {a : Addr} {xs : List V} {ds : List D} : SqL U.K G a xs → RepL U G xs ds → Rep U G (.ref a) (.slst ds)
  | ins {a dx : Addr} {c : Nat} {fs : List (Str × V)} {ds : List D} : G a = some (.ins (U.cA c) dx fs) → fs.map (·.1) = U.cF c → RepL U G (fs.map (·.2)) ds → Rep U G (.ref a) (.ins c ds)
  | kdct {a : Addr} {ks : List Str} {vs : List V} {ds : List D} : KDct U.K U.w a (ks.zip vs) → ks.length = ds.length → RepL U G vs ds → Rep U G (.ref a) (.dct ((ks.map D.str).zip ds))
  | set {a : Addr} {S : Int → Bool} {n : Nat} {is : List Int} : G a = some (SetO U.w a S n) → (∀ i, S i = decide (i ∈ is)) → is.Nodup → is.length = n → Rep U G (.ref a) (.set (is.map D.int))
inductive RepL (U : Wd) (G : Hp) : List V → List D → Prop
  | nil : RepL U G [] []
  | cons {v : V} {d : D} {vs : List V} {ds : List D} : Rep U G v d → RepL U G vs ds → RepL U G (v :: vs) (d :: ds)
end
/-- a value: such data, or a thing of the store -/
inductive RV (U : Wd) (ρ : List Addr) (G : Hp) : V → D → Prop
  | ref {i : Nat} {a : Addr} : ρ[i]? = some a → RV U ρ G (.ref a) (.ref i)
  | pure {v : V} {d : D} : Rep U G v d → RV U ρ G v d
  | nfn {k : Nat} {f c : Addr} : G f = some (CloO f (U.nf k) (cloFrom U.cl (U.nf k).scope.names []) c) → G c = some (LamX.CodeO c (U.nf k).qual) → RV U ρ G (.ref f) (.nfn k)
  | clo {k : Nat} {f c : Addr} {cl : List (Str × Addr)} {ws : List V} {ds : List D} : G f = some (CloO f (U.nf k) cl c) → G c = some (LamX.CodeO c (U.nf k).qual) → (∀ y a, cl.lookup y = some a → ∃ o v, G a = some (CellO a o) ∧ o.data = .cell v) →
      (∀ x y a, cl.lookup x = some a → cl.lookup y = some a → x = y) → ws.length = (U.nf k).fr.length → (∀ (i : Nat) y, (U.nf k).fr[i]? = some y → ∃ a o w u, cl.lookup y = some a ∧ G a = some (CellO a o) ∧ ws[i]? = some w ∧ L2.RelV w u ∧ o.data = .cell (some u)) →
      RepL U G ws ds → RV U ρ G (.ref f) (.clo k ds)
inductive RVL (U : Wd) (ρ : List Addr) (G : Hp) : List V → List D → Prop
  | nil : RVL U ρ G [] []
  | cons {v : V} {d : D} {vs : List V} {ds : List D} : RV U ρ G v d → RVL U ρ G vs ds → RVL U ρ G (v :: vs) (d :: ds)
/-- one abstract heap within another -/
def Sub (G H : Hp) : Prop := ∀ a o, G a = some o → H a = some o
theorem Sub.refl (H : Hp) : Sub H H := fun _ _ h => h
theorem Sub.trans {A B C : Hp} (x : Sub A B) (y : Sub B C) : Sub A C := fun a o h => y a o (x a o h)
theorem Sub.rd {G H : Hp} (x : Sub G H) {a : Addr} {u : HO} (h : Rd G a u) : Rd H a u := h.elim (fun z => .inl (x _ _ z)) fun ⟨o, z⟩ => .inr ⟨o, x _ _ z⟩
theorem Sub.sqT {K : PySem.W.Frag} {G H : Hp} (x : Sub G H) {a : Addr} {xs : List V} (h : SqT K G a xs) : SqT K H a xs := h.elim (fun z => .inl (x.rd z)) .inr
theorem Sub.sqL {K : PySem.W.Frag} {G H : Hp} (x : Sub G H) {a : Addr} {xs : List V} (h : SqL K G a xs) : SqL K H a xs := h.elim (fun z => .inl (x.rd z)) .inr
theorem pre_get {ρ ρ' : List Addr} (h : ρ <+: ρ') {i : Nat} {a : Addr} (e : ρ[i]? = some a) : ρ'[i]? = some a := by
  obtain ⟨t, rfl⟩ := h
  rw [List.getElem?_append_left (List.getElem?_eq_some_iff.mp e).1]
  exact e
mutual
theorem Rep.mono {U : Wd} {G G' : Hp} (hg : Sub G G') : ∀ {v : V} {d : D}, Rep U G v d → Rep U G' v d
  | _, _, .non => .non
  | _, _, .bl b => .bl b
  | _, _, .int i => .int i
  | _, _, .str x => .str x
  | _, _, .ty t => .ty t
  | _, _, .cls c => .cls c
  | _, _, .fn k => .fn k
  | _, _, .tup h l => .tup (hg.sqT h) (RepL.mono hg l)
  | _, _, .lst h l => .lst (hg _ _ h) (RepL.mono hg l)
  | _, _, .slst h l => .slst (hg.sqL h) (RepL.mono hg l)
  | _, _, .ins h n l => .ins (hg _ _ h) n (RepL.mono hg l)
  | _, _, .kdct h n l => .kdct h n (RepL.mono hg l)
  | _, _, .set h s n l => .set (hg _ _ h) s n l
theorem RepL.mono {U : Wd} {G G' : Hp} (hg : Sub G G') : ∀ {vs : List V} {ds : List D}, RepL U G vs ds → RepL U G' vs ds
  | _, _, .nil => .nil
  | _, _, .cons h t => .cons (Rep.mono hg h) (RepL.mono hg t)
end
theorem RV.mono {U : Wd} {ρ ρ' : List Addr} {G G' : Hp} (hr : ρ <+: ρ') (hg : Sub G G') {v : V} {d : D} : RV U ρ G v d → RV U ρ' G' v d
  | .ref e => .ref (pre_get hr e)
  | .pure r => .pure (r.mono hg)
  | .nfn h1 h2 => .nfn (hg _ _ h1) (hg _ _ h2)
  | .clo h1 h2 h3 h4 h5 h6 h7 => .clo (hg _ _ h1) (hg _ _ h2) (fun y a e => let ⟨o, v, q1, q2⟩ := h3 y a e; ⟨o, v, hg _ _ q1, q2⟩) h4 h5 (fun i y e => let ⟨a, o, w, u, q1, q2, q3⟩ := h6 i y e; ⟨a, o, w, u, q1, hg _ _ q2, q3⟩) (h7.mono hg)
theorem RVL.mono {U : Wd} {ρ ρ' : List Addr} {G G' : Hp} (hr : ρ <+: ρ') (hg : Sub G G') : ∀ {vs : List V} {ds : List D}, RVL U ρ G vs ds → RVL U ρ' G' vs ds
  | _, _, .nil => .nil
  | _, _, .cons h t => .cons (RV.mono hr hg h) (RVL.mono hr hg t)
theorem RVL.length {U : Wd} {ρ : List Addr} {G : Hp} : ∀ {vs : List V} {ds : List D}, RVL U ρ G vs ds → vs.length = ds.length
  | _, _, .nil => rfl
  | _, _, .cons _ t => by rw [List.length_cons, List.length_cons, RVL.length t]
theorem RV.isP {U : Wd} {ρ : List Addr} {G : Hp} {v : V} {d : D} (r : RV U ρ G v d) (h : isP d = true) : Rep U G v d := by
  cases r with
  | ref e => cases h
  | pure r => exact r
  | nfn => cases h
  | clo => cases h
theorem RVL.allP {U : Wd} {ρ : List Addr} {G : Hp} : ∀ {vs : List V} {ds : List D}, RVL U ρ G vs ds → Q.allP ds = true → RepL U G vs ds
  | _, _, .nil, _ => .nil
  | _, _, .cons r t, h => by
    unfold Q.allP at h
    rw [Bool.and_eq_true] at h
    exact .cons (r.isP h.1) (t.allP h.2)
theorem RepL.rvl {U : Wd} {ρ : List Addr} {G : Hp} : ∀ {vs : List V} {ds : List D}, RepL U G vs ds → RVL U ρ G vs ds
  | _, _, .nil => .nil
  | _, _, .cons h t => .cons (.pure h) (RepL.rvl t)
theorem RepL.length {U : Wd} {G : Hp} : ∀ {vs : List V} {ds : List D}, RepL U G vs ds → vs.length = ds.length
  | _, _, .nil => rfl
  | _, _, .cons _ t => by rw [List.length_cons, List.length_cons, RepL.length t]
theorem RepL.get {U : Wd} {G : Hp} : ∀ {vs : List V} {ds : List D} {i : Nat} {d : D}, RepL U G vs ds → ds[i]? = some d → ∃ v, vs[i]? = some v ∧ Rep U G v d
  | _, _, _, _, .nil, e => by simp at e
  | _, _, 0, _, .cons r _, e => by simp at e; subst e; exact ⟨_, rfl, r⟩
  | _, _, i + 1, d, .cons _ t, e => by
    obtain ⟨v, h1, h2⟩ := RepL.get (i := i) (d := d) t (by simpa using e)
    exact ⟨v, by simpa using h1, h2⟩
theorem RepL.get' {U : Wd} {G : Hp} : ∀ {vs : List V} {ds : List D} {i : Nat} {v : V}, RepL U G vs ds → vs[i]? = some v → ∃ d, ds[i]? = some d ∧ Rep U G v d
  | _, _, _, _, .nil, e => by simp at e
  | _, _, 0, _, .cons r _, e => by simp at e; subst e; exact ⟨_, rfl, r⟩
  | _, _, i + 1, d, .cons _ t, e => by
    obtain ⟨v, h1, h2⟩ := RepL.get' (i := i) t (by simpa using e)
    exact ⟨v, by simpa using h1, h2⟩
theorem RepL.append {U : Wd} {G : Hp} : ∀ {vs ws : List V} {ds es : List D}, RepL U G vs ds → RepL U G ws es → RepL U G (vs ++ ws) (ds ++ es)
  | _, _, _, _, .nil, s => s
  | _, _, _, _, .cons r t, s => .cons r (RepL.append t s)
theorem RepL.take {U : Wd} {G : Hp} : ∀ {vs : List V} {ds : List D} (n : Nat), RepL U G vs ds → RepL U G (vs.take n) (ds.take n)
  | _, _, 0, _ => .nil
  | _, _, _ + 1, .nil => .nil
  | _, _, n + 1, .cons r t => .cons r (RepL.take n t)
theorem RepL.drop {U : Wd} {G : Hp} : ∀ {vs : List V} {ds : List D} (n : Nat), RepL U G vs ds → RepL U G (vs.drop n) (ds.drop n)
  | _, _, 0, r => r
  | _, _, _ + 1, .nil => .nil
  | _, _, n + 1, .cons _ t => RepL.drop n t
theorem RepL.set {U : Wd} {G : Hp} {v : V} {d : D} (r : Rep U G v d) : ∀ {vs : List V} {ds : List D} (i : Nat), RepL U G vs ds → RepL U G (vs.set i v) (ds.set i d)
  | _, _, _, .nil => .nil
  | _, _, 0, .cons _ t => .cons r t
  | _, _, i + 1, .cons q t => .cons q (RepL.set r i t)
def allV : List D → Bool
  | [] => true
  | d :: ds => isV d && allV ds
/-- a thing of the store stands at p -/
def MRep (U : Wd) (ρ : List Addr) (G H : Hp) (p : Addr) : MO → Prop
  | .lst ds => ∃ xs, H p = some (.lst xs) ∧ RepL U G xs ds
  | .ins c ds => ∃ dx fs, H p = some (.ins (U.cA c) dx fs) ∧ fs.map (·.1) = (U.cF c).take ds.length ∧ RVL U ρ G (fs.map (·.2)) ds ∧ allV ds = true
  | .set _ => False
  | .dct _ => False
  | .gone => ∃ o, H p = some o ∧ (∀ φ, o ≠ .ext φ) ∧ ∀ ps, o ≠ .tbl ps
theorem MRep.mono {U : Wd} {ρ ρ' : List Addr} {G G' H H' : Hp} {p : Addr} {o : MO} (hr : ρ <+: ρ') (hg : Sub G G') (hp : H' p = H p) (h : MRep U ρ G H p o) : MRep U ρ' G' H' p o := by
  cases o with
  | lst ds => obtain ⟨xs, e, l⟩ := h; exact ⟨xs, hp.trans e, l.mono hg⟩
  | ins c ds => obtain ⟨dx, fs, e, n, l, z⟩ := h; exact ⟨dx, fs, hp.trans e, n, l.mono hr hg, z⟩
  | set _ => exact h.elim
  | dct _ => exact h.elim
  | gone => obtain ⟨o, e, z⟩ := h; exact ⟨o, hp.trans e, z⟩
/-- where one begins: the abstract heap, where the store stands, what is frozen -/
structure B0 where
  H : Hp
  ρ : List Addr
  G : Hp
/-- the heap's side: from the beginning b to (μ, ρ, G, H) -/
structure SH (U : Wd) (b : B0) (μ : Sto) (ρ : List Addr) (G H : Hp) : Prop where
  sub : Sub G H
  ntb : ∀ a ps, G a ≠ some (.tbl ps)
  len : ρ.length = μ.length
  nd : ρ.Nodup
  ap : ∀ (i : Nat) p o, ρ[i]? = some p → μ[i]? = some o → o ≠ .gone → G p = none
  sto : ∀ (i : Nat) p o, ρ[i]? = some p → μ[i]? = some o → MRep U ρ G H p o
  pre : b.ρ <+: ρ
  ext : ∀ a o, b.H a = some o → (∀ ps, o ≠ .tbl ps) → a ∉ b.ρ → H a = some o
  dom : ∀ a, H a = none → b.H a = none
  gnew : ∀ a, G a ≠ none → b.G a ≠ none ∨ b.H a = none ∨ (∃ q, G a = some (LamX.CodeO a q)) ∨ a ∈ b.ρ
  gsub : Sub b.G G
  rnew : ∀ p ∈ ρ, p ∈ b.ρ ∨ b.H p = none
  tabs : NdefX.TabsN U.T H
  b0 : Sub b.G b.H
theorem MRep.some {U : Wd} {ρ : List Addr} {G H : Hp} {p : Addr} {o : MO} (h : MRep U ρ G H p o) : H p ≠ none := by
  cases o with
  | lst ds => obtain ⟨xs, e, l⟩ := h; rw [e]; simp
  | ins c ds => obtain ⟨dx, fs, e, n, l⟩ := h; rw [e]; simp
  | set _ => exact h.elim
  | dct _ => exact h.elim
  | gone => obtain ⟨o, e, _⟩ := h; rw [e]; simp
theorem SH.rsome {U : Wd} {b : B0} {μ : Sto} {ρ : List Addr} {G H : Hp} (s : SH U b μ ρ G H) {p : Addr} (hp : p ∈ ρ) : H p ≠ none := by
  obtain ⟨i, hi⟩ := List.mem_iff_getElem?.mp hp
  have hl := (List.getElem?_eq_some_iff.mp hi).1
  have : i < μ.length := by rw [← s.len]; exact hl
  exact (s.sto i p μ[i] hi (by simp [this])).some
/-- begin here -/
theorem SH.here {U : Wd} {b : B0} {μ : Sto} {ρ : List Addr} {G H : Hp} (s : SH U b μ ρ G H) : SH U ⟨H, ρ, G⟩ μ ρ G H :=
  ⟨s.sub, s.ntb, s.len, s.nd, s.ap, s.sto, List.prefix_refl _, fun _ _ e _ _ => e, fun _ e => e, fun _ e => .inl e, Sub.refl _, fun _ h => .inl h, s.tabs, s.sub⟩
theorem SH.trans {U : Wd} {b : B0} {μ μ' : Sto} {ρ ρ' : List Addr} {G G' H H' : Hp} (s : SH U b μ ρ G H) (t : SH U ⟨H, ρ, G⟩ μ' ρ' G' H') : SH U b μ' ρ' G' H' where
  sub := t.sub
  ntb := t.ntb
  len := t.len
  nd := t.nd
  ap := t.ap
  sto := t.sto
  pre := s.pre.trans t.pre
  ext := fun a o e n m => t.ext a o (s.ext a o e n m) n fun z => by
    rcases s.rnew a z with q | q
    · exact m q
    · rw [e] at q; cases q
  dom := fun a e => s.dom a (t.dom a e)
  gnew := fun a e => by
    rcases t.gnew a e with q | q | ⟨c, q⟩ | q
    · rcases s.gnew a q with z | z | ⟨c, z⟩ | z
      · exact .inl z
      · exact .inr (.inl z)
      · exact .inr (.inr (.inl ⟨c, t.gsub _ _ z⟩))
      · exact .inr (.inr (.inr z))
    · exact .inr (.inl (s.dom a q))
    · exact .inr (.inr (.inl ⟨c, q⟩))
    · rcases s.rnew a q with z | z
      · exact .inr (.inr (.inr z))
      · exact .inr (.inl z)
  gsub := s.gsub.trans t.gsub
  rnew := fun p hp => by
    rcases t.rnew p hp with q | q
    · exact s.rnew p q
    · exact .inr (s.dom p q)
  tabs := t.tabs
  b0 := s.b0
end Q
/-! Q3: the judgements and their joints. -/
namespace Q
open PySem PySem.Spec PyProof.Rows L2
abbrev St := L2.St
structure SR (U : Wd) (b : B0) (l : Sl) (μ : Sto) (ρ : List Addr) (G : Hp) (σ : St) (H : Hp) : Prop where
  h : SH U b μ ρ G H
  sl : ∀ (i : Nat) d, l[i]? = some (some d) → ∃ v, σ[i]? = some (some v) ∧ RV U ρ G v d
  ln : l.length = σ.length
/-- an exception as it flies -/
def XR (U : Wd) (ρ : List Addr) (G H : Hp) (x : Ex) (cls : Value) (dd : Option Addr) : Prop :=
  cls = .ref (U.cA x.c) ∧ match x.f with
    | none => dd = none
    | some d => ∃ a v f, dd = some a ∧ H a = some (.xd [(f, v)]) ∧ U.cF x.c = [f] ∧ Rep U G v d
/-- behind an expression -/
def PoE (U : Wd) (b : B0) (W : WX) (sl : Sl) (ρ : List Addr) (G : Hp) (σ : St) (Q : VK) : R D → Prop
  | .ok d μ' => ∀ v H' ρ' G', SR U b sl μ' ρ' G' σ H' → ρ <+: ρ' → Sub G G' → RV U ρ' G' v d → Q v H'
  | .ex x μ' => ∀ cls dd H' ρ' G', SR U b sl μ' ρ' G' σ H' → ρ <+: ρ' → Sub G G' → XR U ρ' G' H' x cls dd → W cls dd σ H'
  | .no => False
def PoA (U : Wd) (b : B0) (W : WX) (sl : Sl) (ρ : List Addr) (G : Hp) (σ : St) (Q : List V → Hp → Prop) : R (List D) → Prop
  | .ok d μ' => ∀ v H' ρ' G', SR U b sl μ' ρ' G' σ H' → ρ <+: ρ' → Sub G G' → RVL U ρ' G' v d → Q v H'
  | .ex x μ' => ∀ cls dd H' ρ' G', SR U b sl μ' ρ' G' σ H' → ρ <+: ρ' → Sub G G' → XR U ρ' G' H' x cls dd → W cls dd σ H'
  | .no => False
def PoT (U : Wd) (b : B0) (W : WX) (sl : Sl) (ρ : List Addr) (G : Hp) (σ : St) (Q : Bool → Hp → Prop) : R Bool → Prop
  | .ok d μ' => ∀ H' ρ' G', SR U b sl μ' ρ' G' σ H' → ρ <+: ρ' → Sub G G' → Q d H'
  | .ex x μ' => ∀ cls dd H' ρ' G', SR U b sl μ' ρ' G' σ H' → ρ <+: ρ' → Sub G G' → XR U ρ' G' H' x cls dd → W cls dd σ H'
  | .no => False
section
variable {U : Wd} {b : B0} {W : WX} {sl : Sl} {ρ ρ1 : List Addr} {G G1 : Hp} {σ : St}
theorem PoE.mono {Q : VK} {r : R D} (hr : ρ <+: ρ1) (hg : Sub G G1) (p : PoE U b W sl ρ G σ Q r) : PoE U b W sl ρ1 G1 σ Q r := by
  cases r with
  | ok d μ => exact fun v H' ρ' G' s h1 h2 => p v H' ρ' G' s (hr.trans h1) (hg.trans h2)
  | ex x μ => exact fun v dd H' ρ' G' s h1 h2 => p v dd H' ρ' G' s (hr.trans h1) (hg.trans h2)
  | no => exact p
theorem PoA.mono {Q : List V → Hp → Prop} {r : R (List D)} (hr : ρ <+: ρ1) (hg : Sub G G1) (p : PoA U b W sl ρ G σ Q r) : PoA U b W sl ρ1 G1 σ Q r := by
  cases r with
  | ok d μ => exact fun v H' ρ' G' s h1 h2 => p v H' ρ' G' s (hr.trans h1) (hg.trans h2)
  | ex x μ => exact fun v dd H' ρ' G' s h1 h2 => p v dd H' ρ' G' s (hr.trans h1) (hg.trans h2)
  | no => exact p
theorem PoT.mono {Q : Bool → Hp → Prop} {r : R Bool} (hr : ρ <+: ρ1) (hg : Sub G G1) (p : PoT U b W sl ρ G σ Q r) : PoT U b W sl ρ1 G1 σ Q r := by
  cases r with
  | ok d μ => exact fun H' ρ' G' s h1 h2 => p H' ρ' G' s (hr.trans h1) (hg.trans h2)
  | ex x μ => exact fun v dd H' ρ' G' s h1 h2 => p v dd H' ρ' G' s (hr.trans h1) (hg.trans h2)
  | no => exact p
end
def RdE (U : Wd) (b : B0) (W : WX) (m : Sl → Sto → R D) : TE := fun σ H Q => ∃ sl μ ρ G, SR U b sl μ ρ G σ H ∧ PoE U b W sl ρ G σ Q (m sl μ)
def RdA (U : Wd) (b : B0) (W : WX) (m : Sl → Sto → R (List D)) : TA := fun σ H Q => ∃ sl μ ρ G, SR U b sl μ ρ G σ H ∧ PoA U b W sl ρ G σ Q (m sl μ)
def RdT (U : Wd) (b : B0) (W : WX) (m : Sl → Sto → R Bool) : TT := fun σ H Q => ∃ sl μ ρ G, SR U b sl μ ρ G σ H ∧ PoT U b W sl ρ G σ Q (m sl μ)
theorem PE.imp {X : Cx} {e : Expr} {t t' : TE} (h : PE X e t) (i : ∀ σ H Q, t' σ H Q → t σ H Q) : PE X e t' := ⟨fun pins s σ H Q I q => h.run pins s σ H Q I (i σ H Q q)⟩
theorem PT.imp {X : Cx} {e : Expr} {t t' : TT} (h : PT X e t) (i : ∀ σ H Q, t' σ H Q → t σ H Q) : PT X e t' := ⟨fun pins s σ H Q I q => h.run pins s σ H Q I (i σ H Q q)⟩
theorem PA.imp {X : Cx} {es : List Expr} {t t' : TA} (h : PA X es t) (i : ∀ σ H Q, t' σ H Q → t σ H Q) : PA X es t' := ⟨fun pos pins s σ H Q I q => h.run pos pins s σ H Q I (i σ H Q q)⟩
section
variable {U : Wd} {b : B0} {W : WX} {sl : Sl} {μ : Sto} {ρ : List Addr} {G H : Hp} {σ : St}
/-- an expression, then more -/
theorem rd_step {α : Type} {Q : VK} {m : Sl → Sto → R D} {k : D → Sto → R D} {C : VK} (s : SR U b sl μ ρ G σ H) (p : PoE U b W sl ρ G σ Q ((m sl μ).bind k))
    (h : ∀ d μ1 v H1 ρ1 G1, SR U b sl μ1 ρ1 G1 σ H1 → ρ <+: ρ1 → Sub G G1 → RV U ρ1 G1 v d → PoE U b W sl ρ1 G1 σ Q (k d μ1) → C v H1) : RdE U b W m σ H C := by
  refine ⟨sl, μ, ρ, G, s, ?_⟩
  cases e : m sl μ with
  | ok d μ1 => rw [e] at p; exact fun v H1 ρ1 G1 s1 hr hg rv => h d μ1 v H1 ρ1 G1 s1 hr hg rv (PoE.mono hr hg p)
  | ex x μ1 => rw [e] at p; exact p
  | no => rw [e] at p; exact p
/-- .. an expression's value asked as a test -/
theorem rd_stepT {Q : Bool → Hp → Prop} {m : Sl → Sto → R D} {k : D → Sto → R Bool} {C : VK} (s : SR U b sl μ ρ G σ H) (p : PoT U b W sl ρ G σ Q ((m sl μ).bind k))
    (h : ∀ d μ1 v H1 ρ1 G1, SR U b sl μ1 ρ1 G1 σ H1 → ρ <+: ρ1 → Sub G G1 → RV U ρ1 G1 v d → PoT U b W sl ρ1 G1 σ Q (k d μ1) → C v H1) : RdE U b W m σ H C := by
  refine ⟨sl, μ, ρ, G, s, ?_⟩
  cases e : m sl μ with
  | ok d μ1 => rw [e] at p; exact fun v H1 ρ1 G1 s1 hr hg rv => h d μ1 v H1 ρ1 G1 s1 hr hg rv (PoT.mono hr hg p)
  | ex x μ1 => rw [e] at p; exact p
  | no => rw [e] at p; exact p
/-- a test, then more -/
theorem rd_test {Q : VK} {m : Sl → Sto → R Bool} {k : Bool → Sto → R D} {C : Bool → Hp → Prop} (s : SR U b sl μ ρ G σ H) (p : PoE U b W sl ρ G σ Q ((m sl μ).bind k))
    (h : ∀ d μ1 H1 ρ1 G1, SR U b sl μ1 ρ1 G1 σ H1 → ρ <+: ρ1 → Sub G G1 → PoE U b W sl ρ1 G1 σ Q (k d μ1) → C d H1) : RdT U b W m σ H C := by
  refine ⟨sl, μ, ρ, G, s, ?_⟩
  cases e : m sl μ with
  | ok d μ1 => rw [e] at p; exact fun H1 ρ1 G1 s1 hr hg => h d μ1 H1 ρ1 G1 s1 hr hg (PoE.mono hr hg p)
  | ex x μ1 => rw [e] at p; exact p
  | no => rw [e] at p; exact p
theorem rd_testT {Q : Bool → Hp → Prop} {m : Sl → Sto → R Bool} {k : Bool → Sto → R Bool} {C : Bool → Hp → Prop} (s : SR U b sl μ ρ G σ H) (p : PoT U b W sl ρ G σ Q ((m sl μ).bind k))
    (h : ∀ d μ1 H1 ρ1 G1, SR U b sl μ1 ρ1 G1 σ H1 → ρ <+: ρ1 → Sub G G1 → PoT U b W sl ρ1 G1 σ Q (k d μ1) → C d H1) : RdT U b W m σ H C := by
  refine ⟨sl, μ, ρ, G, s, ?_⟩
  cases e : m sl μ with
  | ok d μ1 => rw [e] at p; exact fun H1 ρ1 G1 s1 hr hg => h d μ1 H1 ρ1 G1 s1 hr hg (PoT.mono hr hg p)
  | ex x μ1 => rw [e] at p; exact p
  | no => rw [e] at p; exact p
/-- arguments, then more -/
theorem rd_args {Q : VK} {m : Sl → Sto → R (List D)} {k : List D → Sto → R D} {C : List V → Hp → Prop} (s : SR U b sl μ ρ G σ H) (p : PoE U b W sl ρ G σ Q ((m sl μ).bind k))
    (h : ∀ ds μ1 vs H1 ρ1 G1, SR U b sl μ1 ρ1 G1 σ H1 → ρ <+: ρ1 → Sub G G1 → RVL U ρ1 G1 vs ds → PoE U b W sl ρ1 G1 σ Q (k ds μ1) → C vs H1) : RdA U b W m σ H C := by
  refine ⟨sl, μ, ρ, G, s, ?_⟩
  cases e : m sl μ with
  | ok d μ1 => rw [e] at p; exact fun v H1 ρ1 G1 s1 hr hg rv => h d μ1 v H1 ρ1 G1 s1 hr hg rv (PoE.mono hr hg p)
  | ex x μ1 => rw [e] at p; exact p
  | no => rw [e] at p; exact p
theorem rd_stepA {Q : List V → Hp → Prop} {m : Sl → Sto → R D} {k : D → Sto → R (List D)} {C : VK} (s : SR U b sl μ ρ G σ H) (p : PoA U b W sl ρ G σ Q ((m sl μ).bind k))
    (h : ∀ d μ1 v H1 ρ1 G1, SR U b sl μ1 ρ1 G1 σ H1 → ρ <+: ρ1 → Sub G G1 → RV U ρ1 G1 v d → PoA U b W sl ρ1 G1 σ Q (k d μ1) → C v H1) : RdE U b W m σ H C := by
  refine ⟨sl, μ, ρ, G, s, ?_⟩
  cases e : m sl μ with
  | ok d μ1 => rw [e] at p; exact fun v H1 ρ1 G1 s1 hr hg rv => h d μ1 v H1 ρ1 G1 s1 hr hg rv (PoA.mono hr hg p)
  | ex x μ1 => rw [e] at p; exact p
  | no => rw [e] at p; exact p
theorem rd_argsA {Q : List V → Hp → Prop} {m : Sl → Sto → R (List D)} {k : List D → Sto → R (List D)} {C : List V → Hp → Prop} (s : SR U b sl μ ρ G σ H) (p : PoA U b W sl ρ G σ Q ((m sl μ).bind k))
    (h : ∀ ds μ1 vs H1 ρ1 G1, SR U b sl μ1 ρ1 G1 σ H1 → ρ <+: ρ1 → Sub G G1 → RVL U ρ1 G1 vs ds → PoA U b W sl ρ1 G1 σ Q (k ds μ1) → C vs H1) : RdA U b W m σ H C := by
  refine ⟨sl, μ, ρ, G, s, ?_⟩
  cases e : m sl μ with
  | ok d μ1 => rw [e] at p; exact fun v H1 ρ1 G1 s1 hr hg rv => h d μ1 v H1 ρ1 G1 s1 hr hg rv (PoA.mono hr hg p)
  | ex x μ1 => rw [e] at p; exact p
  | no => rw [e] at p; exact p
/-- the end of a pure step -/
theorem PoE.fin {Q : VK} {d : D} {v : V} (p : PoE U b W sl ρ G σ Q (.ok d μ)) (s : SR U b sl μ ρ G σ H) (r : RV U ρ G v d) : Q v H := p v H ρ G s (List.prefix_refl _) (Sub.refl _) r
theorem PoT.fin {Q : Bool → Hp → Prop} {d : Bool} (p : PoT U b W sl ρ G σ Q (.ok d μ)) (s : SR U b sl μ ρ G σ H) : Q d H := p H ρ G s (List.prefix_refl _) (Sub.refl _)
theorem PoA.fin {Q : List V → Hp → Prop} {ds : List D} {vs : List V} (p : PoA U b W sl ρ G σ Q (.ok ds μ)) (s : SR U b sl μ ρ G σ H) (r : RVL U ρ G vs ds) : Q vs H := p vs H ρ G s (List.prefix_refl _) (Sub.refl _) r
theorem sub_upd {p : Addr} {o : HO} (h : G p = none) : Sub G (upd G p o) := fun a u e => by rw [upd_ne (ne_of_none e h)]; exact e
theorem tabsN_upd {T : List NdefX.NTab} {p : Addr} {o : HO} (h : NdefX.TabsN T H) (hp : H p = none) : NdefX.TabsN T (upd H p o) := h.ext fun a u e => by rw [upd_ne (ne_of_none e hp)]; exact e
/-- a new thing that will not change -/
theorem SH.alloc {p : Addr} {o : HO} (s : SH U b μ ρ G H) (hp : H p = none) (ho : ∀ ps, o ≠ .tbl ps) : SH U b μ ρ (upd G p o) (upd H p o) := by
  have gp : G p = none := by
    cases e : G p with
    | none => rfl
    | some u => rw [s.sub p u e] at hp; cases hp
  have rp : p ∉ ρ := fun z => s.rsome z hp
  refine ⟨fun a u e => ?_, fun a ps e => ?_, s.len, s.nd, fun i q u h1 h2 h3 => ?_, fun i q u h1 h2 => ?_, s.pre, fun a u e n m => ?_, fun a e => ?_, fun a e => ?_, s.gsub.trans (sub_upd gp), s.rnew, tabsN_upd s.tabs hp, s.b0⟩
  · by_cases h : a = p
    · subst h; rw [upd_same] at e ⊢; exact e
    · rw [upd_ne h] at e ⊢; exact s.sub a u e
  · by_cases h : a = p
    · subst h; rw [upd_same] at e; exact ho ps (Option.some.inj e)
    · rw [upd_ne h] at e; exact s.ntb a ps e
  · have hq : q ∈ ρ := List.mem_of_getElem? h1
    rw [upd_ne (show q ≠ p from fun z => rp (z ▸ hq))]; exact s.ap i q u h1 h2 h3
  · have hq : q ∈ ρ := List.mem_of_getElem? h1
    exact (s.sto i q u h1 h2).mono (List.prefix_refl _) (sub_upd gp) (upd_ne (show q ≠ p from fun z => rp (z ▸ hq)))
  · have h1 := s.ext a u e n m
    rw [upd_ne (ne_of_none h1 hp)]; exact h1
  · by_cases h : a = p
    · subst h; rw [upd_same] at e; cases e
    · rw [upd_ne h] at e; exact s.dom a e
  · by_cases h : a = p
    · subst h; exact .inr (.inl (s.dom a hp))
    · rw [upd_ne h] at e ⊢; exact s.gnew a e
theorem SH.gfree {p : Addr} (s : SH U b μ ρ G H) (hp : H p = none) : G p = none := by
  cases e : G p with
  | none => rfl
  | some u => rw [s.sub p u e] at hp; cases hp
theorem SR.alloc {p : Addr} {o : HO} (s : SR U b sl μ ρ G σ H) (hp : H p = none) (ho : ∀ ps, o ≠ .tbl ps) : SR U b sl μ ρ (upd G p o) σ (upd H p o) :=
  ⟨s.h.alloc hp ho, fun i d e => let ⟨v, h1, h2⟩ := s.sl i d e; ⟨v, h1, h2.mono (List.prefix_refl _) (sub_upd (s.h.gfree hp))⟩, s.ln⟩
/-- the heap goes on -/
theorem SR.on {μ' : Sto} {ρ' : List Addr} {G' H' : Hp} (s : SR U b sl μ ρ G σ H) (t : SH U ⟨H, ρ, G⟩ μ' ρ' G' H') : SR U b sl μ' ρ' G' σ H' :=
  ⟨s.h.trans t, fun i d e => let ⟨v, h1, h2⟩ := s.sl i d e; ⟨v, h1, h2.mono t.pre t.gsub⟩, s.ln⟩
theorem SR.set {i : Nat} {v : V} {d : D} (s : SR U b sl μ ρ G σ H) (r : RV U ρ G v d) : SR U b (sl.set i (some d)) μ ρ G (σ.set i (some v)) H := by
  refine ⟨s.h, fun j e h => ?_, by rw [List.length_set, List.length_set]; exact s.ln⟩
  by_cases hj : i = j
  · subst hj
    by_cases hi : i < sl.length
    · rw [List.getElem?_set_self hi] at h
      cases h
      exact ⟨v, List.getElem?_set_self (by rw [← s.ln]; exact hi), r⟩
    · rw [List.getElem?_eq_none (by rw [List.length_set]; omega)] at h; cases h
  · rw [List.getElem?_set_ne hj] at h
    rw [List.getElem?_set_ne hj]
    exact s.sl j e h
theorem SR.unset {i : Nat} {o : Option V} (s : SR U b sl μ ρ G σ H) : SR U b (sl.set i none) μ ρ G (σ.set i o) H := by
  refine ⟨s.h, fun j e h => ?_, by rw [List.length_set, List.length_set]; exact s.ln⟩
  by_cases hj : i = j
  · subst hj
    by_cases hi : i < sl.length
    · rw [List.getElem?_set_self hi] at h; cases h
    · rw [List.getElem?_eq_none (by rw [List.length_set]; omega)] at h; cases h
  · rw [List.getElem?_set_ne hj] at h
    rw [List.getElem?_set_ne hj]
    exact s.sl j e h
end
end Q
/-! Q4: operations on values. -/
namespace Q
open PySem PySem.Spec PyProof.Rows L2
structure XU (X : Cx) (U : Wd) : Prop where
  P : X.prog = U.P
  w : X.w = U.w
  K : X.K = U.K
  mg : X.mg = U.mg
  base : X.base = U.base
section
variable {U : Wd} {b : B0} {W : WX} {sl : Sl} {μ : Sto} {ρ : List Addr} {G H : Hp} {σ : St} {v : V} {d : D} {ds : List D}
theorem view_ref {i : Nat} : (∃ xs, μ[i]? = some (.lst xs) ∧ view μ (.ref i) = .lst xs) ∨ (∃ xs, μ[i]? = some (.dct xs) ∧ view μ (.ref i) = .dct xs) ∨ (∃ xs, μ[i]? = some (.set xs) ∧ view μ (.ref i) = .set xs) ∨ view μ (.ref i) = .ref i := by
  cases q : μ[i]? with
  | none => simp [view, q]
  | some o => cases o <;> simp [view, q]
theorem view_lst (s : SH U b μ ρ G H) (r : RV U ρ G v d) (e : view μ d = .lst ds) : ∃ a xs, v = .ref a ∧ SqL U.K H a xs ∧ RepL U G xs ds := by
  cases r with
  | @ref i a h =>
    rcases view_ref (μ := μ) (i := i) with ⟨xs, h1, h2⟩ | ⟨xs, h1, h2⟩ | ⟨xs, h1, h2⟩ | h2 <;> rw [h2] at e <;> cases e
    obtain ⟨xs, h3, h4⟩ := s.sto i a _ h h1
    exact ⟨a, xs, rfl, .inl (.inl h3), h4⟩
  | pure r =>
    cases r with
    | lst h l => cases e; exact ⟨_, _, rfl, .inl (.inl (s.sub _ _ h)), l⟩
    | slst h l => cases e; exact ⟨_, _, rfl, s.sub.sqL h, l⟩
    | _ => cases e
  | nfn => cases e
  | clo => cases e
theorem view_tup (s : SH U b μ ρ G H) (r : RV U ρ G v d) (e : view μ d = .tup ds) : ∃ a xs, v = .ref a ∧ SqT U.K H a xs ∧ RepL U G xs ds := by
  cases r with
  | @ref i a h => rcases view_ref (μ := μ) (i := i) with ⟨xs, h1, h2⟩ | ⟨xs, h1, h2⟩ | ⟨xs, h1, h2⟩ | h2 <;> rw [h2] at e <;> cases e
  | pure r =>
    cases r with
    | tup h l => cases e; exact ⟨_, _, rfl, s.sub.sqT h, l⟩
    | _ => cases e
  | nfn => cases e
  | clo => cases e
/-- what is no sequence is itself -/
theorem view_non (r : RV U ρ G v d) (e : view μ d = .non) : v = .non := by
  cases r with
  | @ref i a h => rcases view_ref (μ := μ) (i := i) with ⟨xs, h1, h2⟩ | ⟨xs, h1, h2⟩ | ⟨xs, h1, h2⟩ | h2 <;> rw [h2] at e <;> cases e
  | pure r =>
    cases r with
    | non => rfl
    | _ => cases e
  | nfn => cases e
  | clo => cases e
theorem view_bl {k : Bool} (r : RV U ρ G v d) (e : view μ d = .bl k) : v = .bl k := by
  cases r with
  | @ref i a h => rcases view_ref (μ := μ) (i := i) with ⟨xs, h1, h2⟩ | ⟨xs, h1, h2⟩ | ⟨xs, h1, h2⟩ | h2 <;> rw [h2] at e <;> cases e
  | pure r =>
    cases r with
    | bl b => cases e; rfl
    | _ => cases e
  | nfn => cases e
  | clo => cases e
theorem view_int {k : Int} (r : RV U ρ G v d) (e : view μ d = .int k) : v = .int k := by
  cases r with
  | @ref i a h => rcases view_ref (μ := μ) (i := i) with ⟨xs, h1, h2⟩ | ⟨xs, h1, h2⟩ | ⟨xs, h1, h2⟩ | h2 <;> rw [h2] at e <;> cases e
  | pure r =>
    cases r with
    | int b => cases e; rfl
    | _ => cases e
  | nfn => cases e
  | clo => cases e
theorem view_str {k : Str} (r : RV U ρ G v d) (e : view μ d = .str k) : v = .str k := by
  cases r with
  | @ref i a h => rcases view_ref (μ := μ) (i := i) with ⟨xs, h1, h2⟩ | ⟨xs, h1, h2⟩ | ⟨xs, h1, h2⟩ | h2 <;> rw [h2] at e <;> cases e
  | pure r =>
    cases r with
    | str b => cases e; rfl
    | _ => cases e
  | nfn => cases e
  | clo => cases e
theorem view_dct {kvs : List (D × D)} (s : SH U b μ ρ G H) (r : RV U ρ G v d) (e : view μ d = .dct kvs) : Rep U G v (.dct kvs) := by
  cases r with
  | @ref i a h =>
    rcases view_ref (μ := μ) (i := i) with ⟨xs, h1, h2⟩ | ⟨xs, h1, h2⟩ | ⟨xs, h1, h2⟩ | h2 <;> rw [h2] at e <;> cases e
    exact (s.sto i a _ h h1).elim
  | pure r =>
    cases r with
    | kdct h n l => cases e; exact .kdct h n l
    | _ => cases e
  | nfn => cases e
  | clo => cases e
mutual
theorem rep_dp (hs : Sub G H) : ∀ {v : V} {d : D} {p : PyData}, Rep U G v d → d.py = some p → Dp U.K H v p
  | _, _, _, .non, e => by cases e; exact .non
  | _, _, _, .bl b, e => by cases e; exact .bl b
  | _, _, _, .int i, e => by cases e; exact .int i
  | _, _, _, .str x, e => by cases e; exact .str x
  | _, _, _, .tup h l, e => by
    unfold D.py at e
    obtain ⟨ps, e1, e2⟩ := Option.map_eq_some_iff.mp e
    subst e2
    exact .tup (hs.sqT h) (repL_dp hs l e1)
  | _, _, _, .lst h l, e => by
    unfold D.py at e
    obtain ⟨ps, e1, e2⟩ := Option.map_eq_some_iff.mp e
    subst e2
    exact .lst (.inl (.inl (hs _ _ h))) (repL_dp hs l e1)
  | _, _, _, .slst h l, e => by
    unfold D.py at e
    obtain ⟨ps, e1, e2⟩ := Option.map_eq_some_iff.mp e
    subst e2
    exact .lst (hs.sqL h) (repL_dp hs l e1)
  | _, _, _, .ty _, e => by cases e
  | _, _, _, .cls _, e => by cases e
  | _, _, _, .fn _, e => by cases e
  | _, _, _, .ins _ _ _, e => by cases e
  | _, _, _, .kdct _ _ _, e => by cases e
  | _, _, _, .set _ _ _ _, e => by cases e
theorem repL_dp (hs : Sub G H) : ∀ {vs : List V} {ds : List D} {ps : List PyData}, RepL U G vs ds → D.pys ds = some ps → DpAll U.K H vs ps
  | _, _, _, .nil, e => by cases e; exact .nil
  | _, _, _, .cons r t, e => by
    unfold D.pys at e
    obtain ⟨p, e1, e2⟩ := Option.bind_eq_some_iff.mp e
    obtain ⟨ps, e3, e4⟩ := Option.map_eq_some_iff.mp e2
    subst e4
    exact .cons (rep_dp hs r e1) (repL_dp hs t e3)
end
theorem view_dp {p : PyData} (s : SH U b μ ρ G H) (r : RV U ρ G v d) (e : (view μ d).py = some p) : Dp U.K H v p := by
  cases r with
  | @ref i a h =>
    rcases view_ref (μ := μ) (i := i) with ⟨xs, h1, h2⟩ | ⟨xs, h1, h2⟩ | ⟨xs, h1, h2⟩ | h2 <;> rw [h2] at e
    · unfold D.py at e
      obtain ⟨ps, e1, e2⟩ := Option.map_eq_some_iff.mp e
      subst e2
      obtain ⟨ys, h3, h4⟩ := s.sto i a _ h h1
      exact .lst (.inl (.inl h3)) (repL_dp s.sub h4 e1)
    · cases e
    · cases e
    · cases e
  | pure r =>
    have e' : d.py = some p := by
      cases r with
      | slst h l => simpa [view, D.py] using e
      | _ => exact e
    exact rep_dp s.sub r e'
  | nfn => cases e
  | clo => cases e
end
theorem lim_line : (lim : Nat) = sizeLine := sizeLine_eq.symm
/-- an operation's reading: values that stand for data, and the operation on data -/
def rOp (U : Wd) (b : B0) (W : WX) (f : Sto → D → D → R D) : R2 := fun x y H Q => ∃ sl μ ρ G σ d d', SR U b sl μ ρ G σ H ∧ RV U ρ G x d ∧ RV U ρ G y d' ∧ PoE U b W sl ρ G σ Q (f μ d d')
theorem PoE.of {U : Wd} {b : B0} {W : WX} {sl : Sl} {μ : Sto} {ρ : List Addr} {G : Hp} {σ : St} {Q : VK} {o : Option D} (p : PoE U b W sl ρ G σ Q (R.of o μ)) : ∃ d, o = some d ∧ PoE U b W sl ρ G σ Q (.ok d μ) := by
  cases o with
  | none => exact False.elim p
  | some d => exact ⟨d, rfl, p⟩
theorem opr_bin {X : Cx} {U : Wd} {b : B0} {W : WX} (hX : XU X U) (op : Operator) : OpR X (binaryOp op) (rOp U b W fun μ x y => R.of (binD op x y) μ) := by
  intro pins s σ H x y v u Q I rx ry h
  obtain ⟨sl, μ, ρ, G, σ', d, d', S, r1, r2, p⟩ := h
  obtain ⟨e, he, pp⟩ := p.of
  clear p
  unfold binD at he
  split at he
  · cases he
    cases r1.isP rfl; cases r2.isP rfl
    exact op_add pins s σ H _ _ v u Q I rx ry ⟨_, _, rfl, rfl, pp.fin S (.pure (.int _))⟩
  · split at he
    · rename_i hz
      cases he
      cases r1.isP rfl; cases r2.isP rfl
      exact op_add_str pins s σ H _ _ v u Q I rx ry ⟨_, _, rfl, rfl, by rw [← lim_line]; exact hz, pp.fin S (.pure (.str _))⟩
    · cases he
  · split at he
    · rename_i hz
      cases he
      cases r1.isP rfl with
      | lst h1 l1 =>
        cases r2.isP rfl with
        | lst h2 l2 =>
          refine op_cat pins s σ H _ _ v u Q I rx ry ⟨_, _, _, _, rfl, rfl, S.h.sub _ _ h1, S.h.sub _ _ h2, by rw [← lim_line, l1.length, l2.length]; exact hz, fun q hq => ?_⟩
          have hg := S.h.gfree hq
          exact pp _ _ ρ _ (S.alloc hq (fun _ z => by cases z)) (List.prefix_refl _) (sub_upd hg) (.pure (.lst upd_same ((l1.append l2).mono (sub_upd hg))))
    · cases he
  · split at he
    · rename_i hz
      cases he
      cases r1.isP rfl with
      | tup h1 l1 =>
        cases r2.isP rfl with
        | tup h2 l2 =>
          refine op_catA pins s σ H _ _ v u Q I rx ry ⟨_, _, _, _, rfl, rfl, by rw [hX.K]; exact S.h.sub.sqT h1, by rw [hX.K]; exact S.h.sub.sqT h2, by rw [← lim_line, l1.length, l2.length]; exact hz, fun q => ?_, fun _ q => ?_, fun _ _ q hq => ?_⟩
          · subst q; cases l1; exact pp.fin S (.pure (.tup h2 (by simpa using l2)))
          · subst q; cases l2; exact pp.fin S (.pure (.tup h1 (by simpa using l1)))
          · have hg := S.h.gfree hq
            exact pp _ _ ρ _ (S.alloc hq (fun _ z => by cases z)) (List.prefix_refl _) (sub_upd hg) (.pure (.tup (SqT.of upd_same) ((l1.append l2).mono (sub_upd hg))))
    · cases he
  · cases he
    cases r1.isP rfl; cases r2.isP rfl
    exact op_sub pins s σ H _ _ v u Q I rx ry ⟨_, _, rfl, rfl, pp.fin S (.pure (.int _))⟩
  · split at he
    · rename_i hz
      cases he
      cases r1.isP rfl; cases r2.isP rfl
      refine op_mul pins s σ H _ _ v u Q I rx ry ⟨_, _, rfl, rfl, ?_, pp.fin S (.pure (.int _))⟩
      simpa [CMul] using hz
    · cases he
  · split at he
    · rename_i hz
      cases he
      cases r1.isP rfl; cases r2.isP rfl
      exact op_mod pins s σ H _ _ v u Q I rx ry ⟨_, _, rfl, rfl, hz, pp.fin S (.pure (.int _))⟩
    · cases he
  · split at he
    · rename_i hz
      cases he
      cases r1.isP rfl; cases r2.isP rfl
      exact op_fdiv pins s σ H _ _ v u Q I rx ry ⟨_, _, rfl, rfl, hz, pp.fin S (.pure (.int _))⟩
    · cases he
  · cases he
end Q
/-! Q5: comparisons, subscripts, slices, truth, len. -/
namespace Q
open PySem PySem.Spec PyProof.Rows L2
theorem PoE.ofB {U : Wd} {b : B0} {W : WX} {sl : Sl} {μ : Sto} {ρ : List Addr} {G : Hp} {σ : St} {Q : VK} {o : Option Bool} (p : PoE U b W sl ρ G σ Q (R.of (o.map D.bl) μ)) : ∃ d, o = some d ∧ PoE U b W sl ρ G σ Q (.ok (.bl d) μ) := by
  cases o with
  | none => exact False.elim p
  | some d => exact ⟨d, rfl, p⟩
section
variable {X : Cx} {U : Wd} {b : B0} {W : WX}
theorem rep_nonB {ρ : List Addr} {G : Hp} {v : V} {d : D} (r : RV U ρ G v d) : decide (v = .non) = isNon d := by
  cases r with
  | ref e => simp [isNon]
  | nfn => simp [isNon]
  | clo => simp [isNon]
  | pure r => cases r <;> simp [isNon]
theorem opr_cmp (hX : XU X U) (hu : X.A.units + 64 < cLine) (op : CmpOp) : OpR X (compareOp op) (rOp U b W fun μ x y => R.of ((cmpD op μ x y).map .bl) μ) := by
  intro pins s σ H x y v u Q I rx ry h
  obtain ⟨sl, μ, ρ, G, σ', d, d', S, r1, r2, p⟩ := h
  obtain ⟨e, he, pp⟩ := p.ofB
  clear p
  have key : ∀ {k : Bool}, eqD μ d d' = some k → ∃ p q, Dp X.K H x p ∧ Dp X.K H y q ∧ SeqAt.shaped p = true ∧ SeqAt.shaped q = true ∧ k = PyData.eqv p q := fun {k} h => by
    unfold eqD at h
    split at h
    · rename_i p q e1 e2
      split at h
      · rename_i hs
        rw [Bool.and_eq_true] at hs
        cases h
        rw [hX.K]
        exact ⟨p, q, view_dp S.h r1 e1, view_dp S.h r2 e2, hs.1, hs.2, rfl⟩
      · cases h
    · cases h
  cases op with
  | Eq =>
    obtain ⟨p', q', h1, h2, s1, s2, rfl⟩ := key he
    exact op_eqD hu pins s σ H x y v u Q I rx ry ⟨p', q', h1, h2, s1, s2, pp.fin S (.pure (.bl _))⟩
  | NotEq =>
    obtain ⟨k, hk, rfl⟩ := Option.map_eq_some_iff.mp (show (eqD μ d d').map (!·) = some e from he)
    obtain ⟨p', q', h1, h2, s1, s2, rfl⟩ := key hk
    exact op_neD hu pins s σ H x y v u Q I rx ry ⟨p', q', h1, h2, s1, s2, pp.fin S (.pure (.bl _))⟩
  | Lt =>
    unfold cmpD at he
    dsimp only at he
    split at he
    · cases he; cases r1.isP rfl; cases r2.isP rfl
      exact op_lt pins s σ H _ _ v u Q I rx ry ⟨_, _, rfl, rfl, pp.fin S (.pure (.bl _))⟩
    · cases he
  | LtE =>
    unfold cmpD at he
    dsimp only at he
    split at he
    · cases he; cases r1.isP rfl; cases r2.isP rfl
      exact op_le pins s σ H _ _ v u Q I rx ry ⟨_, _, rfl, rfl, pp.fin S (.pure (.bl _))⟩
    · cases he
  | Gt =>
    unfold cmpD at he
    dsimp only at he
    split at he
    · cases he; cases r1.isP rfl; cases r2.isP rfl
      exact op_gt pins s σ H _ _ v u Q I rx ry ⟨_, _, rfl, rfl, pp.fin S (.pure (.bl _))⟩
    · cases he
  | GtE =>
    unfold cmpD at he
    dsimp only at he
    split at he
    · cases he; cases r1.isP rfl; cases r2.isP rfl
      exact op_ge pins s σ H _ _ v u Q I rx ry ⟨_, _, rfl, rfl, pp.fin S (.pure (.bl _))⟩
    · cases he
  | Is =>
    unfold cmpD at he
    dsimp only at he
    split at he
    · cases r2.isP rfl
      have e1 := rep_nonB r1
      have e2 := Option.some.inj he
      refine op_isN pins s σ H _ _ v u Q I rx ry ⟨rfl, ?_⟩
      rw [e1, e2]
      exact pp.fin S (.pure (.bl _))
    · cases he
  | IsNot =>
    unfold cmpD at he
    dsimp only at he
    split at he
    · cases r2.isP rfl
      have e1 := rep_nonB r1
      have e2 := Option.some.inj he
      refine op_notN pins s σ H _ _ v u Q I rx ry ⟨rfl, ?_⟩
      rw [e1]
      rw [e2]
      exact pp.fin S (.pure (.bl _))
    · cases he
  | In => cases he
  | NotIn => cases he
/-- a written dict asked at a text -/
theorem kdct_get {a : Addr} {z : Str} : ∀ {ks : List Str} {vs : List V} {ds : List D} {G : Hp}, ks.length = ds.length → RepL U G vs ds →
    (∀ d, getK ((ks.map D.str).zip ds) (.str z) = some d → ∃ v, (ks.zip vs).lookup z = some v ∧ Rep U G v d) ∧ (getK ((ks.map D.str).zip ds) (.str z) = none → (ks.zip vs).lookup z = none)
  | [], _, _, _, _, _ => ⟨fun d h => by simp [getK] at h, fun _ => by simp⟩
  | k :: ks, _, _, _, hl, .nil => by simp at hl
  | k :: ks, v :: vs, d :: ds, G, hl, .cons r t => by
    obtain ⟨i1, i2⟩ := kdct_get (z := z) (a := a) (ks := ks) (by simpa using hl) t
    have e1 : keyEq (.str k) (.str z) = (k == z) := rfl
    rw [List.map_cons, List.zip_cons_cons, List.zip_cons_cons, List.lookup_cons]
    unfold getK at *
    rw [List.find?_cons]
    simp only [e1]
    cases q : (k == z) with
    | true =>
      have q' : (z == k) = true := by rw [beq_iff_eq] at q ⊢; exact q.symm
      rw [q']
      refine ⟨fun d' h => ?_, fun h => ?_⟩
      · simp at h; subst h; exact ⟨v, rfl, r⟩
      · simp at h
    | false =>
      have q' : (z == k) = false := by rw [beq_eq_false_iff_ne] at q ⊢; exact Ne.symm q
      rw [q']
      exact ⟨fun d' h => i1 d' (by simpa using h), fun h => i2 (by simpa using h)⟩
theorem opr_in (hX : XU X U) (hu : X.A.units + 65 < cLine) (neg : Bool) : OpR X (compareOp (if neg then .NotIn else .In)) (rOp U b W fun μ x y => R.of (((inD μ x y).map fun k => if neg then !k else k).map .bl) μ) := by
  intro pins s σ H x y v u Q I rx ry h
  obtain ⟨sl, μ, ρ, G, σ', d, d', S, r1, r2, p⟩ := h
  obtain ⟨e, he, pp⟩ := p.ofB
  clear p
  obtain ⟨k, hk, rfl⟩ := Option.map_eq_some_iff.mp he
  have hK := hX.K
  unfold inD at hk
  split at hk
  · rename_i ys ev
    split at hk
    · rename_i q ps e1 e2
      split at hk
      · rename_i hs
        rw [Bool.and_eq_true] at hs
        cases hk
        have hy : (view μ d').py = some (.list ps) := by rw [ev]; unfold D.py; rw [e2]; rfl
        have h1 := view_dp S.h r1 e1
        have h2 := view_dp S.h r2 hy
        rw [← hK] at h1 h2
        cases neg with
        | false => exact op_inD hu pins s σ H x y v u Q I rx ry ⟨q, ps, h1, h2, hs.1, hs.2, pp.fin S (.pure (.bl _))⟩
        | true => exact op_notInD hu pins s σ H x y v u Q I rx ry ⟨q, ps, h1, h2, hs.1, hs.2, pp.fin S (.pure (.bl _))⟩
      · cases hk
    · cases hk
  · rename_i ys ev
    split at hk
    · rename_i q ps e1 e2
      split at hk
      · rename_i hs
        rw [Bool.and_eq_true] at hs
        cases hk
        have hy : (view μ d').py = some (.tuple ps) := by rw [ev]; unfold D.py; rw [e2]; rfl
        have h1 := view_dp S.h r1 e1
        have h2 := view_dp S.h r2 hy
        rw [← hK] at h1 h2
        obtain ⟨as, g1⟩ := Dp.reads I q x v h1 rx
        obtain ⟨bs, g2⟩ := Dp.reads I (.tuple ps) y u h2 ry
        cases neg with
        | false => exact SeqAt.in_tuple_reads g2 g1 (SeqAt.canLay_of_shaped hs.2) (SeqAt.canLay_of_shaped hs.1) (room_in_shaped hs.1 hu) ⟨.bl _, H, I, rfl, pp.fin S (.pure (.bl _))⟩
        | true => exact SeqAt.notIn_tuple_reads g2 g1 (SeqAt.canLay_of_shaped hs.2) (SeqAt.canLay_of_shaped hs.1) (room_in_shaped hs.1 hu) ⟨.bl _, H, I, rfl, pp.fin S (.pure (.bl _))⟩
      · cases hk
    · cases hk
  · rename_i kvs ev
    split at hk
    · rename_i z
      cases hk
      cases r1.isP rfl
      cases view_dct S.h r2 ev with
      | @kdct a ks vs ds hd hl hr =>
        obtain ⟨es, n, hkd, ha⟩ := hd
        obtain ⟨o, ho, ro⟩ := ha z
        rw [← hK, ← hX.w] at hkd
        rw [← hK] at ho
        have hi : o.isSome = (getK ((ks.map D.str).zip ds) (.str z)).isSome := by
          obtain ⟨g1, g2⟩ := kdct_get (U := U) (a := a) (z := z) hl hr
          cases q : getK ((ks.map D.str).zip ds) (.str z) with
          | none => rw [g2 q] at ro; cases o with
            | none => rfl
            | some u => exact ro.elim
          | some dd =>
            obtain ⟨vv, e1, _⟩ := g1 dd q
            rw [e1] at ro; cases o with
            | none => exact ro.elim
            | some u => rfl
        cases neg with
        | false => exact op_in_kd hkd pins s σ H _ _ v u Q I rx ry ⟨z, o, rfl, rfl, ho, by rw [hi]; exact pp.fin S (.pure (.bl _))⟩
        | true => exact op_notIn_kd hkd pins s σ H _ _ v u Q I rx ry ⟨z, o, rfl, rfl, ho, by rw [hi]; exact pp.fin S (.pure (.bl _))⟩
    · cases hk
  · cases hk
theorem ixr_sub (hX : XU X U) : IxR X (rOp U b W fun μ x y => R.of (subD μ x y) μ) := by
  intro value slice pins s σ H x y v u Q I rx ry h hs
  obtain ⟨sl, μ, ρ, G, σ', d, d', S, r1, r2, p⟩ := h
  obtain ⟨e, he, pp⟩ := p.of
  clear p
  have hK := hX.K
  unfold subD at he
  split at he
  · rename_i xs i ev
    cases r2.isP rfl
    obtain ⟨a, ws, rfl, hq, hl⟩ := view_lst S.h r1 ev
    obtain ⟨j, h1, h2, _⟩ := atI_get he
    obtain ⟨w', h3, h4⟩ := hl.get h2
    have ha : atI ws i = some w' := by
      unfold atI at he ⊢
      rw [hl.length]
      cases q : ixN xs.length i with
      | none => rw [q] at he; cases he
      | some j' =>
        rw [q] at he
        obtain ⟨w2, h5, h6⟩ := hl.get (show xs[j']? = some e from he)
        have : j' = j := by
          obtain ⟨q1, _⟩ := ixN_seq q
          rw [h1] at q1; cases q1; rfl
        subst this
        exact h3
    exact ix_list value slice pins s σ H _ _ v u Q I rx ry ⟨a, ws, i, w', rfl, rfl, by rw [hK]; exact hq, ha, pp.fin S (.pure h4)⟩ hs
  · rename_i xs i ev
    cases r2.isP rfl
    obtain ⟨a, ws, rfl, hq, hl⟩ := view_tup S.h r1 ev
    obtain ⟨j, h1, h2, _⟩ := atI_get he
    obtain ⟨w', h3, h4⟩ := hl.get h2
    have ha : atI ws i = some w' := by
      unfold atI at he ⊢
      rw [hl.length]
      cases q : ixN xs.length i with
      | none => rw [q] at he; cases he
      | some j' =>
        have : j' = j := by
          obtain ⟨q1, _⟩ := ixN_seq q
          rw [h1] at q1; cases q1; rfl
        subst this
        exact h3
    exact ix_tup value slice pins s σ H _ _ v u Q I rx ry ⟨a, ws, i, w', rfl, rfl, by rw [hK]; exact hq, ha, pp.fin S (.pure h4)⟩ hs
  · rename_i z i ev
    split at he
    · rename_i hz
      cases r2.isP rfl
      obtain rfl := view_str r1 ev
      obtain ⟨c, hc, rfl⟩ := Option.map_eq_some_iff.mp he
      exact ix_str value slice pins s σ H _ _ v u Q I rx ry ⟨z, i, c, rfl, rfl, by rw [← lim_line]; exact hz, hc, pp.fin S (.pure (.str _))⟩ hs
    · cases he
  · rename_i kvs k ev
    cases r2.isP rfl
    cases view_dct S.h r1 ev with
    | @kdct a ks vs ds hd hl hr =>
      obtain ⟨es, n, hkd, ha⟩ := hd
      obtain ⟨o, ho, ro⟩ := ha k
      obtain ⟨g1, _⟩ := kdct_get (U := U) (a := a) (z := k) hl hr
      obtain ⟨vv, e1, rr⟩ := g1 e he
      rw [e1] at ro
      obtain ⟨u0, rfl, ru⟩ := RelO.some_of ro
      refine ix_kdict value slice pins s σ H _ _ v u Q I rx ry ⟨a, k, vv, rfl, rfl, ⟨es, n, u0, ?_, ?_, ?_, ru⟩, pp.fin S (.pure rr)⟩ hs
      · rw [hK]; exact hkd.at_
      · rw [hX.w]; exact hkd.lit
      · rw [hK]; exact ho
  · cases he
end
end Q
/-! Q6: expressions and tests. -/
namespace Q
open PySem PySem.Spec PyProof.Rows L2
abbrev JE (X : Cx) (U : Wd) (b : B0) (W : WX) (e : Expr) (m : Sl → Sto → R D) : Prop := PE X e (RdE U b W m)
abbrev JA (X : Cx) (U : Wd) (b : B0) (W : WX) (es : List Expr) (m : Sl → Sto → R (List D)) : Prop := PA X es (RdA U b W m)
abbrev JT (X : Cx) (U : Wd) (b : B0) (W : WX) (e : Expr) (m : Sl → Sto → R Bool) : Prop := PT X e (RdT U b W m)
section
variable {X : Cx} {U : Wd} {b : B0} {W : WX} {pos : Pos}
theorem getS_some {sl : Sl} {i : Nat} {d : D} (h : getS sl i = some d) : sl[i]? = some (some d) := by
  unfold getS at h
  split at h
  · rename_i d' e; cases h; exact e
  · cases h
theorem je_var {i : Nat} {x : Str} (hN : X.N[i]? = some x) (hv : Vis X.env.scope x) (hd : (x == ("__debug__" : Str)) = false) (hcd : (x == ("__classdict__" : Str)) = false) : JE X U b W (.Name x pos) fun sl μ => R.of (getS sl i) μ := by
  refine PE.imp (pe_var hN hv hd hcd) fun σ H Q h => ?_
  obtain ⟨sl, μ, ρ, G, s, p⟩ := h
  obtain ⟨d, e, pp⟩ := p.of
  obtain ⟨v, h1, h2⟩ := s.sl i d (getS_some e)
  exact ⟨v, h1, pp.fin s h2⟩
theorem je_of {e : Expr} {v : V} {d : D} (h : PE X e (tC v)) (hr : ∀ G, Rep U G v d) : JE X U b W e fun _ μ => .ok d μ := by
  refine PE.imp h fun σ H Q h => ?_
  obtain ⟨sl, μ, ρ, G, s, p⟩ := h
  exact PoE.fin p s (.pure (hr G))
theorem je_int {i j} : JE X U b W (.Constant (.int i) j pos) fun _ μ => .ok (.int i) μ := je_of pe_int fun _ => .int i
theorem je_str {x j} : JE X U b W (.Constant (.str x) j pos) fun _ μ => .ok (.str x) μ := je_of pe_str fun _ => .str x
theorem je_bl {x j} : JE X U b W (.Constant (.bool x) j pos) fun _ μ => .ok (.bl x) μ := je_of pe_bl fun _ => .bl x
theorem je_non {j} : JE X U b W (.Constant .none j pos) fun _ μ => .ok .non μ := je_of pe_non fun _ => .non
/-- argument lists -/
theorem ja_nil : JA X U b W [] fun _ μ => .ok [] μ := by
  refine PA.imp pa_nil fun σ H Q h => ?_
  obtain ⟨sl, μ, ρ, G, s, p⟩ := h
  exact PoA.fin p s .nil
theorem star_not {e : Expr} (h : PySem.W.isStarred e = false) (es : List Expr) (env : Env) : starEach (e :: es) env = (false, eval e env) :: starEach es env := by
  cases e <;> first | rfl | cases h
theorem ja_cons {e : Expr} {es : List Expr} {m : Sl → Sto → R D} {ms : Sl → Sto → R (List D)} (h1 : JE X U b W e m) (h2 : JA X U b W es ms) (hs : PySem.W.isStarred e = false) :
    JA X U b W (e :: es) fun sl μ => (m sl μ).bind fun d μ => (ms sl μ).bind fun ds μ => .ok (d :: ds) μ := by
  refine PA.imp (pa_cons h1 h2 (star_not hs es X.env)) fun σ H Q h => ?_
  obtain ⟨sl, μ, ρ, G, s, p⟩ := h
  refine rd_stepA s p fun d μ1 v H1 ρ1 G1 s1 hr hg rv p1 => rd_argsA s1 p1 fun ds μ2 vs H2 ρ2 G2 s2 hr2 hg2 rvs p2 => ?_
  exact PoA.fin p2 s2 (.cons (rv.mono hr2 hg2) rvs)
/-- the end of a step that lays a new thing -/
theorem PoE.new {sl : Sl} {μ : Sto} {ρ : List Addr} {G H : Hp} {σ : St} {Q : VK} {d : D} {p : Addr} {o : HO} (pp : PoE U b W sl ρ G σ Q (.ok d μ)) (s : SR U b sl μ ρ G σ H) (hp : H p = none) (ho : ∀ ps, o ≠ .tbl ps)
    (hr : Sub G (upd G p o) → Rep U (upd G p o) (.ref p) d) : Q (.ref p) (upd H p o) :=
  pp _ _ ρ _ (s.alloc hp ho) (List.prefix_refl _) (sub_upd (s.h.gfree hp)) (.pure (hr (sub_upd (s.h.gfree hp))))
def tupR (ds : List D) (μ : Sto) : R D := if ds.length ≤ lim && allP ds then .ok (.tup ds) μ else .no
def lstR (ds : List D) (μ : Sto) : R D := if ds.length ≤ lim && allP ds then .ok (.lst ds) μ else .no
theorem je_tup {es : List Expr} {k : Nat} {ms : Sl → Sto → R (List D)} (h : JA X U b W es ms) : JE X U b W (.Tuple es k pos) fun sl μ => (ms sl μ).bind tupR := by
  refine PE.imp (pe_tup h) fun σ H Q h => ?_
  obtain ⟨sl, μ, ρ, G, s, p⟩ := h
  refine rd_args s p fun ds μ1 vs H1 ρ1 G1 s1 hr hg rv p1 => ?_
  unfold tupR at p1
  split at p1
  · rename_i hz
    rw [Bool.and_eq_true, decide_eq_true_eq] at hz
    exact ⟨by rw [← lim_line, rv.length]; exact hz.1, fun q hq => p1.new s1 hq (fun _ z => by cases z) fun hs => .tup (SqT.of upd_same) ((rv.allP hz.2).mono hs)⟩
  · exact p1.elim
theorem je_lst {es : List Expr} {ms : Sl → Sto → R (List D)} (h : JA X U b W es ms) : JE X U b W (.List es pos) fun sl μ => (ms sl μ).bind lstR := by
  refine PE.imp (pe_lst h) fun σ H Q h => ?_
  obtain ⟨sl, μ, ρ, G, s, p⟩ := h
  refine rd_args s p fun ds μ1 vs H1 ρ1 G1 s1 hr hg rv p1 => ?_
  unfold lstR at p1
  split at p1
  · rename_i hz
    rw [Bool.and_eq_true, decide_eq_true_eq] at hz
    exact ⟨by rw [← lim_line, rv.length]; exact hz.1, fun q hq => p1.new s1 hq (fun _ z => by cases z) fun hs => .lst upd_same ((rv.allP hz.2).mono hs)⟩
  · exact p1.elim
/-- a two-place operation by its rule -/
theorem je_op2 {a c e : Expr} {f : Sto → D → D → R D} {ma mc : Sl → Sto → R D} {r : R2} (h : PE X e (tOp (rOp U b W f) (RdE U b W ma) (RdE U b W mc))) :
    JE X U b W e fun sl μ => (ma sl μ).bind fun x μ => (mc sl μ).bind fun y μ => f μ x y := by
  refine PE.imp h fun σ H Q h => ?_
  obtain ⟨sl, μ, ρ, G, s, p⟩ := h
  exact rd_step (α := Unit) s p fun d μ1 v H1 ρ1 G1 s1 hr hg rv p1 => rd_step (α := Unit) s1 p1 fun d2 μ2 v2 H2 ρ2 G2 s2 hr2 hg2 rv2 p2 => ⟨sl, μ2, ρ2, G2, σ, d, d2, s2, rv.mono hr2 hg2, rv2, p2⟩
theorem je_bin (hX : XU X U) {a c : Expr} {op : Operator} {ma mc : Sl → Sto → R D} (ha : JE X U b W a ma) (hc : JE X U b W c mc) :
    JE X U b W (.BinOp a op c pos) fun sl μ => (ma sl μ).bind fun x μ => (mc sl μ).bind fun y μ => R.of (binD op x y) μ := je_op2 (a := a) (c := c) (r := rOp U b W fun μ x y => R.of (binD op x y) μ) (pe_op (opr_bin hX op) ha hc)
theorem je_cmp (hX : XU X U) (hu : X.A.units + 64 < cLine) {a c : Expr} {op : CmpOp} {ma mc : Sl → Sto → R D} (ha : JE X U b W a ma) (hc : JE X U b W c mc) (hm : behindInMarks op c = false) :
    JE X U b W (.Compare a [op] [c] pos) fun sl μ => (ma sl μ).bind fun x μ => (mc sl μ).bind fun y μ => R.of ((cmpD op μ x y).map .bl) μ := je_op2 (a := a) (c := c) (r := rOp U b W fun μ x y => R.of ((cmpD op μ x y).map .bl) μ) (pe_cmpR (opr_cmp hX hu op) ha hc hm)
theorem je_in (hX : XU X U) (hu : X.A.units + 65 < cLine) {a c : Expr} {neg : Bool} {ma mc : Sl → Sto → R D} (ha : JE X U b W a ma) (hc : JE X U b W c mc) (hm : behindInMarks (if neg then .NotIn else .In) c = false) :
    JE X U b W (.Compare a [if neg then .NotIn else .In] [c] pos) fun sl μ => (ma sl μ).bind fun x μ => (mc sl μ).bind fun y μ => R.of (((inD μ x y).map fun k => if neg then !k else k).map .bl) μ :=
  je_op2 (a := a) (c := c) (r := rOp U b W fun μ x y => R.of (((inD μ x y).map fun k => if neg then !k else k).map .bl) μ) (pe_cmpR (opr_in hX hu neg) ha hc hm)
theorem je_sub (hX : XU X U) {a c : Expr} {ma mc : Sl → Sto → R D} (ha : JE X U b W a ma) (hc : JE X U b W c mc) (hs : PlainIx c) :
    JE X U b W (.Subscript a c pos) fun sl μ => (ma sl μ).bind fun x μ => (mc sl μ).bind fun y μ => R.of (subD μ x y) μ := je_op2 (a := a) (c := c) (r := rOp U b W fun μ x y => R.of (subD μ x y) μ) (pe_ix (ixr_sub hX) ha hc hs)
/-! ### truth -/
theorem tru_rep (hX : XU X U) {sl : Sl} {μ : Sto} {ρ : List Addr} {G H : Hp} {σ : St} {v : V} {d : D} {k : Bool} (s : SR U b sl μ ρ G σ H) (r : RV U ρ G v d) (h : truth μ d = some k) : TruV X.K v H k := by
  unfold truth at h
  split at h
  · rename_i e; cases h; obtain rfl := view_non r e; rfl
  · rename_i e; cases h; obtain rfl := view_bl r e; rfl
  · rename_i e; cases h; obtain rfl := view_int r e; rfl
  · rename_i e
    split at h
    · rename_i hz
      cases h; obtain rfl := view_str r e
      exact ⟨by rw [← lim_line]; exact hz, rfl⟩
    · cases h
  · rename_i xs e
    cases h
    obtain ⟨a, ws, rfl, hq, hl⟩ := view_tup s.h r e
    refine .inr (.inl ⟨ws, by rw [hX.K]; exact hq, ?_⟩)
    cases hl <;> rfl
  · rename_i xs e
    cases h
    obtain ⟨a, ws, rfl, hq, hl⟩ := view_lst s.h r e
    refine .inl ⟨ws, by rw [hX.K]; exact hq, ?_⟩
    cases hl <;> rfl
  · cases h
theorem PoT.of {sl : Sl} {μ : Sto} {ρ : List Addr} {G : Hp} {σ : St} {Q : Bool → Hp → Prop} {o : Option Bool} (p : PoT U b W sl ρ G σ Q (R.of o μ)) : ∃ d, o = some d ∧ PoT U b W sl ρ G σ Q (.ok d μ) := by
  cases o with
  | none => exact False.elim p
  | some d => exact ⟨d, rfl, p⟩
/-- forms whose test is their value's truth -/
def plainTest : Expr → Bool
  | .UnaryOp .Not _ _ => false
  | .BoolOp _ _ _ => false
  | .IfExp _ _ _ _ => false
  | .Compare _ _ _ _ => false
  | _ => true
theorem plainTest_is {e : Expr} (h : plainTest e = true) (env : Env) (whole : Sem Value) : isTrue e env whole = (do let v ← whole; standAt e.pos; holding [v] (truthy v)) := by
  cases e with
  | UnaryOp op x p => cases op <;> first | rfl | cases h
  | BoolOp => cases h
  | IfExp => cases h
  | Compare => cases h
  | _ => rfl
theorem jt_val (hX : XU X U) {e : Expr} {m : Sl → Sto → R D} (h : JE X U b W e m) (hp : plainTest e = true) : JT X U b W e fun sl μ => tst (m sl μ) := by
  refine PT.imp (pt_truth h (plainTest_is hp X.env)) fun σ H Q h => ?_
  obtain ⟨sl, μ, ρ, G, s, p⟩ := h
  refine rd_stepT s p fun d μ1 v H1 ρ1 G1 s1 hr hg rv p1 => ?_
  obtain ⟨k, hk, pp⟩ := p1.of
  exact ⟨k, tru_rep hX s1 rv hk, pp.fin s1⟩
/-- a comparison as a test -/
theorem jt_op2 {a c e : Expr} {f : Sto → D → D → R D} {ma mc : Sl → Sto → R D} (h : PT X e (tTest (tOp (rOp U b W f) (RdE U b W ma) (RdE U b W mc))))
    (hb : ∀ μ x y d μ', f μ x y = .ok d μ' → ∃ k, d = .bl k) :
    JT X U b W e fun sl μ => tst ((ma sl μ).bind fun x μ => (mc sl μ).bind fun y μ => f μ x y) := by
  refine PT.imp h fun σ H Q h => ?_
  obtain ⟨sl, μ, ρ, G, s, p⟩ := h
  have step : ∀ (r : R D) (k : D → Sto → R D), tst (r.bind k) = r.bind fun d μ => tst (k d μ) := fun r k => by cases r <;> rfl
  dsimp only at p
  rw [show tst ((ma sl μ).bind fun x μ => (mc sl μ).bind fun y μ => f μ x y) = (ma sl μ).bind fun x μ => tst ((mc sl μ).bind fun y μ => f μ x y) from step _ _] at p
  refine rd_stepT s p fun d μ1 v H1 ρ1 G1 s1 hr hg rv p1 => ?_
  rw [show tst ((mc sl μ1).bind fun y μ => f μ d y) = (mc sl μ1).bind fun y μ => tst (f μ d y) from step _ _] at p1
  refine rd_stepT s1 p1 fun d2 μ2 v2 H2 ρ2 G2 s2 hr2 hg2 rv2 p2 => ?_
  refine ⟨sl, μ2, ρ2, G2, σ, d, d2, s2, rv.mono hr2 hg2, rv2, ?_⟩
  cases q : f μ2 d d2 with
  | no => rw [q] at p2; exact p2
  | ex x μ' => rw [q] at p2; exact fun cls dd H' ρ' G' s' h1 h2 hx => p2 cls dd H' ρ' G' s' h1 h2 hx
  | ok d3 μ' =>
    obtain ⟨k, rfl⟩ := hb _ _ _ _ _ q
    rw [q] at p2
    exact fun v' H' ρ' G' s' h1 h2 rr => by cases rr.isP rfl; exact ⟨k, rfl, p2 H' ρ' G' s' h1 h2⟩
theorem jt_cmp (hX : XU X U) (hu : X.A.units + 64 < cLine) {a c : Expr} {op : CmpOp} {ma mc : Sl → Sto → R D} (ha : JE X U b W a ma) (hc : JE X U b W c mc) (hm : behindInMarks op c = false) :
    JT X U b W (.Compare a [op] [c] pos) fun sl μ => tst ((ma sl μ).bind fun x μ => (mc sl μ).bind fun y μ => R.of ((cmpD op μ x y).map .bl) μ) :=
  jt_op2 (a := a) (c := c) (f := fun μ x y => R.of ((cmpD op μ x y).map .bl) μ) (pt_cmpR (opr_cmp hX hu op) ha hc hm) fun μ x y d μ' h => by
    cases q : cmpD op μ x y with
    | none => rw [q] at h; cases h
    | some k => rw [q] at h; cases h; exact ⟨k, rfl⟩
theorem jt_in (hX : XU X U) (hu : X.A.units + 65 < cLine) {a c : Expr} {neg : Bool} {ma mc : Sl → Sto → R D} (ha : JE X U b W a ma) (hc : JE X U b W c mc) (hm : behindInMarks (if neg then .NotIn else .In) c = false) :
    JT X U b W (.Compare a [if neg then .NotIn else .In] [c] pos) fun sl μ => tst ((ma sl μ).bind fun x μ => (mc sl μ).bind fun y μ => R.of (((inD μ x y).map fun k => if neg then !k else k).map .bl) μ) :=
  jt_op2 (a := a) (c := c) (f := fun μ x y => R.of (((inD μ x y).map fun k => if neg then !k else k).map .bl) μ) (pt_cmpR (opr_in hX hu neg) ha hc hm) fun μ x y d μ' h => by
    cases q : inD μ x y with
    | none => simp only [q] at h; cases h
    | some k => simp only [q] at h; cases h; exact ⟨_, rfl⟩
/-! ### not, and, or, if else -/
theorem tst_not (r : R D) : tst (r.bind fun d μ => R.of ((truth μ d).map fun k => D.bl !k) μ) = (tst r).bind fun k μ => .ok (!k) μ := by
  cases r with
  | ok d μ => simp only [tst, R.bind]; cases q : truth μ d <;> simp [R.of, truth, view]
  | ex x μ => rfl
  | no => rfl
theorem je_not (hX : XU X U) {a : Expr} {ma : Sl → Sto → R D} (ha : JE X U b W a ma) : JE X U b W (.UnaryOp .Not a pos) fun sl μ => (ma sl μ).bind fun d μ => R.of ((truth μ d).map fun k => D.bl !k) μ := by
  refine PE.imp (pe_notT ha) fun σ H Q h => ?_
  obtain ⟨sl, μ, ρ, G, s, p⟩ := h
  refine rd_step (α := Unit) s p fun d μ1 v H1 ρ1 G1 s1 hr hg rv p1 => ?_
  obtain ⟨e, he, pp⟩ := p1.of
  obtain ⟨k, hk, rfl⟩ := Option.map_eq_some_iff.mp he
  exact ⟨k, tru_rep hX s1 rv hk, pp.fin s1 (.pure (.bl _))⟩
theorem jt_not {a : Expr} {ma : Sl → Sto → R D} (ha : JT X U b W a fun sl μ => tst (ma sl μ)) : JT X U b W (.UnaryOp .Not a pos) fun sl μ => tst ((ma sl μ).bind fun d μ => R.of ((truth μ d).map fun k => D.bl !k) μ) := by
  refine PT.imp (pt_not ha) fun σ H Q h => ?_
  obtain ⟨sl, μ, ρ, G, s, p⟩ := h
  dsimp only at p
  rw [tst_not] at p
  exact rd_testT s p fun k μ1 H1 ρ1 G1 s1 hr hg p1 => p1.fin s1
/-- a and b -/
def andR (ra : R D) (rb : Sto → R D) : R D := ra.bind fun d μ => match truth μ d with
  | some true => rb μ
  | some false => .ok d μ
  | none => .no
def orR (ra : R D) (rb : Sto → R D) : R D := ra.bind fun d μ => match truth μ d with
  | some true => .ok d μ
  | some false => rb μ
  | none => .no
theorem tst_and (ra : R D) (rb : Sto → R D) : tst (andR ra rb) = (tst ra).bind fun k μ => if k then tst (rb μ) else .ok false μ := by
  cases ra with
  | ok d μ =>
    simp only [tst, andR, R.bind]
    cases q : truth μ d with
    | none => simp [R.of]
    | some k => cases k <;> simp [R.of, q]
  | ex x μ => rfl
  | no => rfl
theorem tst_or (ra : R D) (rb : Sto → R D) : tst (orR ra rb) = (tst ra).bind fun k μ => if k then .ok true μ else tst (rb μ) := by
  cases ra with
  | ok d μ =>
    simp only [tst, orR, R.bind]
    cases q : truth μ d with
    | none => simp [R.of]
    | some k => cases k <;> simp [R.of, q]
  | ex x μ => rfl
  | no => rfl
theorem je_and (hX : XU X U) {a c : Expr} {rest : List Expr} {ma mc : Sl → Sto → R D} (ha : JE X U b W a ma) (hc : JE X U b W (.BoolOp .And (c :: rest) pos) mc) :
    JE X U b W (.BoolOp .And (a :: c :: rest) pos) fun sl μ => andR (ma sl μ) (mc sl) := by
  refine PE.imp (pe_andT ha hc) fun σ H Q h => ?_
  obtain ⟨sl, μ, ρ, G, s, p⟩ := h
  refine rd_step (α := Unit) s p fun d μ1 v H1 ρ1 G1 s1 hr hg rv p1 => ?_
  split at p1
  · rename_i q; exact ⟨true, tru_rep hX s1 rv q, by rw [if_pos rfl]; exact ⟨sl, μ1, ρ1, G1, s1, p1⟩⟩
  · rename_i q; exact ⟨false, tru_rep hX s1 rv q, by rw [if_neg Bool.false_ne_true]; exact p1.fin s1 rv⟩
  · exact p1.elim
theorem je_or (hX : XU X U) {a c : Expr} {rest : List Expr} {ma mc : Sl → Sto → R D} (ha : JE X U b W a ma) (hc : JE X U b W (.BoolOp .Or (c :: rest) pos) mc) :
    JE X U b W (.BoolOp .Or (a :: c :: rest) pos) fun sl μ => orR (ma sl μ) (mc sl) := by
  refine PE.imp (pe_orT ha hc) fun σ H Q h => ?_
  obtain ⟨sl, μ, ρ, G, s, p⟩ := h
  refine rd_step (α := Unit) s p fun d μ1 v H1 ρ1 G1 s1 hr hg rv p1 => ?_
  split at p1
  · rename_i q; exact ⟨true, tru_rep hX s1 rv q, by rw [if_pos rfl]; exact p1.fin s1 rv⟩
  · rename_i q; exact ⟨false, tru_rep hX s1 rv q, by rw [if_neg Bool.false_ne_true]; exact ⟨sl, μ1, ρ1, G1, s1, p1⟩⟩
  · exact p1.elim
theorem je_one {op} {a : Expr} {ma : Sl → Sto → R D} (ha : JE X U b W a ma) : JE X U b W (.BoolOp op [a] pos) ma := pe_one ha
abbrev JW (X : Cx) (U : Wd) (b : B0) (W : WX) (e : Expr) (m : Sl → Sto → R Bool) : Prop := PW X e (RdT U b W m)
theorem PW.imp {e : Expr} {t t' : TT} (h : PW X e t) (i : ∀ σ H Q, t' σ H Q → t σ H Q) : PW X e t' := ⟨fun wh pins s σ H Q I q => h.run wh pins s σ H Q I (i σ H Q q)⟩
theorem jw_and {a c : Expr} {rest : List Expr} {ma mc : Sl → Sto → R D} (ha : JT X U b W a fun sl μ => tst (ma sl μ)) (hc : JW X U b W (.BoolOp .And (c :: rest) pos) fun sl μ => tst (mc sl μ)) :
    JW X U b W (.BoolOp .And (a :: c :: rest) pos) fun sl μ => tst (andR (ma sl μ) (mc sl)) := by
  refine PW.imp (pw_and ha hc) fun σ H Q h => ?_
  obtain ⟨sl, μ, ρ, G, s, p⟩ := h
  dsimp only at p
  rw [tst_and] at p
  refine rd_testT s p fun k μ1 H1 ρ1 G1 s1 hr hg p1 => ?_
  cases k with
  | true => rw [if_pos rfl]; exact ⟨sl, μ1, ρ1, G1, s1, by simpa using p1⟩
  | false =>
    rw [if_neg Bool.false_ne_true]
    have p2 : PoT U b W sl ρ1 G1 σ Q (.ok false μ1) := by simpa using p1
    exact p2.fin s1
theorem jw_or {a c : Expr} {rest : List Expr} {ma mc : Sl → Sto → R D} (ha : JT X U b W a fun sl μ => tst (ma sl μ)) (hc : JW X U b W (.BoolOp .Or (c :: rest) pos) fun sl μ => tst (mc sl μ)) :
    JW X U b W (.BoolOp .Or (a :: c :: rest) pos) fun sl μ => tst (orR (ma sl μ) (mc sl)) := by
  refine PW.imp (pw_or ha hc) fun σ H Q h => ?_
  obtain ⟨sl, μ, ρ, G, s, p⟩ := h
  dsimp only at p
  rw [tst_or] at p
  refine rd_testT s p fun k μ1 H1 ρ1 G1 s1 hr hg p1 => ?_
  cases k with
  | true =>
    rw [if_pos rfl]
    have p2 : PoT U b W sl ρ1 G1 σ Q (.ok true μ1) := by simpa using p1
    exact p2.fin s1
  | false => rw [if_neg Bool.false_ne_true]; exact ⟨sl, μ1, ρ1, G1, s1, by simpa using p1⟩
theorem jw_and1 {a : Expr} {m : Sl → Sto → R Bool} (ha : JT X U b W a m) : JW X U b W (.BoolOp .And [a] pos) m := pw_and1 ha
theorem jw_or1 {a : Expr} {m : Sl → Sto → R Bool} (ha : JT X U b W a m) : JW X U b W (.BoolOp .Or [a] pos) m := pw_or1 ha
/-- a if t else c -/
def ifR (rt : R Bool) (ra rc : Sto → R D) : R D := rt.bind fun k μ => if k then ra μ else rc μ
theorem je_ife {t a c : Expr} {mt : Sl → Sto → R Bool} {ma mc : Sl → Sto → R D} (ht : JT X U b W t mt) (ha : JE X U b W a ma) (hc : JE X U b W c mc) : JE X U b W (.IfExp t a c pos) fun sl μ => ifR (mt sl μ) (ma sl) (mc sl) := by
  refine PE.imp (pe_ifExp ht ha hc) fun σ H Q h => ?_
  obtain ⟨sl, μ, ρ, G, s, p⟩ := h
  refine rd_test s p fun k μ1 H1 ρ1 G1 s1 hr hg p1 => ?_
  cases k with
  | true => rw [if_pos rfl]; exact ⟨sl, μ1, ρ1, G1, s1, by simpa using p1⟩
  | false => rw [if_neg Bool.false_ne_true]; exact ⟨sl, μ1, ρ1, G1, s1, by simpa using p1⟩
/-- a op b op' c -/
def chnR (ra : R D) (rb rc : Sto → R D) (f g : Sto → D → D → R D) : R D := ra.bind fun x μ => (rb μ).bind fun y μ => (f μ x y).bind fun z μ => match z with
  | .bl true => (rc μ).bind fun w μ => g μ y w
  | .bl false => .ok (.bl false) μ
  | _ => .no
theorem je_chn {a c e : Expr} {op op' : CmpOp} {f g : Sto → D → D → R D} {ma mc me : Sl → Sto → R D} (hf : OpR X (compareOp op) (rOp U b W f)) (hg : OpR X (compareOp op') (rOp U b W g)) (ha : JE X U b W a ma) (hc : JE X U b W c mc) (he : JE X U b W e me)
    (hm : lastMarks [op, op'] [c, e] = false) : JE X U b W (.Compare a [op, op'] [c, e] pos) fun sl μ => chnR (ma sl μ) (mc sl) (me sl) f g := by
  refine PE.imp (pe_chain hf hg ha hc he hm) fun σ H Q h => ?_
  obtain ⟨sl, μ, ρ, G, s, p⟩ := h
  refine rd_step (α := Unit) s p fun d μ1 v H1 ρ1 G1 s1 hr hg rv p1 => rd_step (α := Unit) s1 p1 fun d2 μ2 v2 H2 ρ2 G2 s2 hr2 hg2 rv2 p2 => ?_
  refine ⟨sl, μ2, ρ2, G2, σ, d, d2, s2, rv.mono hr2 hg2, rv2, ?_⟩
  cases q : f μ2 d d2 with
  | no => rw [q] at p2; exact p2
  | ex x μ' => rw [q] at p2; exact p2
  | ok d3 μ3 =>
    rw [q] at p2
    intro v3 H3 ρ3 G3 s3 hr3 hg3 rv3
    have p3 := PoE.mono hr3 hg3 p2
    dsimp only [R.bind] at p3
    split at p3
    · cases rv3.isP rfl
      refine ⟨true, rfl, ?_⟩
      rw [if_pos rfl]
      exact rd_step (α := Unit) s3 p3 fun d4 μ4 v4 H4 ρ4 G4 s4 hr4 hg4 rv4 p4 => ⟨sl, μ4, ρ4, G4, σ, d2, d4, s4, rv2.mono (hr3.trans hr4) (hg3.trans hg4), rv4, p4⟩
    · cases rv3.isP rfl
      refine ⟨false, rfl, ?_⟩
      rw [if_neg Bool.false_ne_true]
      exact p3.fin s3 (.pure (.bl _))
    · exact p3.elim
end
end Q
/-! Q7: statements. -/
namespace Q
open PySem PySem.Spec PyProof.Rows L2
def PoS (U : Wd) (b : B0) (W : WX) (ρ : List Addr) (G : Hp) (D : Ends) : O → Prop
  | .nx sl μ => ∀ σ' H' ρ' G', SR U b sl μ ρ' G' σ' H' → ρ <+: ρ' → Sub G G' → D.nx σ' H'
  | .rt d μ => ∀ v H' ρ' G', SH U b μ ρ' G' H' → ρ <+: ρ' → Sub G G' → RV U ρ' G' v d → D.rt v H'
  | .bk sl μ => ∀ σ' H' ρ' G', SR U b sl μ ρ' G' σ' H' → ρ <+: ρ' → Sub G G' → D.bk σ' H'
  | .ct sl μ => ∀ σ' H' ρ' G', SR U b sl μ ρ' G' σ' H' → ρ <+: ρ' → Sub G G' → D.ct σ' H'
  | .ex x sl μ => ∀ cls dd σ' H' ρ' G', SR U b sl μ ρ' G' σ' H' → ρ <+: ρ' → Sub G G' → XR U ρ' G' H' x cls dd → W cls dd σ' H'
  | .no => False
def RdS (U : Wd) (b : B0) (W : WX) (m : Sl → Sto → O) : TS := fun D σ H => ∃ sl μ ρ G, SR U b sl μ ρ G σ H ∧ PoS U b W ρ G D (m sl μ)
abbrev JS (X : Cx) (U : Wd) (b : B0) (W : WX) (st : Stmt) (m : Sl → Sto → O) : Prop := PS X st (RdS U b W m)
abbrev JSs (X : Cx) (U : Wd) (b : B0) (W : WX) (st : List Stmt) (m : Sl → Sto → O) : Prop := PSs X st (RdS U b W m)
theorem PS.imp {X : Cx} {st : Stmt} {t t' : TS} (h : PS X st t) (i : ∀ D σ H, t' D σ H → t D σ H) : PS X st t' := ⟨fun pins s σ H D I q => h.run pins s σ H D I (i D σ H q)⟩
theorem PSs.imp {X : Cx} {st : List Stmt} {t t' : TS} (h : PSs X st t) (i : ∀ D σ H, t' D σ H → t D σ H) : PSs X st t' := ⟨fun pins s σ H D I q => h.run pins s σ H D I (i D σ H q)⟩
section
variable {U : Wd} {b : B0} {W : WX} {sl : Sl} {μ : Sto} {ρ ρ1 : List Addr} {G G1 H : Hp} {σ : St} {Dn : Ends}
theorem PoS.mono {o : O} (hr : ρ <+: ρ1) (hg : Sub G G1) (p : PoS U b W ρ G Dn o) : PoS U b W ρ1 G1 Dn o := by
  cases o with
  | nx sl μ => exact fun σ' H' ρ' G' s h1 h2 => p σ' H' ρ' G' s (hr.trans h1) (hg.trans h2)
  | rt d μ => exact fun v H' ρ' G' s h1 h2 => p v H' ρ' G' s (hr.trans h1) (hg.trans h2)
  | bk sl μ => exact fun σ' H' ρ' G' s h1 h2 => p σ' H' ρ' G' s (hr.trans h1) (hg.trans h2)
  | ct sl μ => exact fun σ' H' ρ' G' s h1 h2 => p σ' H' ρ' G' s (hr.trans h1) (hg.trans h2)
  | ex x sl μ => exact fun cls dd σ' H' ρ' G' s h1 h2 => p cls dd σ' H' ρ' G' s (hr.trans h1) (hg.trans h2)
  | no => exact p
/-- an expression, then a statement's rest -/
theorem rd_stepS {m : Sl → Sto → R D} {k : D → Sto → O} {C : VK} (s : SR U b sl μ ρ G σ H) (p : PoS U b W ρ G Dn (seqO (m sl μ) sl k))
    (h : ∀ d μ1 v H1 ρ1 G1, SR U b sl μ1 ρ1 G1 σ H1 → ρ <+: ρ1 → Sub G G1 → RV U ρ1 G1 v d → PoS U b W ρ1 G1 Dn (k d μ1) → C v H1) : RdE U b W m σ H C := by
  refine ⟨sl, μ, ρ, G, s, ?_⟩
  cases e : m sl μ with
  | ok d μ1 => rw [e] at p; exact fun v H1 ρ1 G1 s1 hr hg rv => h d μ1 v H1 ρ1 G1 s1 hr hg rv (PoS.mono hr hg p)
  | ex x μ1 => rw [e] at p; exact fun cls dd H' ρ' G' s' h1 h2 hx => p cls dd σ H' ρ' G' s' h1 h2 hx
  | no => rw [e] at p; exact p
theorem rd_testS {m : Sl → Sto → R Bool} {k : Bool → Sto → O} {C : Bool → Hp → Prop} (s : SR U b sl μ ρ G σ H) (p : PoS U b W ρ G Dn (seqO (m sl μ) sl k))
    (h : ∀ d μ1 H1 ρ1 G1, SR U b sl μ1 ρ1 G1 σ H1 → ρ <+: ρ1 → Sub G G1 → PoS U b W ρ1 G1 Dn (k d μ1) → C d H1) : RdT U b W m σ H C := by
  refine ⟨sl, μ, ρ, G, s, ?_⟩
  cases e : m sl μ with
  | ok d μ1 => rw [e] at p; exact fun H1 ρ1 G1 s1 hr hg => h d μ1 H1 ρ1 G1 s1 hr hg (PoS.mono hr hg p)
  | ex x μ1 => rw [e] at p; exact fun cls dd H' ρ' G' s' h1 h2 hx => p cls dd σ H' ρ' G' s' h1 h2 hx
  | no => rw [e] at p; exact p
theorem rd_argsS {m : Sl → Sto → R (List D)} {k : List D → Sto → O} {C : List V → Hp → Prop} (s : SR U b sl μ ρ G σ H) (p : PoS U b W ρ G Dn (seqO (m sl μ) sl k))
    (h : ∀ ds μ1 vs H1 ρ1 G1, SR U b sl μ1 ρ1 G1 σ H1 → ρ <+: ρ1 → Sub G G1 → RVL U ρ1 G1 vs ds → PoS U b W ρ1 G1 Dn (k ds μ1) → C vs H1) : RdA U b W m σ H C := by
  refine ⟨sl, μ, ρ, G, s, ?_⟩
  cases e : m sl μ with
  | ok d μ1 => rw [e] at p; exact fun v H1 ρ1 G1 s1 hr hg rv => h d μ1 v H1 ρ1 G1 s1 hr hg rv (PoS.mono hr hg p)
  | ex x μ1 => rw [e] at p; exact fun cls dd H' ρ' G' s' h1 h2 hx => p cls dd σ H' ρ' G' s' h1 h2 hx
  | no => rw [e] at p; exact p
theorem PoS.nx {sl : Sl} {σ' : St} (p : PoS U b W ρ G Dn (.nx sl μ)) (s : SR U b sl μ ρ G σ' H) : Dn.nx σ' H := p σ' H ρ G s (List.prefix_refl _) (Sub.refl _)
theorem PoS.rt {d : D} {v : V} (p : PoS U b W ρ G Dn (.rt d μ)) (s : SH U b μ ρ G H) (r : RV U ρ G v d) : Dn.rt v H := p v H ρ G s (List.prefix_refl _) (Sub.refl _) r
end
section
variable {X : Cx} {U : Wd} {b : B0} {W : WX} {pos : Pos}
/-- comprehensions are stored in a way of their own -/
def isComp : Expr → Bool
  | .ListComp .. => true
  | .SetComp .. => true
  | .DictComp .. => true
  | _ => false
theorem swaps_no {e : Expr} (h : isComp e = false) (t : Option Expr) (l : Nat) (env : Env) : swapsWith e t l env = pure false := by
  cases e <;> first | rfl | cases h
theorem js_expr {e : Expr} {m : Sl → Sto → R D} (h : JE X U b W e m) (hc : isComp e = false) : JS X U b W (.Expr e pos) fun sl μ => seqO (m sl μ) sl fun _ μ => .nx sl μ := by
  refine PS.imp (ps_expr h (swaps_no hc _ _ _)) fun Dn σ H h => ?_
  obtain ⟨sl, μ, ρ, G, s, p⟩ := h
  exact rd_stepS s p fun d μ1 v H1 ρ1 G1 s1 hr hg rv p1 => p1.nx s1
theorem js_ret {e : Expr} {m : Sl → Sto → R D} (h : JE X U b W e m) : JS X U b W (.Return (some e) pos) fun sl μ => seqO (m sl μ) sl fun d μ => .rt d μ := by
  refine PS.imp (ps_ret h) fun Dn σ H h => ?_
  obtain ⟨sl, μ, ρ, G, s, p⟩ := h
  exact rd_stepS s p fun d μ1 v H1 ρ1 G1 s1 hr hg rv p1 => p1.rt s1.h rv
theorem js_retN : JS X U b W (.Return none pos) fun _ μ => .rt .non μ := by
  refine PS.imp ps_retN fun Dn σ H h => ?_
  obtain ⟨sl, μ, ρ, G, s, p⟩ := h
  exact PoS.rt p s.h (.pure .non)
theorem js_pass : JS X U b W (.Pass pos) fun sl μ => .nx sl μ := by
  refine PS.imp ps_pass fun Dn σ H h => ?_
  obtain ⟨sl, μ, ρ, G, s, p⟩ := h
  exact PoS.nx p s
theorem js_brk : JS X U b W (.Break pos) fun sl μ => .bk sl μ := by
  refine PS.imp ps_break fun Dn σ H h => ?_
  obtain ⟨sl, μ, ρ, G, s, p⟩ := h
  exact p σ H ρ G s (List.prefix_refl _) (Sub.refl _)
theorem js_cont : JS X U b W (.Continue pos) fun sl μ => .ct sl μ := by
  refine PS.imp ps_continue fun Dn σ H h => ?_
  obtain ⟨sl, μ, ρ, G, s, p⟩ := h
  exact p σ H ρ G s (List.prefix_refl _) (Sub.refl _)
theorem js_if {t : Expr} {a c : List Stmt} {mt : Sl → Sto → R Bool} {ma mc : Sl → Sto → O} (ht : JT X U b W t mt) (ha : JSs X U b W a ma) (hc : JSs X U b W c mc) : JS X U b W (.If t a c pos) fun sl μ => seqO (mt sl μ) sl fun k μ => if k then ma sl μ else mc sl μ := by
  refine PS.imp (ps_if ht ha hc) fun Dn σ H h => ?_
  obtain ⟨sl, μ, ρ, G, s, p⟩ := h
  refine rd_testS s p fun k μ1 H1 ρ1 G1 s1 hr hg p1 => ?_
  cases k with
  | true => rw [if_pos rfl]; exact ⟨sl, μ1, ρ1, G1, s1, by simpa using p1⟩
  | false => rw [if_neg Bool.false_ne_true]; exact ⟨sl, μ1, ρ1, G1, s1, by simpa using p1⟩
theorem jss_nil : JSs X U b W [] fun sl μ => .nx sl μ := by
  refine PSs.imp pss_nil fun Dn σ H h => ?_
  obtain ⟨sl, μ, ρ, G, s, p⟩ := h
  exact PoS.nx p s
theorem jss_cons {st : Stmt} {rest : List Stmt} {m : Sl → Sto → O} {ms : Sl → Sto → O} (h1 : JS X U b W st m) (h2 : JSs X U b W rest ms) : JSs X U b W (st :: rest) fun sl μ => thenO (m sl μ) ms := by
  refine PSs.imp (pss_cons h1 h2) fun Dn σ H h => ?_
  obtain ⟨sl, μ, ρ, G, s, p⟩ := h
  refine ⟨sl, μ, ρ, G, s, ?_⟩
  dsimp only at p
  cases e : m sl μ with
  | nx sl' μ' => rw [e] at p; exact fun σ' H' ρ' G' s' h1 h2 => ⟨sl', μ', ρ', G', s', PoS.mono h1 h2 p⟩
  | rt d μ' => rw [e] at p; exact p
  | bk sl' μ' => rw [e] at p; exact p
  | ct sl' μ' => rw [e] at p; exact p
  | ex x sl' μ' => rw [e] at p; exact p
  | no => rw [e] at p; exact p
theorem js_set {i : Nat} {x : Str} {e : Expr} {pos' : Pos} {m : Sl → Sto → R D} (hN : X.N.Nodup) (hi : X.N[i]? = some x) (hx : Loc X.env.scope x) (he : JE X U b W e m) (hc : isComp e = false) (hf : X.fn x = true ∨ X.env.scope.names.lookup x = some .local) :
    JS X U b W (.Assign [.Name x pos'] e pos) fun sl μ => seqO (m sl μ) sl fun d μ => .nx (sl.set i (some d)) μ := by
  refine PS.imp (ps_set hN hi hx he (swaps_no hc _ _ _) hf) fun Dn σ H h => ?_
  obtain ⟨sl, μ, ρ, G, s, p⟩ := h
  exact rd_stepS s p fun d μ1 v H1 ρ1 G1 s1 hr hg rv p1 => p1.nx (s1.set rv)
end
end Q
/-! Q8: targets, loops. -/
namespace Q
open PySem PySem.Spec PyProof.Rows L2
/-! ### targets -/
/-- all but a target's slots is as it was -/
def Off (t : T) (σ σ' : St) : Prop := σ'.length = σ.length ∧ ∀ j, j ∉ t.slots → σ'[j]? = σ[j]?
def RdG (U : Wd) (t : T) : TG := fun v σ H Q => ∃ b sl μ ρ G d sl', SR U b sl μ ρ G σ H ∧ RV U ρ G v d ∧ setT t [d] sl = some sl' ∧ ∀ σ', SR U b sl' μ ρ G σ' H → Off t σ σ' → Q σ' H
def RdGs (U : Wd) (ts : T) : TGs := fun vs σ H Q => ∃ b sl μ ρ G ds sl', SR U b sl μ ρ G σ H ∧ RVL U ρ G vs ds ∧ setT ts ds sl = some sl' ∧ ∀ σ', SR U b sl' μ ρ G σ' H → Off ts σ σ' → Q σ' H
abbrev JG (X : Cx) (U : Wd) (e : Expr) (t : T) : Prop := PG X e (RdG U t)
abbrev JGs (X : Cx) (U : Wd) (es : List Expr) (t : T) : Prop := PGs X es (RdGs U t)
theorem PG.imp {X : Cx} {e : Expr} {t t' : TG} (h : PG X e t) (i : ∀ v σ H Q, t' v σ H Q → t v σ H Q) : PG X e t' := ⟨fun pins s σ H v u Q I r q => h.run pins s σ H v u Q I r (i v σ H Q q)⟩
theorem PGs.imp {X : Cx} {es : List Expr} {t t' : TGs} (h : PGs X es t) (i : ∀ v σ H Q, t' v σ H Q → t v σ H Q) : PGs X es t' := ⟨fun pins s σ H v u Q I r q => h.run pins s σ H v u Q I r (i v σ H Q q)⟩
section
variable {X : Cx} {U : Wd} {b : B0} {W : WX} {pos : Pos}
theorem jg_name {i : Nat} {x : Str} (hN : X.N.Nodup) (hi : X.N[i]? = some x) (hx : Loc X.env.scope x) (hf : X.fn x = true ∨ X.env.scope.names.lookup x = some .local) : JG X U (.Name x pos) (.nm i) := by
  refine PG.imp (pg_name hN hi hx hf) fun v σ H Q h => ?_
  obtain ⟨b, sl, μ, ρ, G, d, sl', s, r, e, k⟩ := h
  have e' : some (sl.set i (some d)) = some sl' := e
  cases e'
  exact k _ (s.set r) ⟨List.length_set, fun j hj => List.getElem?_set_ne (fun z => hj (by simp [T.slots, z]))⟩
theorem jgs_nil : JGs X U [] .nil := by
  refine PGs.imp pgs_nil fun v σ H Q h => ?_
  obtain ⟨b, sl, μ, ρ, G, ds, sl', s, r, e, k⟩ := h
  cases r with
  | nil => cases e; exact ⟨rfl, k _ s ⟨rfl, fun _ _ => rfl⟩⟩
  | cons r t => cases e
theorem aEach_not {e : Expr} (h : PySem.W.isStarred e = false) (es : List Expr) (env : Env) : (assignEach (e :: es) env).map (·.2) = assign e env :: (assignEach es env).map (·.2) := by
  cases e <;> first | rfl | cases h
theorem jgs_cons {e : Expr} {es : List Expr} {t ts : T} (h1 : JG X U e t) (h2 : JGs X U es ts) (hs : PySem.W.isStarred e = false) : JGs X U (e :: es) (.cons t ts) := by
  refine PGs.imp (pgs_cons h1 h2 (aEach_not hs es X.env)) fun v σ H Q h => ?_
  obtain ⟨b, sl, μ, ρ, G, ds, sl', s, r, e, k⟩ := h
  cases r with
  | nil => cases e
  | cons r rt =>
    obtain ⟨sl1, e1, e2⟩ := Option.bind_eq_some_iff.mp (show (setT t [_] sl).bind (setT ts _) = some sl' from e)
    exact ⟨_, _, rfl, b, sl, μ, ρ, G, _, sl1, s, r, e1, fun σ' s1 o1 => ⟨b, sl1, μ, ρ, G, _, sl', s1, rt, e2, fun σ2 s2 o2 => k σ2 s2 ⟨o2.1.trans o1.1, fun j hj => (o2.2 j fun z => hj (by simp [T.slots, z])).trans (o1.2 j fun z => hj (by simp [T.slots, z]))⟩⟩⟩
theorem aEach_star {env : Env} : ∀ {es : List Expr}, es.all (fun e => !PySem.W.isStarred e) = true → (assignEach es env).length = es.length ∧ (assignEach es env).findIdx? (·.1) = none
  | [], _ => ⟨rfl, rfl⟩
  | e :: es, h => by
    rw [List.all_cons, Bool.and_eq_true] at h
    obtain ⟨i1, i2⟩ := aEach_star (env := env) (es := es) h.2
    have hc : assignEach (e :: es) env = (false, assign e env) :: assignEach es env := by
      cases e <;> first | rfl | (simp [PySem.W.isStarred] at h)
    rw [hc]
    refine ⟨by simp [i1], ?_⟩
    rw [List.findIdx?_cons]
    simp [i2]
theorem setT_tp {ts : T} {d : D} {sl sl' : Sl} (h : setT (.tp ts) [d] sl = some sl') : ∃ ds, d = .tup ds ∧ ds.length = ts.len ∧ setT ts ds sl = some sl' := by
  cases d with
  | tup ds =>
    have h' : (if ds.length == ts.len then setT ts ds sl else none) = some sl' := h
    by_cases hz : (ds.length == ts.len) = true
    · rw [if_pos hz] at h'; exact ⟨ds, rfl, by simpa using hz, h'⟩
    · rw [if_neg hz] at h'; cases h'
  | _ => cases h
theorem jg_tup (hX : XU X U) {es : List Expr} {k : Nat} {ts : T} (hc : X.calm = true) (h : JGs X U es ts) (hst : es.all (fun e => !PySem.W.isStarred e) = true) (hl : ts.len = es.length) : JG X U (.Tuple es k pos) (.tp ts) := by
  obtain ⟨h1, h2⟩ := aEach_star (env := X.env) hst
  refine PG.imp (pg_tup hc h h1 h2) fun v σ H Q h => ?_
  obtain ⟨b, sl, μ, ρ, G, d, sl', s, r, e, kk⟩ := h
  obtain ⟨ds, rfl, hz, e⟩ := setT_tp e
  cases r with
  | pure r =>
    cases r with
    | tup ha l => exact ⟨_, _, rfl, by rw [hX.K]; exact s.h.sub.sqT ha, by rw [l.length]; omega, b, sl, μ, ρ, G, _, sl', s, l.rvl, e, kk⟩
/-! ### what is walked -/
/-- what a walk gives at its turns -/
def YD (U : Wd) (G0 : Hp) (ds : List D) : Nat → Hp → V → Hp → Prop := fun i H x H' => ∃ d, ds[i]? = some d ∧ ((H' = H ∧ Rep U G0 x d) ∨ ∃ T o, H T = none ∧ (∀ ps, o ≠ HO.tbl ps) ∧ H' = upd H T o ∧ ∀ G, Sub G0 G → G T = none → Rep U (upd G T o) x d)
def WalkD (U : Wd) (G0 : Hp) (J : It) (ds : List D) : Prop := Walk J ds.length (fun H => Sub G0 H) (YD U G0 ds)
def PoI (U : Wd) (b : B0) (W : WX) (sl : Sl) (ρ : List Addr) (G : Hp) (σ : St) (Q : It → Hp → Prop) : R (List D) → Prop
  | .ok ds μ' => ∀ J H' ρ' G', SR U b sl μ' ρ' G' σ H' → ρ <+: ρ' → Sub G G' → WalkD U G' J ds → Q J H'
  | .ex x μ' => ∀ cls dd H' ρ' G', SR U b sl μ' ρ' G' σ H' → ρ <+: ρ' → Sub G G' → XR U ρ' G' H' x cls dd → W cls dd σ H'
  | .no => False
def RdI (U : Wd) (b : B0) (W : WX) (m : Sl → Sto → R (List D)) : TI := fun σ H Q => ∃ sl μ ρ G, SR U b sl μ ρ G σ H ∧ PoI U b W sl ρ G σ Q (m sl μ)
abbrev JI (X : Cx) (U : Wd) (b : B0) (W : WX) (tg e : Expr) (m : Sl → Sto → R (List D)) : Prop := PI X tg e (RdI U b W m)
theorem PI.imp {tg e : Expr} {t t' : TI} (h : PI X tg e t) (i : ∀ σ H Q, t' σ H Q → t σ H Q) : PI X tg e t' := ⟨fun pins s σ H Q I q => h.run pins s σ H Q I (i σ H Q q)⟩
theorem walkD_list {a : Addr} {xs : List V} {ds : List D} {G0 : Hp} (h : SqL U.K G0 a xs) (l : RepL U G0 xs ds) : WalkD U G0 (Itl U.K a) ds := by
  unfold WalkD
  rw [← l.length]
  refine walk_list.mono (fun H hs => hs.sqL h) fun i H x H' hi hs y => ?_
  obtain ⟨e, y⟩ := y
  obtain ⟨d, e1, r⟩ := l.get' y
  exact ⟨d, e1, .inl ⟨e, r⟩⟩
theorem walkD_tup {a : Addr} {xs : List V} {ds : List D} {G0 : Hp} (h : SqT U.K G0 a xs) (l : RepL U G0 xs ds) : WalkD U G0 (Itt U.K a) ds := by
  unfold WalkD
  rw [← l.length]
  refine walk_tup.mono (fun H hs => hs.sqT h) fun i H x H' hi hs y => ?_
  obtain ⟨e, y⟩ := y
  obtain ⟨d, e1, r⟩ := l.get' y
  exact ⟨d, e1, .inl ⟨e, r⟩⟩
theorem walkD_str {z : Str} {G0 : Hp} : WalkD U G0 (Its z) (z.cps.toList.map fun c => .str ⟨#[c]⟩) := by
  unfold WalkD
  have e : (z.cps.toList.map fun c => D.str ⟨#[c]⟩).length = z.cps.size := by simp
  rw [e]
  refine walk_str.mono (fun H hs => trivial) fun i H x H' hi hs y => ?_
  obtain ⟨e, c, h1, h2⟩ := y
  refine ⟨.str ⟨#[c]⟩, ?_, .inl ⟨e, by rw [h2]; exact .str _⟩⟩
  rw [List.getElem?_map, Array.getElem?_toList, h1]; rfl
theorem rngD_get : ∀ {n i : Nat} {lo : Int}, i < n → (rngD lo n)[i]? = some (.int (lo + i))
  | n + 1, 0, lo, _ => by simp [rngD]
  | n + 1, i + 1, lo, h => by
    unfold rngD
    rw [List.getElem?_cons_succ, rngD_get (by omega)]
    congr 2
    push_cast
    omega
theorem rngD_len : ∀ {n : Nat} {lo : Int}, (rngD lo n).length = n
  | 0, _ => rfl
  | n + 1, lo => by unfold rngD; rw [List.length_cons, rngD_len]
theorem walkD_rng {lo : Int} {n : Nat} {G0 : Hp} : WalkD U G0 (Itr lo n) (rngD lo n) := by
  unfold WalkD
  rw [rngD_len]
  refine walk_range.mono (fun H hs => trivial) fun i H x H' hi hs y => ?_
  obtain ⟨e, h2⟩ := y
  exact ⟨.int (lo + i), rngD_get hi, .inl ⟨e, by rw [h2]; exact .int _⟩⟩
/-- a thing that stands still -/
def itR (r : R D) : R (List D) := r.bind fun d μ => R.of (itemsF d) μ
theorem rd_stepI {sl : Sl} {μ : Sto} {ρ : List Addr} {G H : Hp} {σ : St} {Q : It → Hp → Prop} {m : Sl → Sto → R D} {k : D → Sto → R (List D)} {C : VK} (s : SR U b sl μ ρ G σ H) (p : PoI U b W sl ρ G σ Q ((m sl μ).bind k))
    (h : ∀ d μ1 v H1 ρ1 G1, m sl μ = .ok d μ1 → SR U b sl μ1 ρ1 G1 σ H1 → ρ <+: ρ1 → Sub G G1 → RV U ρ1 G1 v d → PoI U b W sl ρ1 G1 σ Q (k d μ1) → C v H1) : RdE U b W m σ H C := by
  refine ⟨sl, μ, ρ, G, s, ?_⟩
  cases e : m sl μ with
  | ok d μ1 =>
    rw [e] at p
    refine fun v H1 ρ1 G1 s1 hr hg rv => h d μ1 v H1 ρ1 G1 e s1 hr hg rv ?_
    cases q : k d μ1 with
    | ok ds μ2 => simp only [R.bind, q] at p; exact fun J H' ρ' G' s' h1 h2 => p J H' ρ' G' s' (hr.trans h1) (hg.trans h2)
    | ex x μ2 => simp only [R.bind, q] at p; exact fun cls dd H' ρ' G' s' h1 h2 => p cls dd H' ρ' G' s' (hr.trans h1) (hg.trans h2)
    | no => simp only [R.bind, q] at p; exact p
  | ex x μ1 => rw [e] at p; exact p
  | no => rw [e] at p; exact p
theorem ji_seq (hX : XU X U) {tg e : Expr} {m : Sl → Sto → R D} (h : JE X U b W e m) : JI X U b W tg e fun sl μ => itR (m sl μ) := by
  refine ⟨fun pins s σ H Q I q => ?_⟩
  obtain ⟨sl, μ, ρ, G, S, p⟩ := q
  have hK := hX.K
  dsimp only at p
  cases em : m sl μ with
  | no => rw [show itR (m sl μ) = .no by rw [em]; rfl] at p; exact p.elim
  | ex x μ1 => exact (pi_list h).run pins s σ H Q I (rd_stepI S p fun d μ1 v H1 ρ1 G1 e => by rw [em] at e; cases e)
  | ok d μ1 =>
    have pk : PoI U b W sl ρ G σ Q (R.of (itemsF d) μ1) := by rw [show itR (m sl μ) = R.of (itemsF d) μ1 by rw [em]; rfl] at p; exact p
    cases d with
    | tup ds =>
      refine (pi_tup h).run pins s σ H Q I (rd_stepI S p fun d μ2 v H1 ρ1 G1 e s1 hr hg rv p1 => ?_)
      rw [em] at e; cases e
      cases rv.isP rfl with
      | tup ha l => exact ⟨_, rfl, ⟨_, by rw [hK]; exact s1.h.sub.sqT ha⟩, by rw [hK]; exact p1 _ _ _ _ s1 (List.prefix_refl _) (Sub.refl _) (walkD_tup ha l)⟩
    | lst ds =>
      refine (pi_list h).run pins s σ H Q I (rd_stepI S p fun d μ2 v H1 ρ1 G1 e s1 hr hg rv p1 => ?_)
      rw [em] at e; cases e
      cases rv.isP rfl with
      | lst ha l => exact ⟨_, rfl, ⟨_, SqL.of (s1.h.sub _ _ ha)⟩, by rw [hK]; exact p1 _ _ _ _ s1 (List.prefix_refl _) (Sub.refl _) (walkD_list (SqL.of ha) l)⟩
    | slst ds =>
      refine (pi_list h).run pins s σ H Q I (rd_stepI S p fun d μ2 v H1 ρ1 G1 e s1 hr hg rv p1 => ?_)
      rw [em] at e; cases e
      cases rv.isP rfl with
      | slst ha l => exact ⟨_, rfl, ⟨_, by rw [hK]; exact s1.h.sub.sqL ha⟩, by rw [hK]; exact p1 _ _ _ _ s1 (List.prefix_refl _) (Sub.refl _) (walkD_list ha l)⟩
    | str z =>
      refine (pi_str h).run pins s σ H Q I (rd_stepI S p fun d μ2 v H1 ρ1 G1 e s1 hr hg rv p1 => ?_)
      rw [em] at e; cases e
      cases rv.isP rfl
      exact ⟨z, rfl, p1 _ _ _ _ s1 (List.prefix_refl _) (Sub.refl _) walkD_str⟩
    | _ => exact pk.elim
/-! ### for -/
theorem js_for {tg it : Expr} {body : List Stmt} {t : T} {mi : Sl → Sto → R (List D)} {mb : Sl → Sto → O} (hp : PassesOwn (model X.prog X.w) X.A X.env X.xe) (hc : X.calm = true) (hi : JI X U b W tg it mi) (hg : JG X U tg t) (hb : JSs X U b W body mb)
    (hs : ∀ x, foldedSetIterable it X.env x = pure x) : JS X U b W (.For tg it body [] pos) fun sl μ => seqO (mi sl μ) sl fun ds μ => forO t mb ds sl μ := by
  refine PS.imp (ps_for hp hc hi hg hb hs) fun Dn σ H h => ?_
  obtain ⟨sl, μ, ρ, G, s, p⟩ := h
  refine ⟨sl, μ, ρ, G, s, ?_⟩
  dsimp only at p
  cases em : mi sl μ with
  | no => rw [em] at p; exact p.elim
  | ex x μ1 => rw [em] at p; exact fun cls dd H' ρ' G' s' h1 h2 hx => p cls dd σ H' ρ' G' s' h1 h2 hx
  | ok ds μ1 =>
    rw [em] at p
    intro J H1 ρ1 G1 s1 hr1 hg1 wk
    refine for_it wk (fun i σ H => ∃ sl μ ρ G, SR U b sl μ ρ G σ H ∧ ρ1 <+: ρ ∧ Sub G1 G ∧ PoS U b W ρ G Dn (forO t mb (ds.drop i) sl μ)) ?_ ?_ ?_ ?_
    · exact ⟨sl, μ1, ρ1, G1, s1, List.prefix_refl _, Sub.refl _, PoS.mono hr1 hg1 p⟩
    · rintro i σ H hi ⟨sl, μ, ρ, G, s, _, hg, _⟩
      exact hg.trans s.h.sub
    · rintro i x σ H H' hi ⟨sl, μ, ρ, G, s, hr, hg, p⟩ ⟨d, hd, y⟩
      have hdrop : ds.drop i = d :: ds.drop (i + 1) := by
        obtain ⟨h1, h2⟩ := List.getElem?_eq_some_iff.mp hd
        rw [List.drop_eq_getElem_cons h1, h2]
      rw [hdrop] at p
      have key : ∀ {G' : Hp}, SR U b sl μ ρ G' σ H' → Sub G G' → Rep U G' x d → RdG U t x σ H' fun σ2 H2 => RdS U b W mb { Dn with nx := fun σ H => ∃ sl μ ρ G, SR U b sl μ ρ G σ H ∧ ρ1 <+: ρ ∧ Sub G1 G ∧ PoS U b W ρ G Dn (forO t mb (ds.drop (i + 1)) sl μ), ct := fun σ H => ∃ sl μ ρ G, SR U b sl μ ρ G σ H ∧ ρ1 <+: ρ ∧ Sub G1 G ∧ PoS U b W ρ G Dn (forO t mb (ds.drop (i + 1)) sl μ), bk := Dn.nx } σ2 H2 := by
        intro G' s' hg' rx
        have p' := PoS.mono (List.prefix_refl ρ) hg' p
        unfold forO at p'
        cases et : setT t [d] sl with
        | none => simp only [et] at p'; exact p'.elim
        | some sl1 =>
          simp only [et] at p'
          refine ⟨b, sl, μ, ρ, G', d, sl1, s', .pure rx, et, fun σ2 s2 _ => ⟨sl1, μ, ρ, G', s2, ?_⟩⟩
          cases eb : mb sl1 μ with
          | nx sl2 μ2 => simp only [eb] at p'; exact fun σ' H' ρ' G'' s3 h1 h2 => ⟨sl2, μ2, ρ', G'', s3, hr.trans h1, (hg.trans hg').trans h2, PoS.mono h1 h2 p'⟩
          | ct sl2 μ2 => simp only [eb] at p'; exact fun σ' H' ρ' G'' s3 h1 h2 => ⟨sl2, μ2, ρ', G'', s3, hr.trans h1, (hg.trans hg').trans h2, PoS.mono h1 h2 p'⟩
          | bk sl2 μ2 => simp only [eb] at p'; exact p'
          | rt d μ2 => simp only [eb] at p'; exact p'
          | ex x sl2 μ2 => simp only [eb] at p'; exact p'
          | no => simp only [eb] at p'; exact p'
      rcases y with ⟨rfl, rx⟩ | ⟨T, o, hT, ho, rfl, rx⟩
      · exact key s (Sub.refl _) (rx.mono hg)
      · exact key (s.alloc hT ho) (sub_upd (s.h.gfree hT)) (rx G hg (s.h.gfree hT))
    · rintro σ H ⟨sl, μ, ρ, G, s, _, _, p⟩
      rw [List.drop_length] at p
      exact PoS.nx p s
end
end Q
/-! Q9: comprehensions. -/
namespace Q
open PySem PySem.Spec PyProof.Rows L2
abbrev W0 : WX := fun _ _ _ _ => False
section
variable {U : Wd} {b : B0} {W : WX} {sl : Sl} {μ : Sto} {ρ : List Addr} {G H : Hp} {σ : St}
theorem SR.here (s : SR U b sl μ ρ G σ H) : SR U ⟨H, ρ, G⟩ sl μ ρ G σ H := ⟨s.h.here, s.sl, s.ln⟩
theorem SR.wipe (s : SR U b sl μ ρ G σ H) : ∀ vs : List Nat, SR U b (wipeS sl vs) μ ρ G (L2.wipe σ vs) H
  | [] => s
  | v :: vs => by
    unfold wipeS L2.wipe
    exact (SR.wipe s vs).unset
/-- something that is neither frozen nor of the store is written -/
theorem SH.write {p : Addr} {o : HO} (s : SH U b μ ρ G H) (hp : H p ≠ none) (hb : b.H p = none) (hg : G p = none) (hr : p ∉ ρ) (hn : ∀ q ∈ U.T, q.1 ≠ p) (hc : ∀ c q, H p ≠ some (LamX.CodeO c q)) : SH U b μ ρ G (upd H p o) := by
  refine ⟨fun a u e => ?_, s.ntb, s.len, s.nd, s.ap, fun i q u h1 h2 => ?_, s.pre, fun a u e n m => ?_, fun a e => ?_, s.gnew, s.gsub, s.rnew, fun q hq => ?_, s.b0⟩
  · rw [upd_ne (ne_of_none e hg)]; exact s.sub a u e
  · have hq : q ∈ ρ := List.mem_of_getElem? h1
    exact (s.sto i q u h1 h2).mono (List.prefix_refl _) (Sub.refl _) (upd_ne (show q ≠ p from fun z => hr (z ▸ hq)))
  · rw [upd_ne (ne_of_none e hb)]; exact s.ext a u e n m
  · by_cases h : a = p
    · subst h; rw [upd_same] at e; cases e
    · rw [upd_ne h] at e; exact s.dom a e
  · obtain ⟨ps, e1, e2, e3⟩ := s.tabs q hq
    refine ⟨ps, by rw [upd_ne (hn q hq)]; exact e1, e2, fun pos cv h => ?_⟩
    obtain ⟨c, h1, h2⟩ := e3 pos cv h
    refine ⟨c, h1, ?_⟩
    rw [upd_ne]
    · exact h2
    · rintro rfl; exact hc _ _ h2
/-- .. and is frozen -/
theorem SH.freeze {p : Addr} {o : HO} (s : SH U b μ ρ G H) (hp : H p = some o) (hb : b.H p = none) (hg : G p = none) (hr : p ∉ ρ) (ho : ∀ ps, o ≠ .tbl ps) : SH U b μ ρ (upd G p o) H := by
  refine ⟨fun a u e => ?_, fun a ps e => ?_, s.len, s.nd, fun i q u h1 h2 h3 => ?_, fun i q u h1 h2 => ?_, s.pre, s.ext, s.dom, fun a e => ?_, s.gsub.trans (sub_upd hg), s.rnew, s.tabs, s.b0⟩
  · by_cases h : a = p
    · subst h; rw [upd_same] at e; rw [hp, e]
    · rw [upd_ne h] at e; exact s.sub a u e
  · by_cases h : a = p
    · subst h; rw [upd_same] at e; exact ho ps (Option.some.inj e)
    · rw [upd_ne h] at e; exact s.ntb a ps e
  · have hq : q ∈ ρ := List.mem_of_getElem? h1
    rw [upd_ne (show q ≠ p from fun z => hr (z ▸ hq))]; exact s.ap i q u h1 h2 h3
  · exact (s.sto i q u h1 h2).mono (List.prefix_refl _) (sub_upd hg) rfl
  · by_cases h : a = p
    · subst h; exact .inr (.inl hb)
    · rw [upd_ne h] at e ⊢; exact s.gnew a e
theorem SR.freeze {p : Addr} {o : HO} (s : SR U b sl μ ρ G σ H) (hp : H p = some o) (hb : b.H p = none) (hg : G p = none) (hr : p ∉ ρ) (ho : ∀ ps, o ≠ .tbl ps) : SR U b sl μ ρ (upd G p o) σ H :=
  ⟨s.h.freeze hp hb hg hr ho, fun i d e => let ⟨v, h1, h2⟩ := s.sl i d e; ⟨v, h1, h2.mono (List.prefix_refl _) (sub_upd hg)⟩, s.ln⟩
/-- a list that grows is no table and no code -/
theorem tab_ne (s : SH U b μ ρ G H) {p : Addr} {xs : List V} (h : H p = some (.lst xs)) : ∀ q ∈ U.T, q.1 ≠ p := fun q hq e => by
  obtain ⟨ps, e1, _⟩ := s.tabs q hq
  rw [e, h] at e1; cases e1
theorem lst_code {p : Addr} {xs : List V} (h : H p = some (.lst xs)) : ∀ c q, H p ≠ some (LamX.CodeO c q) := fun c q e => by
  rw [h] at e
  unfold LamX.CodeO at e
  cases e
theorem wipe_get {vs : List Nat} {j : Nat} : j ∈ vs → ∀ σ : St, (L2.wipe σ vs)[j]? = if j < σ.length then some none else none := by
  induction vs with
  | nil => intro h; cases h
  | cons v vs ih =>
    intro h σ
    unfold L2.wipe
    by_cases hj : v = j
    · subst hj
      by_cases hl : v < σ.length
      · rw [List.getElem?_set_self (by rw [wipe_length]; exact hl), if_pos hl]
      · rw [if_neg hl, List.getElem?_eq_none (by rw [List.length_set, wipe_length]; omega)]
    · rw [List.getElem?_set_ne hj]
      exact ih ((List.mem_cons.mp h).elim (fun z => absurd z.symm hj) id) σ
theorem wipe_off {vs : List Nat} {j : Nat} : j ∉ vs → ∀ σ : St, (L2.wipe σ vs)[j]? = σ[j]? := by
  induction vs with
  | nil => intro _ σ; rfl
  | cons v vs ih =>
    intro h σ
    unfold L2.wipe
    rw [List.getElem?_set_ne (fun z => h (by simp [z]))]
    exact ih (fun z => h (List.mem_cons_of_mem _ z)) σ
theorem wipe_eq {t : T} {σ σ' : St} {vs : List Nat} (h : Off t (L2.wipe σ vs) σ') (hs : ∀ i ∈ t.slots, i ∈ vs) : L2.wipe σ' vs = L2.wipe σ vs := by
  apply List.ext_getElem?
  intro j
  by_cases hj : j ∈ vs
  · rw [wipe_get hj, wipe_get hj, h.1, wipe_length]
  · rw [wipe_off hj, wipe_off hj, h.2 j (fun z => hj (hs j z)), wipe_off hj]
end
theorem lcL_ok {t : T} {test : Sl → Sto → R Bool} {elt : Sl → Sto → R D} {sl : Sl} {d : D} {ds : List D} {μ μ' : Sto} {ys : List D} (h : lcL t test elt sl (d :: ds) μ = .ok ys μ') :
    ∃ sl1 k μ1, setT t [d] sl = some sl1 ∧ test sl1 μ = .ok k μ1 ∧ ((k = true ∧ ∃ y μ2 zs, elt sl1 μ1 = .ok y μ2 ∧ lcL t test elt sl ds μ2 = .ok zs μ' ∧ ys = y :: zs) ∨ (k = false ∧ lcL t test elt sl ds μ1 = .ok ys μ')) := by
  unfold lcL at h
  cases e1 : setT t [d] sl with
  | none => rw [e1] at h; cases h
  | some sl1 =>
    rw [e1] at h
    dsimp only at h
    cases e2 : test sl1 μ with
    | no => rw [e2] at h; cases h
    | ex x μ1 => rw [e2] at h; cases h
    | ok k μ1 =>
      rw [e2] at h
      dsimp only [R.bind] at h
      refine ⟨sl1, k, μ1, rfl, e2, ?_⟩
      cases k with
      | false => exact .inr ⟨rfl, by simpa using h⟩
      | true =>
        refine .inl ⟨rfl, ?_⟩
        rw [if_pos rfl] at h
        cases e3 : elt sl1 μ1 with
        | no => rw [e3] at h; cases h
        | ex x μ2 => rw [e3] at h; cases h
        | ok y μ2 =>
          rw [e3] at h
          dsimp only at h
          cases e4 : lcL t test elt sl ds μ2 with
          | no => rw [e4] at h; cases h
          | ex x μ3 => rw [e4] at h; cases h
          | ok zs μ3 => rw [e4] at h; cases h; exact ⟨y, μ2, zs, rfl, e4, rfl⟩
section
variable {X : Cx} {U : Wd} {b : B0} {W : WX} {pos : Pos}
abbrev JTs (X : Cx) (U : Wd) (b : B0) (W : WX) (es : List Expr) (m : Sl → Sto → R Bool) : Prop := PTs X es (RdT U b W m)
theorem PTs.imp {es : List Expr} {t t' : TT} (h : PTs X es t) (i : ∀ σ H Q, t' σ H Q → t σ H Q) : PTs X es t' := ⟨fun pins s σ H Q I q => h.run pins s σ H Q I (i σ H Q q)⟩
theorem jts_nil : JTs X U b W [] fun _ μ => .ok true μ := by
  refine PTs.imp pts_nil fun σ H Q h => ?_
  obtain ⟨sl, μ, ρ, G, s, p⟩ := h
  exact PoT.fin p s
theorem jts_one {c : Expr} {m : Sl → Sto → R Bool} (h : JT X U b W c m) : JTs X U b W [c] m := pts_one h
/-- the reading of a comprehension -/
theorem lc_read {t : T} {vs : List Nat} {mt : Sl → Sto → R Bool} {me : Sl → Sto → R D} {σ : St} {H : Hp} {Q : VK} {mi : Sl → Sto → R (List D)} {tt : TT} {te : TE} (hs : ∀ i ∈ t.slots, i ∈ vs)
    (htt : ∀ b σ H Q, RdT U b W0 mt σ H Q → tt σ H Q) (hte : ∀ b σ H Q, RdE U b W0 me σ H Q → te σ H Q)
    (h : RdE U b W (fun sl μ => lcR t vs (mi sl μ) mt me sl) σ H Q) : tLc (RdI U b W mi) (RdG U t) tt te vs σ H Q := by
  obtain ⟨sl, μ, ρ, G, s, p⟩ := h
  refine ⟨sl, μ, ρ, G, s, ?_⟩
  dsimp only [lcR] at p
  cases em : mi sl μ with
  | no => rw [em] at p; exact p.elim
  | ex x μ1 => rw [em] at p; exact p
  | ok ds μ1 =>
    rw [em] at p
    dsimp only [R.bind] at p
    intro J H1 ρ1 G1 s1 hr1 hg1 wk D hD
    have p := PoE.mono hr1 hg1 p
    cases el : lcL t mt me (wipeS sl vs) ds μ1 with
    | no => rw [el] at p; exact p.elim
    | ex x μ2 => rw [el] at p; exact p.elim
    | ok ys μ2 =>
      rw [el] at p
      dsimp only at p
      split at p
      · rename_i hz
        rw [Bool.and_eq_true, decide_eq_true_eq] at hz
        have p : PoE U b W sl ρ1 G1 σ Q (.ok (.lst ys) μ2) := p
        have hb1 : b.H D = none := s1.h.dom D hD
        refine lc_it wk (fun i H => ∃ μ ρ G accV accD rest, SR U b (wipeS sl vs) μ ρ G (L2.wipe σ vs) H ∧ ρ1 <+: ρ ∧ Sub G1 G ∧ H D = some (.lst accV) ∧ G D = none ∧ D ∉ ρ ∧ RepL U G accV accD ∧ lcL t mt me (wipeS sl vs) (ds.drop i) μ = .ok rest μ2 ∧ accD ++ rest = ys) ?_ ?_ ?_ ?_
        · refine ⟨μ1, ρ1, G1, [], [], ys, ?_, List.prefix_refl _, Sub.refl _, upd_same, s1.h.gfree hD, fun z => s1.h.rsome z hD, .nil, el, rfl⟩
          have a1 := (s1.wipe vs).alloc (o := .lst []) hD (fun _ z => by cases z)
          have gD := s1.h.gfree hD
          refine ⟨⟨fun a u e => ?_, s1.h.ntb, s1.h.len, s1.h.nd, s1.h.ap, fun i q u h1 h2 => ?_, s1.h.pre, a1.h.ext, a1.h.dom, s1.h.gnew, s1.h.gsub, s1.h.rnew, a1.h.tabs, s1.h.b0⟩, (s1.wipe vs).sl, (s1.wipe vs).ln⟩
          · rw [upd_ne (ne_of_none e gD)]; exact s1.h.sub a u e
          · have hq : q ∈ ρ1 := List.mem_of_getElem? h1
            exact (s1.h.sto i q u h1 h2).mono (List.prefix_refl _) (Sub.refl _) (upd_ne (show q ≠ D from fun z => s1.h.rsome (z ▸ hq) hD))
        · rintro i H hi ⟨μ, ρ, G, accV, accD, rest, s, _, hg, _⟩
          exact hg.trans s.h.sub
        · rintro i x H H' hi ⟨μ, ρ, G, accV, accD, rest, s, hr, hg, hDl, gD, rD, ra, hl, hys⟩ ⟨d, hd, y⟩
          have hdrop : ds.drop i = d :: ds.drop (i + 1) := by
            obtain ⟨h1, h2⟩ := List.getElem?_eq_some_iff.mp hd
            rw [List.drop_eq_getElem_cons h1, h2]
          rw [hdrop] at hl
          obtain ⟨sl1, k, μ3, e1, e2, e3⟩ := lcL_ok hl
          have key : ∀ {G' : Hp}, SR U b (wipeS sl vs) μ ρ G' (L2.wipe σ vs) H' → Sub G G' → G' D = none → H' D = some (.lst accV) → Rep U G' x d → RdG U t x (L2.wipe σ vs) H' fun σ2 H2 => L2.wipe σ2 vs = L2.wipe σ vs ∧ tt σ2 H2 fun b_1 H3 =>
              if b_1 = true then te σ2 H3 fun y H4 => ∃ acc, H4 D = some (.lst acc) ∧ acc.length < sizeLine ∧ (∃ μ ρ G accV accD rest, SR U b (wipeS sl vs) μ ρ G (L2.wipe σ vs) (upd H4 D (.lst (acc ++ [y]))) ∧ ρ1 <+: ρ ∧ Sub G1 G ∧ (upd H4 D (.lst (acc ++ [y]))) D = some (.lst accV) ∧ G D = none ∧ D ∉ ρ ∧ RepL U G accV accD ∧ lcL t mt me (wipeS sl vs) (ds.drop (i + 1)) μ = .ok rest μ2 ∧ accD ++ rest = ys)
              else (∃ μ ρ G accV accD rest, SR U b (wipeS sl vs) μ ρ G (L2.wipe σ vs) H3 ∧ ρ1 <+: ρ ∧ Sub G1 G ∧ H3 D = some (.lst accV) ∧ G D = none ∧ D ∉ ρ ∧ RepL U G accV accD ∧ lcL t mt me (wipeS sl vs) (ds.drop (i + 1)) μ = .ok rest μ2 ∧ accD ++ rest = ys) := by
            intro G' s' hg' gD' hD' rx
            refine ⟨b, _, μ, ρ, G', d, sl1, s', .pure rx, e1, fun σ2 s2 o2 => ⟨wipe_eq o2 hs, htt ⟨H', ρ, G'⟩ _ _ _ ⟨sl1, μ, ρ, G', s2.here, ?_⟩⟩⟩
            rw [e2]
            intro H3 ρ3 G3 s3 hr3 hg3
            have D3 : H3 D = some (.lst accV) := s3.h.ext D _ hD' (fun _ z => by cases z) rD
            have gD3 : G3 D = none := by
              cases q : G3 D with
              | none => rfl
              | some u =>
                rcases s3.h.gnew D (by rw [q]; simp) with z | z | ⟨c0, z⟩ | z
                · exact absurd gD' z
                · rw [show (⟨H', ρ, G'⟩ : B0).H D = some (.lst accV) from hD'] at z; cases z
                · exact absurd (s3.h.sub _ _ z) (lst_code D3 _ _)
                · exact absurd z rD
            have rD3 : D ∉ ρ3 := fun z => by
              rcases s3.h.rnew D z with q | q
              · exact rD q
              · rw [show (⟨H', ρ, G'⟩ : B0).H D = some (.lst accV) from hD'] at q; cases q
            have S3 : SR U b (wipeS sl vs) μ3 ρ3 G3 (L2.wipe σ vs) H3 := s'.on s3.h
            rcases e3 with ⟨rfl, y, μ4, zs, h1, h2, h3⟩ | ⟨rfl, h1⟩
            · rw [if_pos rfl]
              refine hte ⟨H3, ρ3, G3⟩ _ _ _ ⟨sl1, μ3, ρ3, G3, s3.here, ?_⟩
              rw [h1]
              intro v4 H4 ρ4 G4 s4 hr4 hg4 rv4
              have D4 : H4 D = some (.lst accV) := s4.h.ext D _ D3 (fun _ z => by cases z) rD3
              have gD4 : G4 D = none := by
                cases q : G4 D with
                | none => rfl
                | some u =>
                  rcases s4.h.gnew D (by rw [q]; simp) with z | z | ⟨c0, z⟩ | z
                  · exact absurd gD3 z
                  · rw [show (⟨H3, ρ3, G3⟩ : B0).H D = some (.lst accV) from D3] at z; cases z
                  · exact absurd (s4.h.sub _ _ z) (lst_code D4 _ _)
                  · exact absurd z rD3
              have rD4 : D ∉ ρ4 := fun z => by
                rcases s4.h.rnew D z with q | q
                · exact rD3 q
                · rw [show (⟨H3, ρ3, G3⟩ : B0).H D = some (.lst accV) from D3] at q; cases q
              have S4 : SR U b (wipeS sl vs) μ4 ρ4 G4 (L2.wipe σ vs) H4 := S3.on s4.h
              have hlen : accD.length + (y :: zs).length = ys.length := by rw [← hys, h3, List.length_append]
              have hP : isP y = true := by
                have : ∀ (l m : List _root_.Q.D), allP (l ++ y :: m) = true → isP y = true := fun l m => by
                  induction l with
                  | nil => intro h; unfold allP at h; rw [List.nil_append] at h; exact (Bool.and_eq_true_iff.mp h).1
                  | cons a l ih => intro h; rw [List.cons_append] at h; unfold allP at h; exact ih (Bool.and_eq_true_iff.mp h).2
                exact this accD zs (by rw [← h3, hys]; exact hz.2)
              have ra4 : RepL U G4 accV accD := ra.mono ((hg'.trans hg3).trans hg4)
              refine ⟨accV, D4, ?_, μ4, ρ4, G4, accV ++ [v4], accD ++ [y], zs, ?_, (hr.trans hr3).trans hr4, ((hg.trans hg').trans hg3).trans hg4, upd_same, gD4, rD4, ra4.append (.cons (rv4.isP hP) .nil), h2, by rw [← hys, h3]; simp⟩
              · rw [ra.length, ← lim_line]
                simp only [List.length_cons] at hlen
                omega
              · exact ⟨S4.h.write (by rw [D4]; simp) hb1 gD4 rD4 (tab_ne S4.h D4) (lst_code D4), S4.sl, S4.ln⟩
            · rw [if_neg Bool.false_ne_true]
              exact ⟨μ3, ρ3, G3, accV, accD, rest, S3, hr.trans hr3, (hg.trans hg').trans hg3, D3, gD3, rD3, ra.mono (hg'.trans hg3), h1, hys⟩
          rcases y with ⟨rfl, rx⟩ | ⟨T, o, hT, ho, rfl, rx⟩
          · exact key s (Sub.refl _) gD hDl (rx.mono hg)
          · have nT : D ≠ T := ne_of_none hDl hT
            exact key (s.alloc hT ho) (sub_upd (s.h.gfree hT)) (by rw [upd_ne nT]; exact gD) (by rw [upd_ne nT]; exact hDl) (rx G hg (s.h.gfree hT))
        · rintro H2 ⟨μ', ρ', G', accV, accD, rest, s', hr', hg', hDl, gD, rD, ra, hl, hys⟩
          rw [List.drop_length] at hl
          unfold lcL at hl
          cases hl
          rw [List.append_nil] at hys
          subst hys
          have S' : SR U b sl μ2 ρ' G' σ H2 := ⟨s'.h, fun i d e => let ⟨v, h1, h2⟩ := s1.sl i d e; ⟨v, h1, h2.mono hr' hg'⟩, s1.ln⟩
          exact p _ _ _ _ (S'.freeze hDl hb1 gD rD (fun _ z => by cases z)) hr' (hg'.trans (sub_upd gD)) (.pure (.lst upd_same (ra.mono (sub_upd gD))))
      · exact p.elim
theorem je_lc {elt tg iter : Expr} {ifs : List Expr} {scope : Scope} {own : List (Str × Nat)} {t : T} {mi : Sl → Sto → R (List D)} {mt : Sl → Sto → R Bool} {me : Sl → Sto → R D} (hc : X.calm = true) (hN : X.N.Nodup) (hi : JI X U b W tg iter mi) (ok : BlkOk X.N X.env.scope scope own)
    (hg : ∀ (s : Shared) (H : Hp) (C : Addr) (cl : List (Str × Addr)) (fp : List Addr), JG (X.blk s H scope (compEnvC scope cl C X.env) fp) U tg t) (ht : ∀ b (s : Shared) (H : Hp) (C : Addr) (cl : List (Str × Addr)) (fp : List Addr), JTs (X.blk s H scope (compEnvC scope cl C X.env) fp) U b W0 ifs mt)
    (he : ∀ b (s : Shared) (H : Hp) (C : Addr) (cl : List (Str × Addr)) (fp : List Addr), JE (X.blk s H scope (compEnvC scope cl C X.env) fp) U b W0 elt me) (hs : ∀ x, foldedSetIterable iter X.env x = pure x) (hv : ∀ i ∈ t.slots, i ∈ own.map (·.2)) :
    JE X U b W (.ListComp elt [⟨tg, iter, ifs, 0⟩] scope pos) fun sl μ => lcR t (own.map (·.2)) (mi sl μ) mt me sl := by
  refine PE.imp (pe_lc (tt := fun σ H Q => ∃ b, RdT U b W0 mt σ H Q) (te := fun σ H Q => ∃ b, RdE U b W0 me σ H Q) hc hN hi ok hg (fun s H C cl fp => ⟨fun pins s' σ H' Q I ⟨b, q⟩ => (ht b s H C cl fp).run pins s' σ H' Q I q⟩) (fun s H C cl fp => ⟨fun pins s' σ H' Q I ⟨b, q⟩ => (he b s H C cl fp).run pins s' σ H' Q I q⟩) hs)
    fun σ H Q h => lc_read hv (fun b σ H Q q => ⟨b, q⟩) (fun b σ H Q q => ⟨b, q⟩) h
end
end Q
/-! Q10: calls. -/
namespace Q
open PySem PySem.Spec PyProof.Rows L2
def Wd.fr (U : Wd) (cl : List (Str × Addr)) : Wd := { U with cl := cl }
section
variable {U : Wd} {b : B0} {μ : Sto} {ρ : List Addr} {G H : Hp} {cl : List (Str × Addr)}
mutual
theorem Rep.fr (cl : List (Str × Addr)) : ∀ {v : V} {d : D}, Rep U G v d → Rep (U.fr cl) G v d
  | _, _, .non => .non
  | _, _, .bl b => .bl b
  | _, _, .int i => .int i
  | _, _, .str x => .str x
  | _, _, .ty t => .ty t
  | _, _, .cls c => .cls (U := U.fr cl) c
  | _, _, .fn k => .fn (U := U.fr cl) k
  | _, _, .tup h l => .tup h (RepL.fr cl l)
  | _, _, .lst h l => .lst h (RepL.fr cl l)
  | _, _, .slst h l => .slst h (RepL.fr cl l)
  | _, _, .ins h n l => .ins (U := U.fr cl) h n (RepL.fr cl l)
  | _, _, .kdct h n l => .kdct h n (RepL.fr cl l)
  | _, _, .set h s n l => .set h s n l
theorem RepL.fr (cl : List (Str × Addr)) : ∀ {vs : List V} {ds : List D}, RepL U G vs ds → RepL (U.fr cl) G vs ds
  | _, _, .nil => .nil
  | _, _, .cons h t => .cons (Rep.fr cl h) (RepL.fr cl t)
end
theorem XR.fr (cl : List (Str × Addr)) {x : Ex} {cls : Value} {dd : Option Addr} (h : XR U ρ G H x cls dd) : XR (U.fr cl) ρ G H x cls dd := by
  obtain ⟨c, f⟩ := x
  obtain ⟨h1, h2⟩ := h
  refine ⟨h1, ?_⟩
  cases f with
  | none => exact h2
  | some d => obtain ⟨a, v, f, e1, e2, e3, r⟩ := h2; exact ⟨a, v, f, e1, e2, e3, r.fr cl⟩
theorem isV_isA {d : D} (h : isV d = true) : isA d = true := by cases d <;> first | rfl | cases h
theorem allV_allA : ∀ {ds : List D}, allV ds = true → allA ds = true
  | [], _ => rfl
  | d :: ds, h => by
    unfold allV at h
    unfold allA
    rw [Bool.and_eq_true] at h ⊢
    exact ⟨isV_isA h.1, allV_allA h.2⟩
theorem RV.fr (cl : List (Str × Addr)) {v : V} {d : D} (h : isA d = true) (r : RV U ρ G v d) : RV (U.fr cl) ρ G v d := by
  cases r with
  | ref e => exact .ref e
  | pure r => exact .pure (r.fr cl)
  | nfn => cases h
  | clo h1 h2 h3 h4 h5 h6 h7 => exact .clo (U := U.fr cl) h1 h2 h3 h4 h5 h6 (h7.fr cl)
theorem RVL.fr (cl : List (Str × Addr)) : ∀ {vs : List V} {ds : List D}, allA ds = true → RVL U ρ G vs ds → RVL (U.fr cl) ρ G vs ds
  | _, _, _, .nil => .nil
  | _, _, h, .cons r t => by
    unfold allA at h
    rw [Bool.and_eq_true] at h
    exact .cons (r.fr cl h.1) (RVL.fr cl h.2 t)
theorem MRep.fr (cl : List (Str × Addr)) {p : Addr} {o : MO} (h : MRep U ρ G H p o) : MRep (U.fr cl) ρ G H p o := by
  cases o with
  | lst ds => obtain ⟨xs, e, l⟩ := h; exact ⟨xs, e, l.fr cl⟩
  | ins c ds => obtain ⟨dx, fs, e, n, l, z⟩ := h; exact ⟨dx, fs, e, n, l.fr cl (allV_allA z), z⟩
  | set ds => exact h
  | dct _ => exact h
  | gone => exact h
theorem SH.fr (cl : List (Str × Addr)) (s : SH U b μ ρ G H) : SH (U.fr cl) b μ ρ G H :=
  ⟨s.sub, s.ntb, s.len, s.nd, s.ap, fun i p o h1 h2 => (s.sto i p o h1 h2).fr cl, s.pre, s.ext, s.dom, s.gnew, s.gsub, s.rnew, s.tabs, s.b0⟩
theorem fr_fr (U : Wd) (cl : List (Str × Addr)) : (U.fr cl).fr U.cl = U := rfl
end
/-- behind a call: what is wanted -/
def PoF (U : Wd) (b : B0) (Q : VK) (E : XK) : R D → Prop
  | .ok d μ' => ∀ v H' ρ' G', SH U b μ' ρ' G' H' → RV U ρ' G' v d → Q v H'
  | .ex x μ' => ∀ cls dd H' ρ' G', SH U b μ' ρ' G' H' → XR U ρ' G' H' x cls dd → E cls dd H'
  | .no => False
/-- the promise of a def that comes to φ -/
def spF (U : Wd) (φ : List D → Sto → R D) : Sp := fun vs H Q E => ∃ ds μ ρ G, allA ds = true ∧ SH U ⟨H, ρ, G⟩ μ ρ G H ∧ RVL U ρ G vs ds ∧ PoF U ⟨H, ρ, G⟩ Q E (φ ds μ)
/-- results that may be handed back -/
def Backs (φ : List D → Sto → R D) : Prop := ∀ ds μ d μ', φ ds μ = .ok d μ' → isV d = true
section
variable {U : Wd} {b : B0} {W : WX} {sl : Sl} {μ : Sto} {ρ : List Addr} {G H : Hp} {σ : St} {Q : VK} {φ : List D → Sto → R D} {vs : List V} {ds : List D} {cl : List (Str × Addr)}
/-- the caller's side -/
theorem spF_of (s : SR (U.fr cl) b sl μ ρ G σ H) (ra : RVL (U.fr cl) ρ G vs ds) (ha : allA ds = true) (hv : Backs φ) (p : PoE (U.fr cl) b W sl ρ G σ Q (φ ds μ)) : spF U φ vs H Q (WE W σ) := by
  refine ⟨ds, μ, ρ, G, ha, SH.fr (U := U.fr cl) U.cl s.h.here, RVL.fr (U := U.fr cl) U.cl ha ra, ?_⟩
  cases e : φ ds μ with
  | ok d μ' =>
    rw [e] at p
    exact fun v H' ρ' G' sh rv => p v H' ρ' G' (s.on (sh.fr cl)) sh.pre sh.gsub (rv.fr cl (isV_isA (hv _ _ _ _ e)))
  | ex x μ' =>
    rw [e] at p
    exact fun cls dd H' ρ' G' sh hx => p cls dd H' ρ' G' (s.on (sh.fr cl)) sh.pre sh.gsub (hx.fr cl)
  | no => rw [e] at p; exact p
end
/-! ### a def by its body -/
def startS (n : Nat) (ds : List D) : Sl := ds.map some ++ List.replicate (n - ds.length) none
def outO : O → R D
  | .nx _ μ => .ok .non μ
  | .rt d μ => if isV d then .ok d μ else .no
  | .ex x _ μ => .ex x μ
  | _ => .no
theorem RVL.get {U : Wd} {ρ : List Addr} {G : Hp} : ∀ {vs : List V} {ds : List D} {i : Nat} {d : D}, RVL U ρ G vs ds → ds[i]? = some d → ∃ v, vs[i]? = some v ∧ RV U ρ G v d
  | _, _, _, _, .nil, e => by simp at e
  | _, _, 0, _, .cons r _, e => by simp at e; subst e; exact ⟨_, rfl, r⟩
  | _, _, i + 1, d, .cons _ t, e => by
    obtain ⟨v, h1, h2⟩ := RVL.get (i := i) (d := d) t (by simpa using e)
    exact ⟨v, by simpa using h1, h2⟩
theorem outO_backs {o : O} {d : D} {μ : Sto} (h : outO o = .ok d μ) : isV d = true := by
  cases o with
  | nx sl μ => cases h; rfl
  | rt e μ' =>
    have h : (if isV e = true then R.ok e μ' else R.no) = R.ok d μ := h
    by_cases z : isV e = true
    · rw [if_pos z] at h; cases h; exact z
    · rw [if_neg z] at h; cases h
  | _ => cases h
theorem sr_start {U : Wd} {μ : Sto} {ρ : List Addr} {G H : Hp} {vs : List V} {ds : List D} {N : List Str} (s : SH U ⟨H, ρ, G⟩ μ ρ G H) (r : RVL U ρ G vs ds) : SR U ⟨H, ρ, G⟩ (startS N.length ds) μ ρ G (L2.start N vs) H := by
  have hl := r.length
  refine ⟨s, fun i d e => ?_, ?_⟩
  · unfold startS at e
    by_cases hi : i < ds.length
    · rw [List.getElem?_append_left (by rw [List.length_map]; exact hi), List.getElem?_map] at e
      cases q : ds[i]? with
      | none => rw [q] at e; cases e
      | some d' =>
        rw [q] at e; cases e
        obtain ⟨v, h1, h2⟩ := r.get q
        refine ⟨v, ?_, h2⟩
        unfold L2.start
        rw [List.getElem?_append_left (by rw [List.length_map]; omega), List.getElem?_map, h1]; rfl
    · rw [List.getElem?_append_right (by rw [List.length_map]; omega), List.getElem?_replicate] at e
      split at e <;> cases e
  · unfold startS L2.start
    rw [List.length_append, List.length_append, List.length_map, List.length_map, List.length_replicate, List.length_replicate, hl]
/-- what a body's end comes to, asked as a call's -/
theorem poS_of {U : Wd} {b : B0} {ρ : List Addr} {G : Hp} {Q : VK} {E : XK} {cl : List (Str × Addr)} {o : O} (p : PoF U b Q E (outO o)) : PoS (U.fr cl) b (fun cls d _ H => E cls d H) ρ G { nx := fun _ H' => Q .non H', rt := Q } o := by
  cases o with
  | nx sl μ => exact fun σ' H' ρ' G' s _ _ => p .non H' ρ' G' (SH.fr (U := U.fr cl) U.cl s.h) (.pure .non)
  | rt d μ =>
    intro v H' ρ' G' s _ _ r
    have p : PoF U b Q E (if isV d = true then R.ok d μ else R.no) := p
    by_cases hd : isV d = true
    · rw [if_pos hd] at p
      exact p v H' ρ' G' (SH.fr (U := U.fr cl) U.cl s) (RV.fr (U := U.fr cl) U.cl (isV_isA hd) r)
    · rw [if_neg hd] at p; exact p.elim
  | bk sl μ => exact False.elim p
  | ct sl μ => exact False.elim p
  | ex x sl μ => exact fun cls dd σ' H' ρ' G' s _ _ hx => p cls dd H' ρ' G' (SH.fr (U := U.fr cl) U.cl s.h) (XR.fr (U := U.fr cl) U.cl hx)
  | no => exact p
theorem fn_ok {U : Wd} {k : Nat} {f : Addr} {name qual : Str} {params : Arguments} {body : List Stmt} {scope : Scope} {dV kV doc pm cdv ct oc : Value} {an od : Option Addr} {osl : Array (Option Value)} {N ps : List Str} {φ : List D → Sto → R D} {m : Sl → Sto → O}
    (lk : U.K.lookup f = some ⟨oc, od, .func (PySem.W.fnOf name qual params body scope dV kV doc pm an cdv ct), osl⟩) (hcd : PySem.W.codeIn U.K cdv qual = true) (S : FnScope N ps scope)
    (hφ : ∀ ds μ, φ ds μ = if ds.length = ps.length then outO (m (startS N.length ds) μ) else .no)
    (hbody : ∀ (A : Around) (outer : List Env) (s : Shared) (H : Hp) (E : XK) (b : B0), Room k (A.deeper (envOfC qual scope s.heap.objs.size f cdv)) →
      JSs (cxOf (L2.CX U.P U.w) U.P U.w U.K U.mg U.base N qual scope f cdv A outer s H E) (U.fr (envOfC qual scope s.heap.objs.size f cdv).cells) b (fun cls d _ H => E cls d H) body m) :
    FnOk U.P U.w U.K U.mg U.base (L2.CX U.P U.w) (k + 1) f (PySem.W.fnOf name qual params body scope dV kV doc pm an cdv ct) ps (spF U φ) := by
  have len : ∀ vs H Q E, spF U φ vs H Q E → vs.length = ps.length := fun vs H Q E h => by
    obtain ⟨ds, μ, ρ, G, _, s, r, p⟩ := h
    rw [hφ] at p
    rw [r.length]
    by_cases hz : ds.length = ps.length
    · exact hz
    · rw [if_neg hz] at p; exact p.elim
  refine fn_of lk hcd S len fun A outer s H vs Q E hr hsp => ?_
  have hl := len _ _ _ _ hsp
  obtain ⟨ds, μ, ρ, G, ha, sh, r, p⟩ := hsp
  rw [hφ, if_pos (by rw [← r.length]; exact hl)] at p
  exact ⟨_, hbody A outer s H E ⟨H, ρ, G⟩ hr, startS N.length ds, μ, ρ, G, sr_start (SH.fr _ sh) (RVL.fr _ ha r), poS_of p⟩
end Q
/-! Q11: calls by what they come to. -/
namespace Q
open PySem PySem.Spec PyProof.Rows L2
/-- the call of a value comes to φ -/
def CallJ (X : Cx) (U : Wd) (b : B0) (W : WX) (f : Value) (φ : List D → Sto → R D) : Prop :=
  ∀ (pins : List (Addr × Obj)) (s : Shared) (σ : St) (H : Hp) (vs : List V) (us : List Value) (Q : VK) (sl : Sl) (μ : Sto) (ρ : List Addr) (G : Hp) (ds : List D),
    Inv X pins σ H s → Vals vs us → SR U b sl μ ρ G σ H → RVL U ρ G vs ds → PoE U b W sl ρ G σ Q (φ ds μ) → wpAny (model X.prog X.w) X.A (call f us) (EP X pins σ Q) X.xe s
/-- the arguments are there -/
abbrev AQ (U : Wd) (b : B0) (W : WX) (φ : List D → Sto → R D) (sl : Sl) (σ : St) (Q : VK) : List V → Hp → Prop := fun vs H1 => ∃ ds μ1 ρ1 G1, SR U b sl μ1 ρ1 G1 σ H1 ∧ RVL U ρ1 G1 vs ds ∧ PoE U b W sl ρ1 G1 σ Q (φ ds μ1)
def noStar (es : List Expr) : Bool := es.all fun e => !PySem.W.isStarred e
theorem noStar_any : ∀ {es : List Expr} (pos : Pos) (env : Env), noStar es = true → (backTo pos (starEach es env)).any (·.1) = false := by
  intro es pos env h
  have : ∀ es : List Expr, noStar es = true → (starEach es env).any (·.1) = false := fun es => by
    induction es with
    | nil => intro _; rfl
    | cons e es ih =>
      intro h
      unfold noStar at h
      rw [List.all_cons, Bool.and_eq_true] at h
      rw [star_not (by simpa using h.1) es env, List.any_cons, ih h.2]; rfl
  have h1 := this es h
  have hb : ∀ l : List (Bool × Sem Value), (backTo pos l).any (·.1) = l.any (·.1) := fun l => by
    unfold backTo
    simp [List.any_map, Function.comp_def]
  rw [hb]; exact h1
section
variable {X : Cx} {U : Wd} {b : B0} {W : WX} {x : Str} {p pos apos : Pos} {e : Expr} {es : List Expr} {ms : Sl → Sto → R (List D)} {φ : List D → Sto → R D}
/-- a def -/
theorem callJ_fn {U : Wd} {cl : List (Str × Addr)} {k : Nat} {f : Addr} (hX : XU X U) (F : FnR U.P U.w U.K U.mg U.base (L2.CX U.P U.w) k f (spF U φ)) (hr : Room k X.A) (tk : Takes X W) (hv : Backs φ) :
    CallJ X (U.fr cl) b W (.ref f) fun ds μ => if allA ds then φ ds μ else .no := by
  intro pins s σ H vs us Q sl μ ρ G ds I r S ra p
  dsimp only at p
  by_cases ha : allA ds = true
  · rw [if_pos ha] at p
    have sp := spF_of S ra ha hv p
    have F' := F
    rw [← hX.P, ← hX.w, ← hX.K, ← hX.mg, ← hX.base] at F'
    refine wpAny_call (codeAny_mono (F' X.A X.stack s H us vs Q (WE W σ) hr I.env0 r sp) fun r s' hq => ?_)
    cases r with
    | error e => exact passAt tk σ pins H s e s' I hq
    | ok fl =>
      cases fl with
      | ret u => exact I.after hq
      | next => exact False.elim hq
      | brk => exact False.elim hq
      | cont => exact False.elim hq
  · rw [if_neg ha] at p; exact p.elim
/-- f(..), f a thing of the written part -/
theorem je_callK {f : Value} (hc : CallJ X U b W f φ) (hg : Gl X x) (hm : X.mg x = some f) (hk : PySem.W.keepIn X.K f = true) (ha : JA X U b W (e :: es) ms) (hs : noStar (e :: es) = true) (hdb : (x == ("__debug__" : Str)) = false) :
    JE X U b W (.Call (.Name x p) (e :: es) [] pos) fun sl μ => (ms sl μ).bind φ := by
  refine ⟨fun pins s σ H Q I h => ?_⟩
  obtain ⟨sl, μ, ρ, G, S, pp⟩ := h
  refine wpAny_Call_Name_kw (ld_glob I hg hm ?_ hdb)
  unfold noStar at hs
  rw [List.all_cons, Bool.and_eq_true] at hs
  refine PySem.W.callWith_K (h₀ := X.base) I.ok.mod.kin hk (thn (ha.run pos pins s σ H (AQ U b W φ sl σ Q) I (rd_args S pp fun ds μ1 vs H1 ρ1 G1 s1 _ _ rv p1 => ⟨ds, μ1, ρ1, G1, s1, rv, p1⟩)) fun us s1 ⟨vs, H1, I1, r, ds, μ1, ρ1, G1, S1, ra, p1⟩ => ⟨I1.kIn, ?_⟩) (star_not (by simpa using hs.1) es X.env) (noStar_any pos X.env hs.2)
  exact hc pins s1 σ H1 vs us Q sl μ1 ρ1 G1 ds I1 r S1 ra p1
theorem je_callK0 {f : Value} (hc : CallJ X U b W f φ) (hg : Gl X x) (hm : X.mg x = some f) (hk : PySem.W.keepIn X.K f = true) (hdb : (x == ("__debug__" : Str)) = false) :
    JE X U b W (.Call (.Name x p) [] [] pos) fun _ μ => φ [] μ := by
  refine ⟨fun pins s σ H Q I h => ?_⟩
  obtain ⟨sl, μ, ρ, G, S, pp⟩ := h
  refine wpAny_Call_Name_kw (ld_glob I hg hm ?_ hdb)
  exact PySem.W.callWith_K0 I.kIn hk (hc pins s σ H [] [] Q sl μ ρ G [] I .nil S .nil pp)
/-- f(..), f a built-in function or type -/
theorem je_callB {id : String} (hc : CallJ X U b W (.builtin id) φ) (hg : Gl X x) (hm : X.mg x = none) (hv : bootBuiltins x = some (.builtin id)) (ha : JA X U b W (e :: es) ms) (hs : noStar (e :: es) = true) (hn : x ≠ "__name__") (hdb : (x == ("__debug__" : Str)) = false) :
    JE X U b W (.Call (.Name x p) (e :: es) [] pos) fun sl μ => (ms sl μ).bind φ := by
  refine ⟨fun pins s σ H Q I h => ?_⟩
  obtain ⟨sl, μ, ρ, G, S, pp⟩ := h
  refine wpAny_Call_Name_kw (ld_blt I hg hm hv ?_ hn hdb)
  unfold noStar at hs
  rw [List.all_cons, Bool.and_eq_true] at hs
  exact PyProof.Rows.callWith_builtin1 (thn (ha.run pos pins s σ H (AQ U b W φ sl σ Q) I (rd_args S pp fun ds μ1 vs H1 ρ1 G1 s1 _ _ rv p1 => ⟨ds, μ1, ρ1, G1, s1, rv, p1⟩)) fun us s1 ⟨vs, H1, I1, r, ds, μ1, ρ1, G1, S1, ra, p1⟩ => hc pins s1 σ H1 vs us Q sl μ1 ρ1 G1 ds I1 r S1 ra p1) (star_not (by simpa using hs.1) es X.env) (noStar_any pos X.env hs.2)
theorem je_callTy {T : String} (hc : CallJ X U b W (.type T) φ) (hg : Gl X x) (hm : X.mg x = none) (hv : bootBuiltins x = some (.type T)) (ha : JA X U b W (e :: es) ms) (hs : noStar (e :: es) = true) (hn : x ≠ "__name__") (hdb : (x == ("__debug__" : Str)) = false) :
    JE X U b W (.Call (.Name x p) (e :: es) [] pos) fun sl μ => (ms sl μ).bind φ := by
  refine ⟨fun pins s σ H Q I h => ?_⟩
  obtain ⟨sl, μ, ρ, G, S, pp⟩ := h
  refine wpAny_Call_Name_kw (ld_blt I hg hm hv ?_ hn hdb)
  unfold noStar at hs
  rw [List.all_cons, Bool.and_eq_true] at hs
  exact PyProof.Rows.callWith_type1 (thn (ha.run pos pins s σ H (AQ U b W φ sl σ Q) I (rd_args S pp fun ds μ1 vs H1 ρ1 G1 s1 _ _ rv p1 => ⟨ds, μ1, ρ1, G1, s1, rv, p1⟩)) fun us s1 ⟨vs, H1, I1, r, ds, μ1, ρ1, G1, S1, ra, p1⟩ => hc pins s1 σ H1 vs us Q sl μ1 ρ1 G1 ds I1 r S1 ra p1) (star_not (by simpa using hs.1) es X.env) (noStar_any pos X.env hs.2)
end
end Q
/-! Q12: attributes and methods. -/
namespace Q
open PySem PySem.Spec PyProof.Rows L2
/-- not super() -/
def attrOk : Expr → Bool
  | .Call (.Name id _) [] [] _ => id != ("super" : Str)
  | _ => true
theorem attr_base {o : Expr} (h : attrOk o = true) (m : Str) (env : Env) (whole : Sem Value) : attributeBase o m env whole = whole := by
  unfold attributeBase
  split
  · rename_i id x pos
    have h : (id != ("super" : Str)) = true := h
    simp only [h, Bool.true_or, if_true]
  · rfl
theorem starEach_all (env : Env) : ∀ {es : List Expr}, noStar es = true → (starEach es env).all (fun x => !x.1) = true
  | [], _ => rfl
  | e :: es, h => by
    unfold noStar at h
    rw [List.all_cons, Bool.and_eq_true] at h
    rw [star_not (by simpa using h.1) es env, List.all_cons, starEach_all env h.2]; rfl
theorem meth_eq {o : Expr} {m : Str} {apos pos : Pos} {es : List Expr} {env : Env} (ho : attrOk o = true) (hs : noStar es = true) (hl : es.length < 30) (hp : (apos.endLine == pos.line) = true) :
    eval (.Call (.Attribute o m apos) es [] pos) env = (do
      let ov ← eval o env
      standAt apos.atName
      let (f, first) ← holding [ov] (getMethod ov m (do return (← importBound o env).getD true))
      callWith pos f first (backTo pos (starEach es env)) (backToKw pos (keywordEach [] env))) := by
  have e1 : eval (.Call (.Attribute o m apos) es [] pos) env = (do
    let ov ← attributeBase o m env (eval o env)
    standAt apos.atName
    methodCall o m apos pos env ov (es.length + ([] : List Keyword).length) (backTo pos (starEach es env)) (backToKw pos (keywordEach [] env))) := rfl
  have few : methodCallForm (es.length + ([] : List Keyword).length) (backTo pos (starEach es env)) (backToKw pos (keywordEach [] env)) = true := by
    have h1 : (backTo pos (starEach es env)).all (fun x => !x.1) = true := by
      unfold backTo
      simpa [List.all_map, Function.comp_def] using starEach_all env hs
    unfold methodCallForm
    rw [h1]
    simp [backToKw, keywordEach, hl]
  rw [e1, attr_base ho]
  unfold methodCall calleeOf methodCallPos
  rw [few]
  simp only [if_true, hp, Bool.not_true, Bool.false_or]
  rfl
end Q
/-! Q13: things of the store. -/
namespace Q
open PySem PySem.Spec PyProof.Rows L2
section
variable {U : Wd} {b : B0} {W : WX} {sl : Sl} {μ : Sto} {ρ : List Addr} {G H : Hp} {σ : St} {p : Addr} {o : HO} {mo : MO}
theorem mrep_live (h : MRep U ρ G H p mo) (hn : mo ≠ .gone) : ∃ ho, H p = some ho ∧ (∀ ps, ho ≠ .tbl ps) ∧ (∀ c q, ho ≠ LamX.CodeO c q) ∧ ∀ φ, ho ≠ .ext φ := by
  cases mo with
  | lst ds => obtain ⟨xs, e, l⟩ := h; exact ⟨_, e, (fun _ z => by cases z), (fun c q z => by unfold LamX.CodeO at z; cases z), fun φ z => by cases z⟩
  | ins c ds => obtain ⟨dx, fs, e, n, l⟩ := h; exact ⟨_, e, (fun _ z => by cases z), (fun c q z => by unfold LamX.CodeO at z; cases z), fun φ z => by cases z⟩
  | set _ => exact h.elim
  | dct _ => exact h.elim
  | gone => exact absurd rfl hn
/-- a new thing that is known, and no more -/
theorem SH.aux (s : SH U b μ ρ G H) (hp : H p = none) : SH U b μ ρ G (upd H p o) := by
  have gp := s.gfree hp
  have rp : p ∉ ρ := fun z => s.rsome z hp
  refine ⟨fun a u e => ?_, s.ntb, s.len, s.nd, s.ap, fun i q u h1 h2 => ?_, s.pre, fun a u e n m => ?_, fun a e => ?_, s.gnew, s.gsub, s.rnew, tabsN_upd s.tabs hp, s.b0⟩
  · rw [upd_ne (ne_of_none e gp)]; exact s.sub a u e
  · have hq : q ∈ ρ := List.mem_of_getElem? h1
    exact (s.sto i q u h1 h2).mono (List.prefix_refl _) (Sub.refl _) (upd_ne (show q ≠ p from fun z => rp (z ▸ hq)))
  · have h1 := s.ext a u e n m
    rw [upd_ne (ne_of_none h1 hp)]; exact h1
  · by_cases h : a = p
    · subst h; rw [upd_same] at e; cases e
    · rw [upd_ne h] at e; exact s.dom a e
/-- a new thing of the store -/
theorem SH.push (s : SH U b μ ρ G H) (hp : H p = none) (hm : MRep U (ρ ++ [p]) G (upd H p o) p mo) : SH U b (μ ++ [mo]) (ρ ++ [p]) G (upd H p o) := by
  have t := s.aux (o := o) hp
  have gp := s.gfree hp
  have rp : p ∉ ρ := fun z => s.rsome z hp
  have pr : ρ <+: ρ ++ [p] := ⟨[p], rfl⟩
  refine ⟨t.sub, t.ntb, by rw [List.length_append, List.length_append, s.len]; rfl, ?_, fun i q u h1 h2 h3 => ?_, fun i q u h1 h2 => ?_, s.pre.trans pr, t.ext, t.dom, t.gnew, t.gsub, fun q hq => ?_, t.tabs, t.b0⟩
  · rw [List.nodup_append]
    exact ⟨s.nd, by simp, fun a ha c hc z => by simp at hc; subst hc; subst z; exact rp ha⟩
  · by_cases hi : i < ρ.length
    · rw [List.getElem?_append_left hi] at h1
      rw [List.getElem?_append_left (by rw [← s.len]; exact hi)] at h2
      exact s.ap i q u h1 h2 h3
    · rw [List.getElem?_append_right (by omega)] at h1
      have : q = p := by
        cases hz : i - ρ.length with
        | zero => rw [hz] at h1; simpa using h1.symm
        | succ n => rw [hz] at h1; simp at h1
      rw [this]; exact gp
  · by_cases hi : i < ρ.length
    · rw [List.getElem?_append_left hi] at h1
      rw [List.getElem?_append_left (by rw [← s.len]; exact hi)] at h2
      exact (t.sto i q u h1 h2).mono pr (Sub.refl _) rfl
    · have hl := s.len
      rw [List.getElem?_append_right (by omega)] at h1
      rw [List.getElem?_append_right (by omega)] at h2
      cases hz : i - ρ.length with
      | zero =>
        rw [hz] at h1
        rw [show i - μ.length = 0 by omega] at h2
        simp at h1 h2
        subst h1; subst h2
        exact hm
      | succ n => rw [hz] at h1; simp at h1
  · rcases List.mem_append.mp hq with z | z
    · exact s.rnew q z
    · simp at z; subst z; exact .inr (s.dom q hp)
theorem nodup_at {l : List Addr} (h : l.Nodup) {i j : Nat} {a : Addr} (e1 : l[i]? = some a) (e2 : l[j]? = some a) : i = j := by
  obtain ⟨h1, e1⟩ := List.getElem?_eq_some_iff.mp e1
  obtain ⟨h2, e2⟩ := List.getElem?_eq_some_iff.mp e2
  exact (List.getElem_inj h).mp (e1.trans e2.symm)
/-- a thing of the store is written -/
theorem SH.wr {i : Nat} {m0 : MO} (s : SH U b μ ρ G H) (hi : ρ[i]? = some p) (hu : μ[i]? = some m0) (hn : m0 ≠ .gone) (hm : MRep U ρ G (upd H p o) p mo) : SH U b (μ.set i mo) ρ G (upd H p o) := by
  obtain ⟨ho, e0, nt, nc, ne⟩ := mrep_live (s.sto i p m0 hi hu) hn
  have gp := s.ap i p m0 hi hu hn
  have pr : p ∈ ρ := List.mem_of_getElem? hi
  refine ⟨fun a u e => ?_, s.ntb, by rw [List.length_set]; exact s.len, s.nd, fun j q u h1 h2 h3 => ?_, fun j q u h1 h2 => ?_, s.pre, fun a u e n m => ?_, fun a e => ?_, s.gnew, s.gsub, s.rnew, fun q hq => ?_, s.b0⟩
  · rw [upd_ne (ne_of_none e gp)]; exact s.sub a u e
  · by_cases hj : i = j
    · subst hj; rw [hi] at h1; cases h1; exact gp
    · rw [List.getElem?_set_ne hj] at h2; exact s.ap j q u h1 h2 h3
  · by_cases hj : i = j
    · subst hj
      rw [hi] at h1; cases h1
      rw [List.getElem?_set_self (List.getElem?_eq_some_iff.mp hu).1] at h2
      cases h2
      exact hm
    · rw [List.getElem?_set_ne hj] at h2
      exact (s.sto j q u h1 h2).mono (List.prefix_refl _) (Sub.refl _) (upd_ne fun z => hj (nodup_at s.nd hi (z ▸ h1)))
  · have h1 := s.ext a u e n m
    rw [upd_ne]
    · exact h1
    · rintro rfl
      rcases s.rnew a pr with z | z
      · exact m z
      · rw [e] at z; cases z
  · by_cases h : a = p
    · subst h; rw [upd_same] at e; cases e
    · rw [upd_ne h] at e; exact s.dom a e
  · obtain ⟨ps, e1, e2, e3⟩ := s.tabs q hq
    refine ⟨ps, ?_, e2, fun pos cv h => ?_⟩
    · rw [upd_ne]
      · exact e1
      · intro z; rw [z, e0] at e1; exact nt _ (Option.some.inj e1)
    · obtain ⟨c, h1, h2⟩ := e3 pos cv h
      refine ⟨c, h1, ?_⟩
      rw [upd_ne]
      · exact h2
      · rintro rfl; rw [e0] at h2; exact nc _ _ (Option.some.inj h2)
/-- a thing of the store will not change any more -/
theorem SH.frz {i : Nat} {m0 : MO} (s : SH U b μ ρ G H) (hi : ρ[i]? = some p) (hu : μ[i]? = some m0) (hn : m0 ≠ .gone) (hp : H p = some o) : SH U b (μ.set i .gone) ρ (upd G p o) H := by
  obtain ⟨ho, e0, nt, nc, ne⟩ := mrep_live (s.sto i p m0 hi hu) hn
  rw [hp] at e0
  cases e0
  have gp := s.ap i p m0 hi hu hn
  have pr : p ∈ ρ := List.mem_of_getElem? hi
  refine ⟨fun a u e => ?_, fun a ps e => ?_, by rw [List.length_set]; exact s.len, s.nd, fun j q u h1 h2 h3 => ?_, fun j q u h1 h2 => ?_, s.pre, s.ext, s.dom, fun a e => ?_, s.gsub.trans (sub_upd gp), s.rnew, s.tabs, s.b0⟩
  · by_cases h : a = p
    · subst h; rw [upd_same] at e; rw [hp, e]
    · rw [upd_ne h] at e; exact s.sub a u e
  · by_cases h : a = p
    · subst h; rw [upd_same] at e; exact nt ps (Option.some.inj e)
    · rw [upd_ne h] at e; exact s.ntb a ps e
  · by_cases hj : i = j
    · subst hj
      rw [List.getElem?_set_self (List.getElem?_eq_some_iff.mp hu).1] at h2
      cases h2
      exact absurd rfl h3
    · rw [List.getElem?_set_ne hj] at h2
      rw [upd_ne (show q ≠ p from fun z => hj (nodup_at s.nd hi (z ▸ h1)))]
      exact s.ap j q u h1 h2 h3
  · by_cases hj : i = j
    · subst hj
      rw [List.getElem?_set_self (List.getElem?_eq_some_iff.mp hu).1] at h2
      cases h2
      rw [hi] at h1; cases h1
      exact ⟨_, hp, ne, nt⟩
    · rw [List.getElem?_set_ne hj] at h2
      exact (s.sto j q u h1 h2).mono (List.prefix_refl _) (sub_upd gp) rfl
  · by_cases h : a = p
    · subst h
      rcases s.rnew a pr with z | z
      · exact .inr (.inr (.inr z))
      · exact .inr (.inl z)
    · rw [upd_ne h] at e ⊢; exact s.gnew a e
/-- slots, over another heap -/
theorem SR.over {μ' : Sto} {ρ' : List Addr} {G' H' : Hp} (s : SR U b sl μ ρ G σ H) (t : SH U b μ' ρ' G' H') (hr : ρ <+: ρ') (hg : Sub G G') : SR U b sl μ' ρ' G' σ H' :=
  ⟨t, fun i d e => let ⟨v, h1, h2⟩ := s.sl i d e; ⟨v, h1, h2.mono hr hg⟩, s.ln⟩
end
end Q
/-! Q14: instances. -/
namespace Q
open PySem PySem.Spec PyProof.Rows L2
/-- C(..): a new instance, then __init__, then it stands still -/
def mkEnd (c nf n : Nat) (r : D) (μ : Sto) : R D := match r, μ[n]? with
  | .non, some (.ins c' fs) => if c' == c && fs.length == nf && allP fs then .ok (.ins c fs) (μ.set n .gone) else .no
  | _, _ => .no
def mkR (c nf : Nat) (φ : List D → Sto → R D) (ds : List D) (μ : Sto) : R D := if allA ds then (φ (.ref μ.length :: ds) (μ ++ [.ins c []])).bind (mkEnd c nf μ.length) else .no
/-- .. and stays a thing of the store -/
def mkEndM (n : Nat) (r : D) (μ : Sto) : R D := match r with
  | .non => .ok (.ref n) μ
  | _ => .no
def mkRM (c : Nat) (φ : List D → Sto → R D) (ds : List D) (μ : Sto) : R D := if allA ds then (φ (.ref μ.length :: ds) (μ ++ [.ins c []])).bind (mkEndM μ.length) else .no
section
variable {X : Cx} {U : Wd} {b : B0} {W : WX} {pos : Pos} {cl : List (Str × Addr)}
theorem mkEnd_ok {c nf n : Nat} {r d : D} {μ μ' : Sto} (h : mkEnd c nf n r μ = .ok d μ') : ∃ fs, r = .non ∧ μ[n]? = some (.ins c fs) ∧ fs.length = nf ∧ allP fs = true ∧ d = .ins c fs ∧ μ' = μ.set n .gone := by
  unfold mkEnd at h
  split at h
  · rename_i c' fs he
    split at h
    · rename_i hz
      rw [Bool.and_eq_true, Bool.and_eq_true, beq_iff_eq, beq_iff_eq] at hz
      obtain ⟨⟨h1, h2⟩, h3⟩ := hz
      subst h1
      cases h
      exact ⟨fs, rfl, he, h2, h3, rfl, rfl⟩
    · cases h
  · cases h
theorem mkEnd_ex {c nf n : Nat} {r : D} {μ μ' : Sto} {x : Ex} (h : mkEnd c nf n r μ = .ex x μ') : False := by
  unfold mkEnd at h
  split at h
  · split at h <;> cases h
  · cases h
theorem made_sr {sl : Sl} {μ : Sto} {ρ : List Addr} {G H : Hp} {σ : St} {c : Nat} {x dx : Addr} (S : SR U b sl μ ρ G σ H) (hx : H x = none) (hd : H dx = none) (hne : dx ≠ x) :
    SH U b (μ ++ [.ins c []]) (ρ ++ [x]) G (upd (upd H dx (.own x)) x (.ins (U.cA c) dx [])) := by
  have s1 := S.h.aux (o := .own x) hd
  have hx' : upd H dx (.own x) x = none := by rw [upd_ne (Ne.symm hne)]; exact hx
  exact s1.push hx' ⟨dx, [], upd_same, by simp, .nil, rfl⟩
theorem spF_make {sl : Sl} {μ : Sto} {ρ : List Addr} {G H : Hp} {σ : St} {Q : VK} {φ : List D → Sto → R D} {c nf : Nat} {x dx : Addr} {vs : List V} {ds : List D} (S : SR (U.fr cl) b sl μ ρ G σ H) (ra : RVL (U.fr cl) ρ G vs ds) (hnf : (U.cF c).length = nf)
    (p : PoE (U.fr cl) b W sl ρ G σ Q (mkR c nf φ ds μ)) (hx : H x = none) (hd : H dx = none) (hne : dx ≠ x) :
    spF U φ (.ref x :: vs) (upd (upd H dx (.own x)) x (.ins (U.cA c) dx [])) (fun v H2 => v = .non ∧ Q (.ref x) H2) (WE W σ) := by
  unfold mkR at p
  by_cases ha : allA ds = true
  · rw [if_pos ha] at p
    have s1 : SH (U.fr cl) b (μ ++ [.ins c []]) (ρ ++ [x]) G (upd (upd H dx (.own x)) x (.ins (U.cA c) dx [])) := made_sr (U := U.fr cl) S hx hd hne
    have pr : ρ <+: ρ ++ [x] := ⟨[x], rfl⟩
    have hl := S.h.len
    refine ⟨.ref μ.length :: ds, μ ++ [.ins c []], ρ ++ [x], G, by unfold allA; rw [ha]; rfl, SH.fr (U := U.fr cl) U.cl s1.here, .cons (.ref (by rw [← hl]; simp)) (RVL.fr (U := U.fr cl) U.cl ha (ra.mono pr (Sub.refl _))), ?_⟩
    cases e : φ (.ref μ.length :: ds) (μ ++ [.ins c []]) with
    | no => rw [e] at p; exact p
    | ex y μ2 =>
      rw [e] at p
      exact fun cls dd H' ρ' G' sh hx => p cls dd H' ρ' G' (S.over (s1.trans (sh.fr cl)) (pr.trans sh.pre) sh.gsub) (pr.trans sh.pre) sh.gsub (hx.fr cl)
    | ok d μ2 =>
      rw [e] at p
      intro v H2 ρ2 G2 sh rv
      cases e2 : mkEnd c nf μ.length d μ2 with
      | no => dsimp only [R.bind] at p; rw [e2] at p; exact p.elim
      | ex y μ3 => exact (mkEnd_ex e2).elim
      | ok d3 μ3 =>
        dsimp only [R.bind] at p
        rw [e2] at p
        obtain ⟨fs, rfl, h2, h3, h4, rfl, rfl⟩ := mkEnd_ok e2
        cases rv with
        | pure rv =>
          cases rv
          refine ⟨rfl, ?_⟩
          have hp2 : ρ2[μ.length]? = some x := pre_get sh.pre (by rw [← hl]; simp)
          have s2 : SH (U.fr cl) b μ2 ρ2 G2 H2 := s1.trans (sh.fr cl)
          obtain ⟨dx', gs, e3, e4, e5, e6⟩ := s2.sto _ _ _ hp2 h2
          have gx := s2.ap _ _ _ hp2 h2 (by simp)
          have s3 := s2.frz hp2 h2 (by simp) e3
          refine p _ H2 ρ2 _ (S.over s3 (pr.trans sh.pre) (sh.gsub.trans (sub_upd gx))) (pr.trans sh.pre) (sh.gsub.trans (sub_upd gx)) (.pure (.ins (U := U.fr cl) upd_same ?_ ((e5.allP h4).mono (sub_upd gx))))
          rw [e4, List.take_of_length_le]
          show (U.cF c).length ≤ _
          omega
  · rw [if_neg ha] at p; exact p.elim
theorem callJ_make {U : Wd} {φ : List D → Sto → R D} {k c nf : Nat} {f : Addr} (hX : XU X U) (M : Mk U.K (U.cA c) f) (F : FnR U.P U.w U.K U.mg U.base (L2.CX U.P U.w) k f (spF U φ)) (hr : Room (k + 1) X.A) (tk : Takes X W) (hnf : (U.cF c).length = nf) :
    CallJ X (U.fr cl) b W (.ref (U.cA c)) (mkR c nf φ) := by
  intro pins s σ H vs us Q sl μ ρ G ds I r S ra p
  have F' := F
  have M' := M
  rw [← hX.P, ← hX.w, ← hX.K, ← hX.mg, ← hX.base] at F'
  rw [← hX.K] at M'
  have hq := spF_make (x := s.heap.objs.size + 1) (dx := s.heap.objs.size) S ra hnf p (I.hok.fresh (Nat.le_succ _)) (I.hok.fresh (Nat.le_refl _)) (Nat.ne_of_lt (Nat.lt_succ_self _))
  have I2 := Inv.made (C := U.cA c) I
  refine wpAny_call (make_map (f := f) I.kIn M'.makes M'.init (beq_iff_eq.mp M'.fn) (codeAny_mono (F' _ X.stack _ _ (Value.ref (s.heap.objs.size + 1) :: us) (.ref (s.heap.objs.size + 1) :: vs) _ (WE W σ) (hr.make (U.cA c) us [])
    (I2.env0.make (U.cA c) us []) (.cons rfl r) hq) fun r s' hq' => ?_))
  cases r with
  | error e => exact passAt tk σ pins _ _ e s' I2 hq'
  | ok fl =>
    cases fl with
    | ret u =>
      obtain ⟨v, H', I3, rv, ev, q3⟩ := I2.after hq'
      subst ev
      exact ⟨rv, ⟨V.ref (s.heap.objs.size + 1), H', I3, rfl, q3⟩⟩
    | next => exact False.elim hq'
    | brk => exact False.elim hq'
    | cont => exact False.elim hq'
end
end Q
/-! Q15: attributes, properties, methods. -/
namespace Q
open PySem PySem.Spec PyProof.Rows L2
/-- the class of an instance and its attributes -/
def insOf (μ : Sto) : D → Option (Nat × List D)
  | .ins c fs => some (c, fs)
  | .ref i => match μ[i]? with
    | some (.ins c fs) => some (c, fs)
    | _ => none
  | _ => none
/-- e.f: ix tells where f stands among a class's attributes, pr tells the property's def -/
def attR (ix pr : Nat → Option Nat) (Φ : Nat → List D → Sto → R D) (d : D) (μ : Sto) : R D := match insOf μ d with
  | some (c, fs) => (match ix c with
    | some j => R.of fs[j]? μ
    | none => (match pr c with
      | some k => noEx (Φ k [d] μ)
      | none => .no))
  | none => .no
/-- what attributes that are asked must be: ix's and pr's classes have them so -/
structure AttOk (U : Wd) (lv : Nat) (Φ : Nat → List D → Sto → R D) (f : Str) (ix pr : Nat → Option Nat) : Prop where
  ix : ∀ c j, ix c = some j → (U.cF c)[j]? = some f ∧ (U.cF c).Nodup ∧ NoAttr U.K (U.cA c) f ∧ Cls U.K (U.cA c)
  pr : ∀ c k, pr c = some k → Backs (Φ k) ∧ Cls U.K (U.cA c) ∧ ∃ p g, PropOf U.K (U.cA c) f p g ∧ FnR U.P U.w U.K U.mg U.base (L2.CX U.P U.w) lv g (spF U (Φ k))
theorem look_at {f : Str} : ∀ {fs : List (Str × V)} {j : Nat}, (fs.map (·.1)).Nodup → (fs.map (·.1))[j]? = some f → fs.lookup f = (fs.map (·.2))[j]?
  | [], _, _, h => by simp at h
  | (g, v) :: fs, 0, _, h => by
    simp at h
    subst h
    simp [List.lookup]
  | (g, v) :: fs, j + 1, nd, h => by
    have nd' := List.nodup_cons.mp nd
    have h' : (fs.map (·.1))[j]? = some f := by simpa using h
    have hne : f ≠ g := fun z => nd'.1 (z ▸ List.mem_of_getElem? h')
    have := look_at (fs := fs) (j := j) nd'.2 h'
    simp only [List.lookup, List.map_cons, List.getElem?_cons_succ]
    rw [show (f == g) = false from by simpa using hne]
    exact this
theorem look_none {f : Str} : ∀ {fs : List (Str × V)}, f ∉ fs.map (·.1) → fs.lookup f = none
  | [], _ => rfl
  | (g, v) :: fs, h => by
    have h1 : f ≠ g := fun z => h (by simp [z])
    simp only [List.lookup]
    rw [show (f == g) = false from by simpa using h1]
    exact look_none fun z => h (by simp [z])
section
variable {X : Cx} {U : Wd} {b : B0} {W : WX} {pos apos : Pos} {cl : List (Str × Addr)}
/-- an instance, in the heap -/
theorem ins_at {sl : Sl} {μ : Sto} {ρ : List Addr} {G H : Hp} {σ : St} {v : V} {d : D} {c : Nat} {ds : List D} (S : SR U b sl μ ρ G σ H) (r : RV U ρ G v d) (h : insOf μ d = some (c, ds)) :
    ∃ a dx fs, v = .ref a ∧ H a = some (.ins (U.cA c) dx fs) ∧ fs.map (·.1) = (U.cF c).take ds.length ∧ RVL U ρ G (fs.map (·.2)) ds := by
  cases d with
  | ins c' fs' =>
    cases h
    cases r with
    | pure r =>
      cases r with
      | ins h1 h2 h3 =>
        refine ⟨_, _, _, rfl, S.h.sub _ _ h1, ?_, h3.rvl⟩
        have := congrArg List.length h2
        rw [List.length_map] at this
        have h4 := h3.length
        rw [List.length_map] at h4
        rw [h2, List.take_of_length_le (by omega)]
  | ref i =>
    cases r with
    | @ref _ a e =>
      simp only [insOf] at h
      split at h
      · rename_i c' fs' he
        cases h
        obtain ⟨dx, fs, e1, e2, e3, _⟩ := S.h.sto i a _ e he
        exact ⟨a, dx, fs, rfl, e1, e2, e3⟩
      · cases h
    | pure r => cases r
  | _ => cases h
theorem ins_look {f : Str} {c j : Nat} {ds : List D} {d : D} {ρ : List Addr} {G : Hp} {fs : List (Str × V)} (h1 : (U.cF c)[j]? = some f) (nd : (U.cF c).Nodup) (h2 : fs.map (·.1) = (U.cF c).take ds.length) (h3 : RVL U ρ G (fs.map (·.2)) ds) (h4 : ds[j]? = some d) :
    ∃ v, fs.lookup f = some v ∧ RV U ρ G v d := by
  obtain ⟨v, e1, e2⟩ := h3.get h4
  refine ⟨v, ?_, e2⟩
  have hj := (List.getElem?_eq_some_iff.mp h4).1
  rw [look_at (j := j), e1]
  · rw [h2]; exact nd.sublist (List.take_sublist _ _)
  · rw [h2, List.getElem?_take_of_lt hj]; exact h1
theorem je_att {U : Wd} {lv : Nat} {Φ : Nat → List D → Sto → R D} {e : Expr} {f : Str} {ix pr : Nat → Option Nat} {me : Sl → Sto → R D} (hX : XU X U) (A : AttOk U lv Φ f ix pr) (hr : Room (lv + 1) X.A) (he : JE X (U.fr cl) b W e me) (ho : attrOk e = true) :
    JE X (U.fr cl) b W (.Attribute e f pos) fun sl μ => (me sl μ).bind (attR ix pr Φ) := by
  refine ⟨fun pins s σ H Q I h => ?_⟩
  obtain ⟨sl, μ, ρ, G, S, p⟩ := h
  refine attr_of (attr_base ho _ _ _) (thn (he.run pins s σ H (fun v H1 => ∃ d μ1 ρ1 G1, SR (U.fr cl) b sl μ1 ρ1 G1 σ H1 ∧ RV (U.fr cl) ρ1 G1 v d ∧ PoE (U.fr cl) b W sl ρ1 G1 σ Q (attR ix pr Φ d μ1)) I (rd_step (α := Unit) S p fun d μ1 v H1 ρ1 G1 s1 _ _ rv p1 => ⟨d, μ1, ρ1, G1, s1, rv, p1⟩)) fun u s1 ⟨v, H1, I1, rx, d, μ1, ρ1, G1, S1, rv, p1⟩ => ?_)
  unfold attR at p1
  cases e1 : insOf μ1 d with
  | none => rw [e1] at p1; exact p1.elim
  | some cf =>
    obtain ⟨c, ds⟩ := cf
    rw [e1] at p1
    dsimp only at p1
    obtain ⟨a, dx, fs, rfl, ea, h2, h3⟩ := ins_at S1 rv e1
    obtain rfl : u = Value.ref a := rx
    cases e2 : ix c with
    | some j =>
      rw [e2] at p1
      dsimp only at p1
      obtain ⟨d', hd, pp⟩ := p1.of
      obtain ⟨q1, q2, q3, q4⟩ := A.ix c j e2
      obtain ⟨w, l1, l2⟩ := ins_look (U := U.fr cl) q1 q2 h2 h3 hd
      rw [← hX.K] at q3 q4
      exact getattr_ok I1 ea q4 q3 l1 fun u2 s2 I2 r2 => ⟨w, H1, I2, r2, pp.fin S1 l2⟩
    | none =>
      rw [e2] at p1
      dsimp only at p1
      cases e3 : pr c with
      | none => rw [e3] at p1; exact p1.elim
      | some k =>
        rw [e3] at p1
        dsimp only at p1
        obtain ⟨hv, hc, q, g, hp, F⟩ := A.pr c k e3
        have I2 := I1.tok (s1.toks + 1)
        obtain ⟨mA, O, _, _, _, _⟩ := ins_get I1.hok ea
        obtain ⟨od, J, _⟩ := O.look
        obtain ⟨rest, hrec⟩ := hp.rec_
        rw [← hX.K] at hrec hp hc
        rw [← hX.P, ← hX.w, ← hX.K, ← hX.mg, ← hX.base] at F
        have hcs : (PySem.W.clsIn X.K (U.cA c)).isSome = true := by
          obtain ⟨cd, h, _⟩ := PySem.W.any_some hc.hd
          rw [h]; rfl
        have ha : allA [d] = true := by
          cases rv with
          | ref => rfl
          | pure r => cases r <;> rfl
          | nfn => cases e1
          | clo => rfl
        have sp : spF U (Φ k) [.ref a] H1 Q (fun _ _ _ => False) := by
          refine ⟨[d], μ1, ρ1, G1, ha, SH.fr (U := U.fr cl) U.cl S1.h.here, RVL.fr (U := U.fr cl) U.cl ha (.cons rv .nil), ?_⟩
          cases e4 : Φ k [d] μ1 with
          | no => rw [e4] at p1; exact p1
          | ex x μ2 => rw [e4] at p1; exact p1.elim
          | ok d2 μ2 =>
            rw [e4] at p1
            exact fun v H' ρ' G' sh rv => p1 v H' ρ' G' (S1.on (sh.fr cl)) sh.pre sh.gsub (rv.fr cl (isV_isA (hv _ _ _ _ e4)))
        refine PySem.W.get_bind I1.kIn J (PySem.W.plainGet_of (hc.get f)).1 (PySem.W.findObj_data hcs hp.at_ hp.get hp.tak) (PySem.W.plainGet_of (hc.get f)).2 (wpAny_call (PySem.W.prop_get (s := { s1 with toks := s1.toks + 1 }) I1.kIn hrec ?_))
        refine codeAny_mono (F X.A.in1 X.stack { s1 with toks := s1.toks + 1 } H1 [.ref a] [.ref a] Q (fun _ _ _ => False) hr.in1 I2.env0.in1 (.cons rfl .nil) sp) fun r s' hq => ?_
        cases r with
        | error er =>
          obtain ⟨_, _, _, _, _, _, _, _, _, _, _, _, z⟩ := hq
          exact z.elim
        | ok fl =>
          cases fl with
          | ret u =>
            obtain ⟨v, H', I3, rv, q3⟩ := I2.after hq
            show wpAny _ _ (handedOut u) _ _ _
            rw [PySem.W.handedOut_of (handed_of rv)]
            exact wpAny_pure ⟨v, H', I3, rv, q3⟩
          | next => exact False.elim hq
          | brk => exact False.elim hq
          | cont => exact False.elim hq
end
end Q
/-! Q16: methods; storing attributes. -/
namespace Q
open PySem PySem.Spec PyProof.Rows L2
def callA (φ : List D → Sto → R D) (ds : List D) (μ : Sto) : R D := if allA ds then φ ds μ else .no
/-- o.m(..): mt tells a class's method, cm a class's classmethod (true) or staticmethod -/
def methR (mt : Nat → Option Nat) (cm : Nat → Option (Bool × Nat)) (Φ : Nat → List D → Sto → R D) (ms : Sto → R (List D)) (d : D) (μ : Sto) : R D := match d with
  | .cls c => (match cm c with
    | some (true, k) => (ms μ).bind fun ds μ => callA (Φ k) (.cls c :: ds) μ
    | some (false, k) => (ms μ).bind (callA (Φ k))
    | none => .no)
  | d => (match insOf μ d with
    | some (c, _) => (match mt c with
      | some k => (ms μ).bind fun ds μ => callA (Φ k) (d :: ds) μ
      | none => .no)
    | none => .no)
structure MethOk (U : Wd) (lv : Nat) (Φ : Nat → List D → Sto → R D) (m : Str) (mt : Nat → Option Nat) (cm : Nat → Option (Bool × Nat)) : Prop where
  hmt : ∀ c k, mt c = some k → Backs (Φ k) ∧ Cls U.K (U.cA c) ∧ m ∉ U.cF c ∧ ∃ g, Meth U.K (U.cA c) m g ∧ FnR U.P U.w U.K U.mg U.base (L2.CX U.P U.w) lv g (spF U (Φ k))
  hcm : ∀ c k, cm c = some (true, k) → Backs (Φ k) ∧ ∃ mc p g, ClX.CRead U.K (U.cA c) mc ∧ ClX.CMet U.K (U.cA c) mc m p g ∧ FnR U.P U.w U.K U.mg U.base (L2.CX U.P U.w) lv g (spF U (Φ k))
  hsm : ∀ c k, cm c = some (false, k) → Backs (Φ k) ∧ ∃ mc p g, ClX.CRead U.K (U.cA c) mc ∧ PySem.W.findCls U.K (.ref (U.cA c)) mc m = some (.get (.builtin "staticmethod.__get__") (.ref p) .none (.ref (U.cA c))) ∧ (∃ rest, PySem.W.recIn U.K p "staticmethod" = some (.ref g :: rest)) ∧
    PySem.W.keepIn U.K (.ref g) = true ∧ FnR U.P U.w U.K U.mg U.base (L2.CX U.P U.w) lv g (spF U (Φ k))
section
variable {X : Cx} {b : B0} {W : WX} {pos apos : Pos} {cl : List (Str × Addr)}
theorem code_fn {U : Wd} {k : Nat} {f : Addr} {φ : List D → Sto → R D} {pins : List (Addr × Obj)} {s : Shared} {σ : St} {H : Hp} {vs : List V} {us : List Value} {Q : VK} {sl : Sl} {μ : Sto} {ρ : List Addr} {G : Hp} {ds : List D} (hX : XU X U)
    (F : FnR U.P U.w U.K U.mg U.base (L2.CX U.P U.w) k f (spF U φ)) (hr : Room k X.A) (tk : Takes X W) (hv : Backs φ) (I : Inv X pins σ H s) (r : Vals vs us) (S : SR (U.fr cl) b sl μ ρ G σ H) (ra : RVL (U.fr cl) ρ G vs ds) (p : PoE (U.fr cl) b W sl ρ G σ Q (callA φ ds μ)) :
    codeAny (model X.prog X.w) X.A (.call (.ref f) ⟨us, []⟩) (fun r s' => match r with | .ok (.ret v) => EP X pins σ Q v s' | .ok _ => False | .error e => X.xe e s') s := by
  unfold callA at p
  by_cases ha : allA ds = true
  · rw [if_pos ha] at p
    have sp := spF_of S ra ha hv p
    have F' := F
    rw [← hX.P, ← hX.w, ← hX.K, ← hX.mg, ← hX.base] at F'
    refine codeAny_mono (F' X.A X.stack s H us vs Q (WE W σ) hr I.env0 r sp) fun r s' hq => ?_
    cases r with
    | error e => exact passAt tk σ pins H s e s' I hq
    | ok fl =>
      cases fl with
      | ret u => exact I.after hq
      | next => exact False.elim hq
      | brk => exact False.elim hq
      | cont => exact False.elim hq
  · rw [if_neg ha] at p; exact p.elim
theorem callJ_A {U : Wd} {k : Nat} {f : Addr} {φ : List D → Sto → R D} (hX : XU X U) (F : FnR U.P U.w U.K U.mg U.base (L2.CX U.P U.w) k f (spF U φ)) (hr : Room k X.A) (tk : Takes X W) (hv : Backs φ) : CallJ X (U.fr cl) b W (.ref f) (callA φ) :=
  fun pins s σ H vs us Q sl μ ρ G ds I r S ra p => wpAny_call (code_fn hX F hr tk hv I r S ra p)
/-- a call's arguments, then the call -/
theorem callw {U : Wd} {P : Heap → Prop} {f : Value} {first : List Value} {es : List Expr} {ms : Sl → Sto → R (List D)} {κ : List D → Sto → R D} {pins pins' : List (Addr × Obj)} {s : Shared} {σ : St} {H : Hp} {Q : VK} {sl : Sl} {μ : Sto} {ρ : List Addr} {G : Hp}
    (hk : ∀ h, P h → ∃ k, (k = Keeper.frame ∨ k = Keeper.machine ∨ k = Keeper.boundFrame) ∧ PySem.W.Looks (model X.prog X.w) h (keeperOf f) k) (ha : JA X U b W es ms) (hs : noStar es = true) (I : Inv X pins σ H s) (S : SR U b sl μ ρ G σ H) (p : PoE U b W sl ρ G σ Q ((ms sl μ).bind κ))
    (h : ∀ us s1 vs H1 ds μ1 ρ1 G1, Inv X pins σ H1 s1 → Vals vs us → SR U b sl μ1 ρ1 G1 σ H1 → ρ <+: ρ1 → Sub G G1 → RVL U ρ1 G1 vs ds → PoE U b W sl ρ1 G1 σ Q (κ ds μ1) → P s1.heap ∧ wpAny (model X.prog X.w) X.A (call f (first ++ us)) (EP X pins' σ Q) X.xe s1) :
    wpAny (model X.prog X.w) X.A (callWith pos f first (backTo pos (starEach es X.env)) (backToKw pos (keywordEach [] X.env))) (EP X pins' σ Q) X.xe s := by
  have q := thn (ha.run pos pins s σ H (fun vs H1 => ∃ ds μ1 ρ1 G1, SR U b sl μ1 ρ1 G1 σ H1 ∧ ρ <+: ρ1 ∧ Sub G G1 ∧ RVL U ρ1 G1 vs ds ∧ PoE U b W sl ρ1 G1 σ Q (κ ds μ1)) I
      (rd_args S p fun ds μ1 vs H1 ρ1 G1 s1 hr hg rr p1 => ⟨ds, μ1, ρ1, G1, s1, hr, hg, rr, p1⟩)) fun us s1 ⟨vs, H1, I1, rr, ds, μ1, ρ1, G1, S1, hr, hg, ra, p1⟩ => h us s1 vs H1 ds μ1 ρ1 G1 I1 rr S1 hr hg ra p1
  cases es with
  | nil =>
    refine PySem.W.callWith_of (P := P) rfl hk ?_
    unfold evalArgs
    show wpAny _ _ (spliced [] >>= _) _ _ s
    refine wpAny_bind (thn q fun us s1 hq => wpAny_bind (wpAny_pure ?_))
    refine wpAny_holding ?_
    exact wpAny_bind (wpAny_pure (wpAny_bind (wpAny_pure (wpAny_pure hq))))
  | cons e es =>
    unfold noStar at hs
    rw [List.all_cons, Bool.and_eq_true] at hs
    have he := star_not (e := e) (by simpa using hs.1) es X.env
    have hpl := noStar_any pos X.env hs.2
    rw [he] at q ⊢
    exact PySem.W.callWith_of (P := P) (by show ((false || (backTo pos (starEach es X.env)).any (·.1)) || false) = false; rw [hpl]; rfl) hk (Calls.evalArgs_plain q)
/-- o.m(..), behind the receiver -/
theorem meth_tail {U : Wd} {lv : Nat} {Φ : Nat → List D → Sto → R D} {m : Str} {mt : Nat → Option Nat} {cm : Nat → Option (Bool × Nat)} {es : List Expr} {ms : Sl → Sto → R (List D)} {pl : Sem Bool} {pins : List (Addr × Obj)} {s : Shared} {σ : St} {H : Hp} {Q : VK} {sl : Sl} {μ : Sto} {ρ : List Addr} {G : Hp} {d : D} {v : V} {u : Value}
    (hX : XU X U) (M : MethOk U lv Φ m mt cm) (hr : Room lv X.A) (tk : Takes X W) (ha : JA X (U.fr cl) b W es ms) (hs : noStar es = true)
    (I : Inv X pins σ H s) (r : RelV v u) (S : SR (U.fr cl) b sl μ ρ G σ H) (rv : RV (U.fr cl) ρ G v d) (p : PoE (U.fr cl) b W sl ρ G σ Q (methR mt cm Φ (ms sl) d μ)) :
    wpAny (model X.prog X.w) X.A (getMethod u m pl) (fun fx s₂ => wpAny (model X.prog X.w) X.A (callWith pos fx.1 fx.2 (backTo pos (starEach es X.env)) (backToKw pos (keywordEach [] X.env))) (EP X pins σ Q) X.xe s₂) X.xe s := by
  have inst : PoE (U.fr cl) b W sl ρ G σ Q (match insOf μ d with
    | some (c, _) => (match mt c with
      | some k => (ms sl μ).bind fun ds μ => callA (Φ k) (d :: ds) μ
      | none => .no)
    | none => .no) →
      wpAny (model X.prog X.w) X.A (getMethod u m pl) (fun fx s₂ => wpAny (model X.prog X.w) X.A (callWith pos fx.1 fx.2 (backTo pos (starEach es X.env)) (backToKw pos (keywordEach [] X.env))) (EP X pins σ Q) X.xe s₂) X.xe s := fun p => by
    cases e1 : insOf μ d with
    | none => rw [e1] at p; exact p.elim
    | some cd =>
      obtain ⟨c, ds0⟩ := cd
      rw [e1] at p
      dsimp only at p
      obtain ⟨a, dx, fs, rfl, ea, h2, h3⟩ := ins_at S rv e1
      obtain rfl : u = Value.ref a := r
      cases e2 : mt c with
      | none => rw [e2] at p; exact p.elim
      | some k =>
        rw [e2] at p
        dsimp only at p
        obtain ⟨hv, hc, hn, g, hm, F⟩ := M.hmt c k e2
        rw [← hX.K] at hc hm
        have hl : fs.lookup m = none := look_none fun z => hn (by rw [h2] at z; exact List.mem_of_mem_take z)
        refine getmeth_ok I ea hc hm hl ?_
        refine callw (P := fun h => X.K.In h) (PySem.W.keeps_K hm.kp) ha hs I S p fun us s1 vs H1 ds μ1 ρ1 G1 I1 rr S1 hr1 hg1 ra p1 => ⟨I1.kIn, ?_⟩
        exact wpAny_call (code_fn (us := .ref a :: us) (vs := .ref a :: vs) hX F hr tk hv I1 (.cons rfl rr) S1 (.cons (rv.mono hr1 hg1) ra) p1)
  cases d with
  | cls c =>
    cases rv with
    | pure rv =>
      cases rv
      obtain rfl : u = Value.ref (U.cA c) := r
      have p : PoE (U.fr cl) b W sl ρ G σ Q (match cm c with
        | some (true, k) => (ms sl μ).bind fun ds μ => callA (Φ k) (.cls c :: ds) μ
        | some (false, k) => (ms sl μ).bind (callA (Φ k))
        | none => .no) := p
      cases e1 : cm c with
      | none => rw [e1] at p; exact p.elim
      | some bk =>
        obtain ⟨bb, k⟩ := bk
        rw [e1] at p
        cases bb with
        | true =>
          dsimp only at p
          obtain ⟨hv, mc, q, g, h1, h2, F⟩ := M.hcm c k e1
          rw [← hX.K] at h1 h2
          refine ClX.getmethcm_ok I h1 h2 fun s2 I2 => ?_
          have hL := (I2.pin (s.heap.objs.size, PySem.W.methodObj (.ref g) (.ref (U.cA c))) (List.mem_append_right _ List.mem_cons_self)).2.2.1
          refine callw (P := fun h => PySem.W.MethP X.K s.heap.objs.size g (.ref (U.cA c)) h) (PySem.W.keeps_M h2.fi) ha hs I2 S p fun us s1 vs H1 ds μ1 ρ1 G1 I1 rr S1 hr1 hg1 ra p1 => ⟨⟨ClX.pin_at I1, I1.kIn⟩, ?_⟩
          have z : wpAny (model X.prog X.w) X.A (call (.ref s.heap.objs.size) us) (EP X ((s.heap.objs.size, PySem.W.methodObj (.ref g) (.ref (U.cA c))) :: pins) σ Q) X.xe s1 := wpAny_call (PySem.W.method_call (ClX.pin_at I1) (code_fn (us := .ref (U.cA c) :: us) (vs := .ref (U.cA c) :: vs) hX F hr tk hv I1 (.cons rfl rr) S1 (.cons (.pure (.cls (U := U.fr cl) c)) ra) p1))
          exact thn z fun _ _ y => ClX.unpinE y
        | false =>
          dsimp only at p
          obtain ⟨hv, mc, q, g, h1, h2, ⟨rest, h3⟩, h4, F⟩ := M.hsm c k e1
          rw [← hX.K] at h1 h2 h3 h4
          refine PySem.W.method_cls I.kIn h1.ga (PySem.W.cls_bind I.kIn h1.rd h2 (wpAny_call (PySem.W.sm_get (s := { s with toks := s.toks + 1 }) I.kIn h3 (PySem.W.handed_on rfl ?_))))
          refine callw (P := fun h => X.K.In h) (PySem.W.keeps_K h4) ha hs (I.tok _) S p fun us s1 vs H1 ds μ1 ρ1 G1 I1 rr S1 hr1 hg1 ra p1 => ⟨I1.kIn, ?_⟩
          exact wpAny_call (code_fn (us := us) (vs := vs) hX F hr tk hv I1 rr S1 ra p1)
  | _ => exact inst p
theorem je_meth {U : Wd} {lv : Nat} {Φ : Nat → List D → Sto → R D} {o : Expr} {m : Str} {mt : Nat → Option Nat} {cm : Nat → Option (Bool × Nat)} {es : List Expr} {mo : Sl → Sto → R D} {ms : Sl → Sto → R (List D)} (hX : XU X U) (M : MethOk U lv Φ m mt cm) (hr : Room lv X.A) (tk : Takes X W) (he : JE X (U.fr cl) b W o mo) (ha : JA X (U.fr cl) b W es ms)
    (ho : attrOk o = true) (hs : noStar es = true) (hl : es.length < 30) (hp : (apos.endLine == pos.line) = true) :
    JE X (U.fr cl) b W (.Call (.Attribute o m apos) es [] pos) fun sl μ => (mo sl μ).bind (methR mt cm Φ (ms sl)) := by
  refine ⟨fun pins s σ H Q I h => ?_⟩
  obtain ⟨sl, μ, ρ, G, S, p⟩ := h
  refine PySem.W.methodCall_KW (pl := _) (thn (he.run pins s σ H (fun v H1 => ∃ d μ1 ρ1 G1, SR (U.fr cl) b sl μ1 ρ1 G1 σ H1 ∧ RV (U.fr cl) ρ1 G1 v d ∧ PoE (U.fr cl) b W sl ρ1 G1 σ Q (methR mt cm Φ (ms sl) d μ1)) I (rd_step (α := Unit) S p fun d μ1 v H1 ρ1 G1 s1 _ _ rv p1 => ⟨d, μ1, ρ1, G1, s1, rv, p1⟩)) fun u s1 ⟨v, H1, I1, rx, d, μ1, ρ1, G1, S1, rv, p1⟩ => ?_) (meth_eq ho hs hl hp)
  exact meth_tail hX M hr tk ha hs I1 rx S1 rv p1
end
end Q
/-! Q17: storing attributes, lists of the store. -/
namespace Q
open PySem PySem.Spec PyProof.Rows L2
/-- x.f = y: x a thing of the store -/
def setF (ix : Nat → Option Nat) (y x : D) (μ : Sto) : Option Sto := match x with
  | .ref i => (match μ[i]? with
    | some (.ins c fs) => (match ix c with
      | some j => if isV y then (if j < fs.length then some (μ.set i (.ins c (fs.set j y))) else if j = fs.length then some (μ.set i (.ins c (fs ++ [y]))) else none) else none
      | none => none)
    | _ => none)
  | _ => none
theorem putF_set {f : Str} {v : V} : ∀ {fs : List (Str × V)} {j : Nat}, (fs.map (·.1)).Nodup → (fs.map (·.1))[j]? = some f → (putF f v fs).map (·.1) = fs.map (·.1) ∧ (putF f v fs).map (·.2) = (fs.map (·.2)).set j v
  | [], _, _, h => by simp at h
  | (g, u) :: fs, 0, _, h => by
    simp at h
    subst h
    simp [putF]
  | (g, u) :: fs, j + 1, nd, h => by
    have nd' := List.nodup_cons.mp nd
    have h' : (fs.map (·.1))[j]? = some f := by simpa using h
    have hne : g ≠ f := fun z => nd'.1 (z ▸ List.mem_of_getElem? h')
    obtain ⟨e1, e2⟩ := putF_set (v := v) (fs := fs) (j := j) nd'.2 h'
    unfold putF
    rw [if_neg hne]
    simp [e1, e2]
theorem putF_app {f : Str} {v : V} : ∀ {fs : List (Str × V)}, f ∉ fs.map (·.1) → putF f v fs = fs ++ [(f, v)]
  | [], _ => rfl
  | (g, u) :: fs, h => by
    have h1 : g ≠ f := fun z => h (by simp [z])
    unfold putF
    rw [if_neg h1, putF_app fun z => h (by simp [z])]
    rfl
theorem RVL.set {U : Wd} {ρ : List Addr} {G : Hp} {v : V} {d : D} (r : RV U ρ G v d) : ∀ {vs : List V} {ds : List D} (i : Nat), RVL U ρ G vs ds → RVL U ρ G (vs.set i v) (ds.set i d)
  | _, _, _, .nil => .nil
  | _, _, 0, .cons _ t => .cons r t
  | _, _, i + 1, .cons q t => .cons q (RVL.set r i t)
theorem RVL.append {U : Wd} {ρ : List Addr} {G : Hp} : ∀ {vs ws : List V} {ds es : List D}, RVL U ρ G vs ds → RVL U ρ G ws es → RVL U ρ G (vs ++ ws) (ds ++ es)
  | _, _, _, _, .nil, s => s
  | _, _, _, _, .cons r t, s => .cons r (RVL.append t s)
theorem allV_set {d : D} (h : isV d = true) : ∀ {ds : List D} (i : Nat), allV ds = true → allV (ds.set i d) = true
  | [], _, _ => rfl
  | e :: ds, 0, z => by
    unfold allV at z
    rw [Bool.and_eq_true] at z
    show (isV d && allV ds) = true
    rw [h, z.2]; rfl
  | e :: ds, i + 1, z => by
    unfold allV at z
    rw [Bool.and_eq_true] at z
    show (isV e && allV (ds.set i d)) = true
    rw [z.1, allV_set h i z.2]; rfl
theorem allV_app {d : D} (h : isV d = true) : ∀ {ds : List D}, allV ds = true → allV (ds ++ [d]) = true
  | [], _ => by show (isV d && true) = true; rw [h]; rfl
  | e :: ds, z => by
    unfold allV at z
    rw [Bool.and_eq_true] at z
    show (isV e && allV (ds ++ [d])) = true
    rw [z.1, allV_app h z.2]; rfl
section
variable {X : Cx} {b : B0} {W : WX} {pos apos pos' : Pos} {cl : List (Str × Addr)} {U : Wd}
theorem js_fld {o value : Expr} {f : Str} {ix : Nat → Option Nat} {mo mv : Sl → Sto → R D} (hX : XU X U) (hix : ∀ c j, ix c = some j → (U.cF c)[j]? = some f ∧ (U.cF c).Nodup ∧ (U.cF c).length < 1000 ∧ NoAttr U.K (U.cA c) f ∧ Cls U.K (U.cA c))
    (hv : JE X U b W value mv) (ho : JE X U b W o mo) (hc : isComp value = false) :
    JS X U b W (.Assign [.Attribute o f pos'] value pos) fun sl μ => seqO (mv sl μ) sl fun y μ => seqO (mo sl μ) sl fun x μ => match setF ix y x μ with | some μ => .nx sl μ | none => .no := by
  refine PS.imp (ps_fld ho hv (swaps_no hc _ _ _)) fun Dn σ H h => ?_
  obtain ⟨sl, μ, ρ, G, s, p⟩ := h
  refine rd_stepS s p fun y μ1 vy H1 ρ1 G1 s1 hr1 hg1 ry p1 => ?_
  refine rd_stepS s1 p1 fun x μ2 vx H2 ρ2 G2 s2 hr2 hg2 rx p2 => ?_
  have ry2 := ry.mono hr2 hg2
  unfold setF at p2
  cases x with
  | ref i =>
    dsimp only at p2
    cases rx with
    | pure r => cases r
    | @ref _ a e =>
      cases em : μ2[i]? with
      | none => rw [em] at p2; exact p2.elim
      | some o =>
        rw [em] at p2
        cases o with
        | ins c fs =>
          dsimp only at p2
          cases ej : ix c with
          | none => rw [ej] at p2; exact p2.elim
          | some j =>
            rw [ej] at p2
            dsimp only at p2
            obtain ⟨q1, q2, q3, q4, q5⟩ := hix c j ej
            rw [← hX.K] at q4 q5
            obtain ⟨dx, gs, e1, e2, e3, e4⟩ := s2.h.sto i a _ e em
            have hlen : gs.length = fs.length := by have := e3.length; rw [List.length_map] at this; exact this
            have hle : fs.length ≤ (U.cF c).length := by
              have := congrArg List.length e2
              rw [List.length_map, List.length_take] at this
              omega
            have nd : (gs.map (·.1)).Nodup := by rw [e2]; exact q2.sublist (List.take_sublist _ _)
            refine ⟨a, U.cA c, dx, gs, rfl, e1, q5, q4, by omega, ?_⟩
            by_cases hy : isV y = true
            · rw [if_pos hy] at p2
              by_cases hj : j < fs.length
              · rw [if_pos hj] at p2
                have hf : (gs.map (·.1))[j]? = some f := by rw [e2, List.getElem?_take_of_lt hj]; exact q1
                obtain ⟨n1, n2⟩ := putF_set (v := vy) nd hf
                refine PoS.nx p2 (s2.over (s2.h.wr e em (by simp) ⟨dx, _, upd_same, ?_, ?_, allV_set hy j e4⟩) (List.prefix_refl _) (Sub.refl _))
                · rw [n1, e2, List.length_set]
                · rw [n2]; exact e3.set ry2 j
              · rw [if_neg hj] at p2
                by_cases hj2 : j = fs.length
                · rw [if_pos hj2] at p2
                  subst hj2
                  have hni : f ∉ gs.map (·.1) := by
                    rw [e2]
                    intro hm
                    obtain ⟨i', hi'⟩ := List.mem_iff_getElem?.mp hm
                    have hl' : i' < fs.length := by
                      have := (List.getElem?_eq_some_iff.mp hi').1
                      rw [List.length_take] at this
                      omega
                    rw [List.getElem?_take_of_lt hl'] at hi'
                    have := L2.nodup_ix q2 hi' q1
                    omega
                  have hp := putF_app (v := vy) hni
                  refine PoS.nx p2 (s2.over (s2.h.wr e em (by simp) ⟨dx, _, upd_same, ?_, ?_, allV_app hy e4⟩) (List.prefix_refl _) (Sub.refl _))
                  · rw [hp, List.map_append, e2, List.length_append]
                    show _ = List.take (fs.length + 1) (U.cF c)
                    rw [List.take_add_one, q1]
                    rfl
                  · rw [hp, List.map_append]
                    exact e3.append (.cons ry2 .nil)
                · rw [if_neg hj2] at p2; exact p2.elim
            · rw [if_neg hy] at p2; exact p2.elim
        | _ => exact p2.elim
  | _ => exact p2.elim
/-! ### lists of the store -/
def mlstR (ds : List D) (μ : Sto) : R D := if ds.length ≤ lim && allP ds then .ok (.ref μ.length) (μ ++ [.lst ds]) else .no
theorem je_mlst {es : List Expr} {ms : Sl → Sto → R (List D)} (h : JA X U b W es ms) : JE X U b W (.List es pos) fun sl μ => (ms sl μ).bind mlstR := by
  refine PE.imp (pe_lst h) fun σ H Q h => ?_
  obtain ⟨sl, μ, ρ, G, s, p⟩ := h
  refine rd_args s p fun ds μ1 vs H1 ρ1 G1 s1 hr hg rv p1 => ?_
  unfold mlstR at p1
  by_cases hz : (decide (ds.length ≤ lim) && allP ds) = true
  · rw [if_pos hz] at p1
    rw [Bool.and_eq_true, decide_eq_true_eq] at hz
    refine ⟨by rw [rv.length, ← lim_line]; exact hz.1, fun q hq => ?_⟩
    have pr : ρ1 <+: ρ1 ++ [q] := ⟨[q], rfl⟩
    exact p1 _ _ (ρ1 ++ [q]) G1 (s1.over (s1.h.push hq ⟨vs, upd_same, rv.allP hz.2⟩) pr (Sub.refl _)) pr (Sub.refl _) (.ref (by rw [← s1.h.len]; simp))
  · rw [if_neg hz] at p1; exact p1.elim
/-- a list of the store stands still from now on -/
def frzR (d : D) (μ : Sto) : R D := match d with
  | .ref i => (match μ[i]? with
    | some (.lst xs) => .ok (.lst xs) (μ.set i .gone)
    | _ => .no)
  | _ => .no
theorem je_frz {e : Expr} {m : Sl → Sto → R D} (h : JE X U b W e m) : JE X U b W e fun sl μ => (m sl μ).bind frzR := by
  refine PE.imp h fun σ H Q h => ?_
  obtain ⟨sl, μ, ρ, G, s, p⟩ := h
  refine rd_step (α := Unit) s p fun d μ1 v H1 ρ1 G1 s1 hr hg rv p1 => ?_
  unfold frzR at p1
  cases d with
  | ref i =>
    dsimp only at p1
    cases rv with
    | pure r => cases r
    | @ref _ a e =>
      cases em : μ1[i]? with
      | none => rw [em] at p1; exact p1.elim
      | some o =>
        rw [em] at p1
        cases o with
        | lst xs =>
          obtain ⟨ys, e1, e2⟩ := s1.h.sto i a _ e em
          have gx := s1.h.ap i a _ e em (by simp)
          exact p1 _ _ ρ1 _ (s1.over (s1.h.frz e em (by simp) e1) (List.prefix_refl _) (sub_upd gx)) (List.prefix_refl _) (sub_upd gx) (.pure (.lst upd_same (e2.mono (sub_upd gx))))
        | _ => exact p1.elim
  | _ => exact p1.elim
end
end Q
/-! Q18: built-in functions and methods. -/
namespace Q
open PySem PySem.Spec PyProof.Rows L2
/-- the method of a built-in type comes to χ -/
def BmJ (X : Cx) (U : Wd) (b : B0) (W : WX) (id : String) (χ : D → List D → Sto → R D) : Prop :=
  ∀ (pins : List (Addr × Obj)) (s : Shared) (σ : St) (H : Hp) (x : V) (xs : List V) (v : Value) (us : List Value) (Q : VK) (sl : Sl) (μ : Sto) (ρ : List Addr) (G : Hp) (d : D) (ds : List D),
    Inv X pins σ H s → RelV x v → Vals xs us → SR U b sl μ ρ G σ H → RV U ρ G x d → RVL U ρ G xs ds → PoE U b W sl ρ G σ Q (χ d ds μ) → wpAny (model X.prog X.w) X.A (call (.builtin id) (v :: us)) (EP X pins σ Q) X.xe s
def bmR (ty : Sto → D → Bool) (χ : D → List D → Sto → R D) (ms : Sto → R (List D)) (d : D) (μ : Sto) : R D := if ty μ d then (ms μ).bind (χ d) else .no
theorem few_of {es : List Expr} {cpos : Pos} {env : Env} (hs : noStar es = true) (hl : es.length < 30) : ((backTo cpos (starEach es env)).all (fun x => !x.1) && (backToKw cpos (keywordEach [] env)).all (fun x => x.1.isSome)
      && decide (es.length + ([] : List Keyword).length + (if ([] : List Keyword).isEmpty then 0 else 1) < 30)) = true := by
  have h1 : (backTo cpos (starEach es env)).all (fun x => !x.1) = true := by
    unfold backTo
    simpa [List.all_map, Function.comp_def] using starEach_all env hs
  rw [h1]
  simp [backToKw, keywordEach, hl]
section
variable {X : Cx} {b : B0} {W : WX} {pos apos : Pos} {cl : List (Str × Addr)} {U : Wd}
theorem je_bm {T id : String} {name : Str} {ty : Sto → D → Bool} {χ : D → List D → Sto → R D} {o e : Expr} {es : List Expr} {mo : Sl → Sto → R D} {ms : Sl → Sto → R (List D)} (pa : PlainAttrs T) (slot : Slot T name id) (hty : typeOf (.builtin id) = pure (.type "method_descriptor"))
    (hT : ∀ sl μ ρ G σ H v d, SR U b sl μ ρ G σ H → RV U ρ G v d → ty μ d = true → tyV X.K T v H) (hm : BmJ X U b W id χ) (ho : JE X U b W o mo) (ha : JA X U b W (e :: es) ms) (hb : attrOk o = true) (hs : noStar (e :: es) = true) (hl : (e :: es).length < 30) (hp : (apos.endLine == pos.line) = true) :
    JE X U b W (.Call (.Attribute o name apos) (e :: es) [] pos) fun sl μ => (mo sl μ).bind (bmR ty χ (ms sl)) := by
  refine ⟨fun pins s σ H Q I h => ?_⟩
  obtain ⟨sl, μ, ρ, G, S, p⟩ := h
  have q := thn (ho.run pins s σ H (fun v H1 => ∃ d μ1 ρ1 G1, SR U b sl μ1 ρ1 G1 σ H1 ∧ RV U ρ1 G1 v d ∧ PoE U b W sl ρ1 G1 σ Q (bmR ty χ (ms sl) d μ1)) I (rd_step (α := Unit) S p fun d μ1 v H1 ρ1 G1 s1 _ _ rv p1 => ⟨d, μ1, ρ1, G1, s1, rv, p1⟩)) fun u s1 h => h
  have key : ∀ {u : Value} {s1 : Shared} {v : V} {H1 : Hp} {d : D} {μ1 : Sto} {ρ1 : List Addr} {G1 : Hp}, SR U b sl μ1 ρ1 G1 σ H1 → RV U ρ1 G1 v d → PoE U b W sl ρ1 G1 σ Q (bmR ty χ (ms sl) d μ1) → tyV X.K T v H1 ∧ PoE U b W sl ρ1 G1 σ Q ((ms sl μ1).bind (χ d)) := fun {u s1 v H1 d μ1 ρ1 G1} S1 rv p1 => by
    unfold bmR at p1
    by_cases hz : ty μ1 d = true
    · rw [if_pos hz] at p1; exact ⟨hT _ _ _ _ _ _ _ _ S1 rv hz, p1⟩
    · rw [if_neg hz] at p1; exact p1.elim
  refine wpAny_Call_method_late (attr_base hb _ _ _) (few_of hs hl) hp rfl (thn q fun u s1 ⟨v, H1, I1, rx, d, μ1, ρ1, G1, S1, rv, p1⟩ => ?_)
  obtain ⟨ty1, p1⟩ := key (u := u) (s1 := s1) S1 rv p1
  obtain ⟨h1, h2⟩ := tyV_is I1 rx ty1
  refine ⟨T, id, pa, slot, hty, h1, h2, ?_⟩
  have hA := ha.run pos pins s1 σ H1 (fun vs H2 => ∃ ds μ2 ρ2 G2, SR U b sl μ2 ρ2 G2 σ H2 ∧ RV U ρ2 G2 v d ∧ RVL U ρ2 G2 vs ds ∧ PoE U b W sl ρ2 G2 σ Q (χ d ds μ2)) I1 (rd_args S1 p1 fun ds μ2 vs H2 ρ2 G2 s2 hr hg ra p2 => ⟨ds, μ2, ρ2, G2, s2, rv.mono hr hg, ra, p2⟩)
  have hs' := hs
  unfold noStar at hs'
  rw [List.all_cons, Bool.and_eq_true] at hs'
  have hst := star_not (e := e) (by simpa using hs'.1) es X.env
  have hpl := noStar_any pos X.env hs'.2
  rw [hst] at hA ⊢
  refine Calls.callWith_builtin (by show (false || (backTo pos (starEach es X.env)).any (·.1)) = false; rw [hpl] <;> rfl) (Calls.evalArgs_plain ?_)
  exact thn hA fun us s2 ⟨vs, H2, I2, r2, ds, μ2, ρ2, G2, S2, rv2, ra, p2⟩ => hm pins s2 σ H2 v vs u us Q sl μ2 ρ2 G2 d ds I2 rx r2 S2 rv2 ra p2
theorem je_bm0 {T id : String} {name : Str} {ty : Sto → D → Bool} {χ : D → List D → Sto → R D} {o : Expr} {mo : Sl → Sto → R D} (pa : PlainAttrs T) (slot : Slot T name id) (hty : typeOf (.builtin id) = pure (.type "method_descriptor"))
    (hT : ∀ sl μ ρ G σ H v d, SR U b sl μ ρ G σ H → RV U ρ G v d → ty μ d = true → tyV X.K T v H) (hm : BmJ X U b W id χ) (ho : JE X U b W o mo) (hb : attrOk o = true) (hp : (apos.endLine == pos.line) = true) :
    JE X U b W (.Call (.Attribute o name apos) [] [] pos) fun sl μ => (mo sl μ).bind (bmR ty χ fun μ => .ok [] μ) := by
  refine ⟨fun pins s σ H Q I h => ?_⟩
  obtain ⟨sl, μ, ρ, G, S, p⟩ := h
  refine wpAny_Call_method0_late (attr_base hb _ _ _) hp (thn (ho.run pins s σ H (fun v H1 => ∃ d μ1 ρ1 G1, SR U b sl μ1 ρ1 G1 σ H1 ∧ RV U ρ1 G1 v d ∧ PoE U b W sl ρ1 G1 σ Q (bmR ty χ (fun μ => .ok [] μ) d μ1)) I (rd_step (α := Unit) S p fun d μ1 v H1 ρ1 G1 s1 _ _ rv p1 => ⟨d, μ1, ρ1, G1, s1, rv, p1⟩)) fun u s1 ⟨v, H1, I1, rx, d, μ1, ρ1, G1, S1, rv, p1⟩ => ?_)
  unfold bmR at p1
  by_cases hz : ty μ1 d = true
  · rw [if_pos hz] at p1
    obtain ⟨h1, h2⟩ := tyV_is I1 rx (hT _ _ _ _ _ _ _ _ S1 rv hz)
    exact ⟨T, id, pa, slot, hty, h1, h2, Calls.callWith_builtin rfl (PySem.evalArgs_none (hm pins s1 σ H1 v [] u [] Q sl μ1 ρ1 G1 d [] I1 rx .nil S1 rv .nil p1))⟩
  · rw [if_neg hz] at p1; exact p1.elim
/-! ### lists of the store -/
def isML (μ : Sto) : D → Bool
  | .ref i => (match μ[i]? with
    | some (.lst _) => true
    | _ => false)
  | _ => false
def appR (d : D) (ds : List D) (μ : Sto) : R D := match d, ds with
  | .ref i, [y] => (match μ[i]? with
    | some (.lst xs) => if xs.length < lim && isP y then .ok .non (μ.set i (.lst (xs ++ [y]))) else .no
    | _ => .no)
  | _, _ => .no
/-- a list's items, the list not of the written part -/
def plItems (μ : Sto) : D → Option (List D)
  | .lst xs => some xs
  | .ref i => (match μ[i]? with
    | some (.lst xs) => some xs
    | _ => none)
  | _ => none
def extR (d : D) (ds : List D) (μ : Sto) : R D := match d, ds with
  | .ref i, [y] => (match μ[i]?, plItems μ y with
    | some (.lst xs), some ys => if xs.length + ys.length ≤ lim then .ok .non (μ.set i (.lst (xs ++ ys))) else .no
    | _, _ => .no)
  | _, _ => .no
def lastD : List D → Option D
  | [] => none
  | [x] => some x
  | _ :: xs => lastD xs
def popR (d : D) (ds : List D) (μ : Sto) : R D := match d, ds with
  | .ref i, [] => (match μ[i]? with
    | some (.lst xs) => (match xs[xs.length - 1]? with
      | some y => .ok y (μ.set i (.lst xs.dropLast))
      | none => .no)
    | _ => .no)
  | _, _ => .no
theorem isML_ty {sl : Sl} {μ : Sto} {ρ : List Addr} {G H : Hp} {σ : St} {v : V} {d : D} (S : SR U b sl μ ρ G σ H) (r : RV U ρ G v d) (h : isML μ d = true) : tyV X.K "list" v H := by
  cases d with
  | ref i =>
    cases r with
    | pure r => cases r
    | @ref _ a e =>
      simp only [isML] at h
      split at h
      · rename_i xs he
        obtain ⟨ys, e1, e2⟩ := S.h.sto i a _ e he
        exact .inl ⟨rfl, ys, .inl (.inl e1)⟩
      · cases h
  | _ => cases h
theorem ml_at {sl : Sl} {μ : Sto} {ρ : List Addr} {G H : Hp} {σ : St} {v : V} {i : Nat} {xs : List D} (S : SR U b sl μ ρ G σ H) (r : RV U ρ G v (.ref i)) (h : μ[i]? = some (.lst xs)) : ∃ a ys, v = .ref a ∧ ρ[i]? = some a ∧ H a = some (.lst ys) ∧ RepL U G ys xs := by
  cases r with
  | pure r => cases r
  | @ref _ a e =>
    obtain ⟨ys, e1, e2⟩ := S.h.sto i a _ e h
    exact ⟨a, ys, rfl, e, e1, e2⟩
theorem pl_at {sl : Sl} {μ : Sto} {ρ : List Addr} {G H : Hp} {σ : St} {v : V} {d : D} {xs : List D} (S : SR U b sl μ ρ G σ H) (r : RV U ρ G v d) (h : plItems μ d = some xs) : ∃ a ys, v = .ref a ∧ H a = some (.lst ys) ∧ RepL U G ys xs := by
  cases d with
  | lst ds =>
    cases h
    cases r with
    | pure r =>
      cases r with
      | lst h1 h2 => exact ⟨_, _, rfl, S.h.sub _ _ h1, h2⟩
  | ref i =>
    simp only [plItems] at h
    split at h
    · rename_i ys he
      cases h
      obtain ⟨a, zs, e1, _, e2, e3⟩ := ml_at S r he
      exact ⟨a, zs, e1, e2, e3⟩
    · cases h
  | _ => cases h
theorem bm_append : BmJ X U b W "list.append" appR := by
  intro pins s σ H x xs v us Q sl μ ρ G d ds I rx rxs S rv ra p
  unfold appR at p
  split at p
  · rename_i i y
    split at p
    · rename_i zs he
      split at p
      · rename_i hz
        rw [Bool.and_eq_true, decide_eq_true_eq] at hz
        obtain ⟨a, ys, rfl, e1, e2, e3⟩ := ml_at S rv he
        cases ra with
        | cons r1 r2 =>
          cases r2
          refine mt_append pins s σ H _ _ v us Q I rx rxs ⟨a, ys, _, rfl, rfl, e2, by rw [e3.length, ← lim_line]; exact hz.1, ?_⟩
          exact p _ _ ρ G (S.over (S.h.wr e1 he (by simp) ⟨_, upd_same, e3.append (.cons (r1.isP hz.2) .nil)⟩) (List.prefix_refl _) (Sub.refl _)) (List.prefix_refl _) (Sub.refl _) (.pure .non)
      · exact p.elim
    · exact p.elim
  · exact p.elim
theorem bm_extend : BmJ X U b W "list.extend" extR := by
  intro pins s σ H x xs v us Q sl μ ρ G d ds I rx rxs S rv ra p
  unfold extR at p
  split at p
  · rename_i i y
    split at p
    · rename_i zs ws he hy
      split at p
      · rename_i hz
        obtain ⟨a, ys, rfl, e1, e2, e3⟩ := ml_at S rv he
        cases ra with
        | cons r1 r2 =>
          cases r2
          obtain ⟨a2, ys2, rfl, f1, f2⟩ := pl_at S r1 hy
          refine mt_extend pins s σ H _ _ v us Q I rx rxs ⟨a, a2, ys, ys2, rfl, rfl, e2, f1, by rw [e3.length, f2.length, ← lim_line]; exact hz, ?_⟩
          exact p _ _ ρ G (S.over (S.h.wr e1 he (by simp) ⟨_, upd_same, e3.append f2⟩) (List.prefix_refl _) (Sub.refl _)) (List.prefix_refl _) (Sub.refl _) (.pure .non)
      · exact p.elim
    · exact p.elim
  · exact p.elim
theorem RepL.dropLast {U : Wd} {G : Hp} {vs : List V} {ds : List D} (h : RepL U G vs ds) : RepL U G vs.dropLast ds.dropLast := by
  rw [List.dropLast_eq_take, List.dropLast_eq_take, h.length]
  exact h.take _
theorem bm_pop : BmJ X U b W "list.pop" popR := by
  intro pins s σ H x xs v us Q sl μ ρ G d ds I rx rxs S rv ra p
  unfold popR at p
  split at p
  · rename_i i
    split at p
    · rename_i zs he
      split at p
      · rename_i y hy
        obtain ⟨a, ys, rfl, e1, e2, e3⟩ := ml_at S rv he
        cases ra
        obtain ⟨w, f1, f2⟩ := e3.get hy
        refine mt_pop pins s σ H _ _ v us Q I rx rxs ⟨a, ys, w, rfl, rfl, e2, by rw [e3.length]; exact f1, ?_⟩
        exact p _ _ ρ G (S.over (S.h.wr e1 he (by simp) ⟨_, upd_same, e3.dropLast⟩) (List.prefix_refl _) (Sub.refl _)) (List.prefix_refl _) (Sub.refl _) (.pure f2)
      · exact p.elim
    · exact p.elim
  · exact p.elim
end
end Q
/-! Q19: built-in functions. -/
namespace Q
open PySem PySem.Spec PyProof.Rows L2
def intsOf : List D → Option (List Int)
  | [] => some []
  | .int i :: ds => (intsOf ds).map (i :: ·)
  | _ => none
def blsOf : List D → Option (List Bool)
  | [] => some []
  | .bl i :: ds => (blsOf ds).map (i :: ·)
  | _ => none
def sumI : List Int → Int
  | [] => 0
  | i :: is => i + sumI is
def insI (i : Int) : List Int → List Int
  | [] => [i]
  | j :: js => if i ≤ j then i :: j :: js else j :: insI i js
def sortI : List Int → List Int
  | [] => []
  | i :: is => insI i (sortI is)
def anyB : List Bool → Bool
  | [] => false
  | b :: bs => b || anyB bs
def allB : List Bool → Bool
  | [] => true
  | b :: bs => b && allB bs
def lstItems (μ : Sto) (d : D) : Option (List D) := match view μ d with
  | .lst xs => some xs
  | _ => none
def seqItems (μ : Sto) (d : D) : Option (List D) := match view μ d with
  | .lst xs => some xs
  | .tup xs => some xs
  | _ => none
/-- the built-in functions that are asked -/
inductive Fb where
  | len | int | sum | any | all | abs | tuple | list | mlist | sorted | max2 | min2 | str | bool
def fbR : Fb → List D → Sto → R D
  | .len, [d], μ => R.of ((lenD μ d).map fun n => .int n) μ
  | .int, [.int i], μ => .ok (.int i) μ
  | .int, [.bl k], μ => .ok (.int (if k then 1 else 0)) μ
  | .sum, [d], μ => R.of (((lstItems μ d).bind intsOf).map fun is => .int (sumI is)) μ
  | .any, [d], μ => R.of (((lstItems μ d).bind blsOf).map fun is => .bl (anyB is)) μ
  | .all, [d], μ => R.of (((lstItems μ d).bind blsOf).map fun is => .bl (allB is)) μ
  | .abs, [.int i], μ => .ok (.int (if i < 0 then -i else i)) μ
  | .tuple, [d], μ => R.of ((seqItems μ d).map .tup) μ
  | .list, [d], μ => R.of ((seqItems μ d).map .lst) μ
  | .mlist, [d], μ => (match seqItems μ d with
    | some xs => .ok (.ref μ.length) (μ ++ [.lst xs])
    | none => .no)
  | .sorted, [d], μ => R.of (((lstItems μ d).bind intsOf).bind fun is => if is.length < 64 then some (.lst ((sortI is).map .int)) else none) μ
  | .max2, [.int i, .int j], μ => .ok (.int (if j > i then j else i)) μ
  | .min2, [.int i, .int j], μ => .ok (.int (if j < i then j else i)) μ
  | .str, [.int i], μ => if i.natAbs < 2 ^ 64 then .ok (.str (toString i)) μ else .no
  | .bool, [.int i], μ => .ok (.bl (i != 0)) μ
  | .bool, [.bl k], μ => .ok (.bl k) μ
  | _, _, _ => .no
def Fb.val : Fb → Value
  | .len => .builtin "len" | .int => .type "int" | .sum => .builtin "sum" | .any => .builtin "any" | .all => .builtin "all" | .abs => .builtin "abs" | .tuple => .type "tuple" | .list => .type "list" | .mlist => .type "list"
  | .sorted => .builtin "sorted" | .max2 => .builtin "max" | .min2 => .builtin "min" | .str => .type "str" | .bool => .type "bool"
/-! ### plain facts -/
theorem sumI_sum : ∀ is : List Int, sumI is = is.sum
  | [] => rfl
  | i :: is => by rw [sumI, sumI_sum is, List.sum_cons]
theorem anyB_any : ∀ bs : List Bool, anyB bs = bs.any id
  | [] => rfl
  | b :: bs => by rw [anyB, anyB_any bs]; rfl
theorem allB_all : ∀ bs : List Bool, allB bs = bs.all id
  | [] => rfl
  | b :: bs => by rw [allB, allB_all bs]; rfl
theorem insI_perm (i : Int) : ∀ is : List Int, (insI i is).Perm (i :: is)
  | [] => .refl _
  | j :: js => by
    unfold insI
    split
    · exact .refl _
    · exact ((insI_perm i js).cons j).trans (.swap i j js)
theorem sortI_perm : ∀ is : List Int, (sortI is).Perm is
  | [] => .refl _
  | i :: is => (insI_perm i (sortI is)).trans ((sortI_perm is).cons i)
theorem insI_sorted (i : Int) : ∀ is : List Int, is.Pairwise (· ≤ ·) → (insI i is).Pairwise (· ≤ ·)
  | [], _ => List.pairwise_singleton _ _
  | j :: js, h => by
    obtain ⟨h1, h2⟩ := List.pairwise_cons.mp h
    unfold insI
    split
    · rename_i hz
      refine List.pairwise_cons.mpr ⟨fun y hy => ?_, h⟩
      rcases List.mem_cons.mp hy with rfl | hy
      · exact hz
      · exact Int.le_trans hz (h1 y hy)
    · rename_i hz
      refine List.pairwise_cons.mpr ⟨fun y hy => ?_, insI_sorted i js h2⟩
      rcases List.mem_cons.mp ((insI_perm i js).mem_iff.mp hy) with rfl | hy
      · omega
      · exact h1 y hy
theorem sortI_sorted : ∀ is : List Int, (sortI is).Pairwise (· ≤ ·)
  | [] => .nil
  | i :: is => insI_sorted i _ (sortI_sorted is)
theorem sorted_uniq {a c : List Int} (h1 : a.Pairwise (· ≤ ·)) (h2 : c.Pairwise (· ≤ ·)) (p : a.Perm c) : a = c :=
  List.Perm.eq_of_pairwise (le := (· ≤ ·)) (fun x y _ _ h h' => Int.le_antisymm h h') h1 h2 p
section
variable {X : Cx} {b : B0} {W : WX} {U : Wd}
theorem intsOf_rep {G : Hp} : ∀ {vs : List V} {ds : List D} {is : List Int}, RepL U G vs ds → intsOf ds = some is → vs = is.map V.int
  | _, _, _, .nil, e => by cases e; rfl
  | _, d :: ds, is, .cons r t, e => by
    cases d with
    | int i =>
      simp only [intsOf] at e
      obtain ⟨js, e1, rfl⟩ := Option.map_eq_some_iff.mp e
      cases r
      rw [intsOf_rep t e1]; rfl
    | _ => cases e
theorem blsOf_rep {G : Hp} : ∀ {vs : List V} {ds : List D} {is : List Bool}, RepL U G vs ds → blsOf ds = some is → vs = is.map V.bl
  | _, _, _, .nil, e => by cases e; rfl
  | _, d :: ds, is, .cons r t, e => by
    cases d with
    | bl i =>
      simp only [blsOf] at e
      obtain ⟨js, e1, rfl⟩ := Option.map_eq_some_iff.mp e
      cases r
      rw [blsOf_rep t e1]; rfl
    | _ => cases e
theorem ints_rep {G : Hp} : ∀ is : List Int, RepL U G (is.map V.int) (is.map D.int)
  | [] => .nil
  | i :: is => .cons (.int i) (ints_rep is)
theorem lst_at {sl : Sl} {μ : Sto} {ρ : List Addr} {G H : Hp} {σ : St} {v : V} {d : D} {xs : List D} (S : SR U b sl μ ρ G σ H) (r : RV U ρ G v d) (h : lstItems μ d = some xs) : ∃ a ys, v = .ref a ∧ SqL U.K H a ys ∧ RepL U G ys xs := by
  unfold lstItems at h
  split at h
  · rename_i zs e; cases h; exact view_lst S.h r e
  · cases h
theorem seq_at {sl : Sl} {μ : Sto} {ρ : List Addr} {G H : Hp} {σ : St} {v : V} {d : D} {xs : List D} (S : SR U b sl μ ρ G σ H) (r : RV U ρ G v d) (h : seqItems μ d = some xs) : ∃ a ys, v = .ref a ∧ (SqL U.K H a ys ∨ SqT U.K H a ys) ∧ RepL U G ys xs := by
  unfold seqItems at h
  split at h
  · rename_i zs e; cases h; obtain ⟨a, ys, h1, h2, h3⟩ := view_lst S.h r e; exact ⟨a, ys, h1, .inl h2, h3⟩
  · rename_i zs e; cases h; obtain ⟨a, ys, h1, h2, h3⟩ := view_tup S.h r e; exact ⟨a, ys, h1, .inr h2, h3⟩
  · cases h
theorem view_tup_eq {μ : Sto} {d : D} {xs : List D} (h : view μ d = .tup xs) : d = .tup xs := by
  cases d with
  | ref i => rcases view_ref (μ := μ) (i := i) with ⟨_, _, e⟩ | ⟨_, _, e⟩ | ⟨_, _, e⟩ | e <;> rw [e] at h <;> cases h
  | _ => first | exact h | cases h
theorem fb_call (hX : XU X U) (hc : X.calm = true) (f : Fb) : CallJ X U b W f.val (fbR f) := by
  intro pins s σ H vs us Q sl μ ρ G ds I r S ra p
  unfold fbR at p
  split at p
  · rename_i d
    cases ra with
    | cons rd rn =>
    cases rn
    obtain ⟨e, he, pp⟩ := p.of
    obtain ⟨n, hn, rfl⟩ := Option.map_eq_some_iff.mp he
    have pq := pp.fin S (.pure (.int _))
    unfold lenD at hn
    split at hn
    · rename_i zs e
      cases hn
      obtain ⟨a, ys, rfl, h2, h3⟩ := view_lst S.h rd e
      exact call_len_seq pins s σ H _ us Q I r ⟨a, ys, rfl, .inl (by rw [hX.K]; exact h2), by rw [h3.length]; exact pq⟩
    · rename_i zs e
      cases hn
      obtain ⟨a, ys, rfl, h2, h3⟩ := view_tup S.h rd e
      exact call_len_seq pins s σ H _ us Q I r ⟨a, ys, rfl, .inr (by rw [hX.K]; exact h2), by rw [h3.length]; exact pq⟩
    · rename_i z e
      split at hn
      · rename_i hz
        cases hn
        cases view_str rd e
        exact call_len_str pins s σ H _ us Q I r ⟨z, rfl, by rw [← lim_line]; exact hz, pq⟩
      · cases hn
    · cases hn
  · cases ra with
    | cons rd rn =>
    cases rn
    cases rd.isP rfl
    exact call_int1 pins s σ H _ us Q I r (.inl ⟨_, rfl, p.fin S (.pure (.int _))⟩)
  · cases ra with
    | cons rd rn =>
    cases rn
    cases rd.isP rfl
    exact call_int1 pins s σ H _ us Q I r (.inr ⟨_, rfl, p.fin S (.pure (.int _))⟩)
  · cases ra with
    | cons rd rn =>
    cases rn
    obtain ⟨e, he, pp⟩ := p.of
    obtain ⟨is, hn, rfl⟩ := Option.map_eq_some_iff.mp he
    obtain ⟨xs, h1, h2⟩ := Option.bind_eq_some_iff.mp hn
    obtain ⟨a, ys, rfl, h3, h4⟩ := lst_at S rd h1
    cases intsOf_rep h4 h2
    exact cr_sum hc pins s σ H _ us Q I r ⟨a, is, rfl, by rw [hX.K]; exact h3, by rw [← sumI_sum]; exact pp.fin S (.pure (.int _))⟩
  · cases ra with
    | cons rd rn =>
    cases rn
    obtain ⟨e, he, pp⟩ := p.of
    obtain ⟨is, hn, rfl⟩ := Option.map_eq_some_iff.mp he
    obtain ⟨xs, h1, h2⟩ := Option.bind_eq_some_iff.mp hn
    obtain ⟨a, ys, rfl, h3, h4⟩ := lst_at S rd h1
    cases blsOf_rep h4 h2
    exact cr_any hc pins s σ H _ us Q I r ⟨a, is, rfl, by rw [hX.K]; exact h3, by rw [← anyB_any]; exact pp.fin S (.pure (.bl _))⟩
  · cases ra with
    | cons rd rn =>
    cases rn
    obtain ⟨e, he, pp⟩ := p.of
    obtain ⟨is, hn, rfl⟩ := Option.map_eq_some_iff.mp he
    obtain ⟨xs, h1, h2⟩ := Option.bind_eq_some_iff.mp hn
    obtain ⟨a, ys, rfl, h3, h4⟩ := lst_at S rd h1
    cases blsOf_rep h4 h2
    exact cr_all hc pins s σ H _ us Q I r ⟨a, is, rfl, by rw [hX.K]; exact h3, by rw [← allB_all]; exact pp.fin S (.pure (.bl _))⟩
  · cases ra with
    | cons rd rn =>
    cases rn
    cases rd.isP rfl
    exact call_abs pins s σ H _ us Q I r ⟨_, rfl, p.fin S (.pure (.int _))⟩
  · cases ra with
    | cons rd rn =>
    cases rn
    obtain ⟨e, he, pp⟩ := p.of
    obtain ⟨is, hn, rfl⟩ := Option.map_eq_some_iff.mp he
    unfold seqItems at hn
    split at hn
    · rename_i zs e
      cases hn
      obtain ⟨a, ys, rfl, h3, h4⟩ := view_lst S.h rd e
      refine call_tuple_of pins s σ H _ us Q I r ⟨a, ys, rfl, .inl ⟨by rw [hX.K]; exact h3, fun q hq => ?_⟩⟩
      have hg := S.h.gfree hq
      exact pp _ _ ρ _ (S.alloc hq (fun _ z => by cases z)) (List.prefix_refl _) (sub_upd hg) (.pure (.tup (SqT.of upd_same) (h4.mono (sub_upd hg))))
    · rename_i zs e
      cases hn
      obtain ⟨a, ys, rfl, h3, h4⟩ := view_tup S.h rd e
      cases view_tup_eq e
      exact call_tuple_of pins s σ H _ us Q I r ⟨a, ys, rfl, .inr ⟨by rw [hX.K]; exact h3, pp.fin S rd⟩⟩
    · cases hn
  · cases ra with
    | cons rd rn =>
    cases rn
    obtain ⟨e, he, pp⟩ := p.of
    obtain ⟨is, hn, rfl⟩ := Option.map_eq_some_iff.mp he
    obtain ⟨a, ys, rfl, h3, h4⟩ := seq_at S rd hn
    refine call_list_of pins s σ H _ us Q I r ⟨a, ys, rfl, by rw [hX.K]; exact h3, fun q hq => ?_⟩
    have hg := S.h.gfree hq
    exact pp _ _ ρ _ (S.alloc hq (fun _ z => by cases z)) (List.prefix_refl _) (sub_upd hg) (.pure (.lst upd_same (h4.mono (sub_upd hg))))
  · cases ra with
    | cons rd rn =>
    cases rn
    split at p
    · rename_i xs hn
      obtain ⟨a, ys, rfl, h3, h4⟩ := seq_at S rd hn
      refine call_list_of pins s σ H _ us Q I r ⟨a, ys, rfl, by rw [hX.K]; exact h3, fun q hq => ?_⟩
      have pr : ρ <+: ρ ++ [q] := ⟨[q], rfl⟩
      exact p _ _ (ρ ++ [q]) G (S.over (S.h.push hq ⟨ys, upd_same, h4⟩) pr (Sub.refl _)) pr (Sub.refl _) (.ref (by rw [← S.h.len]; simp))
    · exact p.elim
  · cases ra with
    | cons rd rn =>
    cases rn
    obtain ⟨e, he, pp⟩ := p.of
    obtain ⟨is, hn, h5⟩ := Option.bind_eq_some_iff.mp he
    obtain ⟨xs, h1, h2⟩ := Option.bind_eq_some_iff.mp hn
    split at h5
    · rename_i h64
      cases h5
      obtain ⟨a, ys, rfl, h3, h4⟩ := lst_at S rd h1
      cases intsOf_rep h4 h2
      refine cr_sorted pins s σ H _ us Q I r ⟨a, is, rfl, by rw [hX.K]; exact h3, h64, fun ns q hp hs hq => ?_⟩
      have hg := S.h.gfree hq
      have e : ns = sortI is := sorted_uniq hs (sortI_sorted is) (hp.trans (sortI_perm is).symm)
      subst e
      exact pp _ _ ρ _ (S.alloc hq (fun _ z => by cases z)) (List.prefix_refl _) (sub_upd hg) (.pure (.lst upd_same (ints_rep _)))
    · cases h5
  · cases ra with
    | cons rd rn =>
    cases rn with
    | cons rd2 rn =>
    cases rn
    cases rd.isP rfl
    cases rd2.isP rfl
    exact call_max2 hc pins s σ H _ us Q I r ⟨_, _, rfl, p.fin S (.pure (.int _))⟩
  · cases ra with
    | cons rd rn =>
    cases rn with
    | cons rd2 rn =>
    cases rn
    cases rd.isP rfl
    cases rd2.isP rfl
    exact call_min2 hc pins s σ H _ us Q I r ⟨_, _, rfl, p.fin S (.pure (.int _))⟩
  · cases ra with
    | cons rd rn =>
    cases rn
    split at p
    · rename_i hz
      cases rd.isP rfl
      rename_i i
      refine call_str_int pins s σ H _ us Q I r ⟨i, rfl, ?_, p.fin S (.pure (.str _))⟩
      by_cases h0 : i.natAbs = 0
      · rw [h0]; decide
      · have := (Nat.log2_lt h0).mpr hz
        omega
    · exact p.elim
  · cases ra with
    | cons rd rn =>
    cases rn
    cases rd.isP rfl
    exact call_bool1 pins s σ H _ us Q I r (.inl ⟨_, rfl, p.fin S (.pure (.bl _))⟩)
  · cases ra with
    | cons rd rn =>
    cases rn
    cases rd.isP rfl
    exact call_bool1 pins s σ H _ us Q I r (.inr ⟨_, rfl, p.fin S (.pure (.bl _))⟩)
  · exact p.elim
end
end Q
/-! Q20: raise, try. -/
namespace Q
open PySem PySem.Spec PyProof.Rows L2
section
variable {X : Cx} {b : B0} {W : WX} {U : Wd} {pos pos' np p p2 : Pos}
theorem js_raise {c : Nat} {x m : Str} {j : Nat} {B newId initId : String} {bmB : List Value} (hX : XU X U) (hc : X.calm = true) (tk : Takes X W) (F : ExcBaseFacts B newId initId bmB) (q : PySem.W.excIn U.K (U.cA c) bmB newId = true) (gC : U.mg x = some (.ref (U.cA c))) (kC : PySem.W.keepIn U.K (.ref (U.cA c)) = true)
    (r1 : PySem.W.subIn U.K (.ref (U.cA c)) (.type "BaseException") = some true) (r2 : PySem.W.typeIn U.K (.ref (U.cA c)) = some (.type "type")) (hg : Gl X x) (hdb : (x == ("__debug__" : Str)) = false) :
    JS X U b W (.Raise (some (.Call (.Name x p) [.Constant (.str m) j p2] [] pos')) none pos) fun sl μ => .ex ⟨c, none⟩ sl μ := by
  rw [← hX.K] at q kC r1 r2
  rw [← hX.mg] at gC
  refine PS.imp (ps_raise hc tk (pmk_own F q gC kC (raises_own r1 r2) hg hdb)) fun Dn σ H h => ?_
  obtain ⟨sl, μ, ρ, G, s, pp⟩ := h
  exact pp _ _ σ H ρ G s (List.prefix_refl _) (Sub.refl _) ⟨rfl, rfl⟩
/-- try: body, except x: suite -/
def tryO (o : O) (is : Nat → Option Bool) (k : Sl → Sto → O) : O := match o with
  | .ex x sl μ => (match is x.c with
    | some true => k sl μ
    | some false => .ex x sl μ
    | none => .no)
  | o => o
theorem js_try {x : Str} {c : Value} {body suite : List Stmt} {b₀ : Stmt} {mb ms : Sl → Sto → O} {is : Nat → Option Bool} (hX : XU X U) (hs : X.stack = X.env :: X.outer) (hf : X.env.frame = some X.env.locals) (hn : Names X x c) (tk : Takes X W) (his : ∀ k z, is k = some z → PySem.W.exmOne U.K (.ref (U.cA k)) c = some z)
    (hb : ∀ (W' : WX) (pn : List (Addr × Obj)) (xe : Value → Shared → Prop), Takes (X.tr pn xe) W' → PassesOwn (model X.prog X.w) X.A X.env xe → JSs (X.tr pn xe) U b W' body mb)
    (hsu : ∀ (a : Addr) (oe : Obj) (cls : Value) (d : Option Addr) (pn : List (Addr × Obj)), Zc cls d oe → (∃ vs, oe.data = .fields vs) → JSs (X.suite a ((a, oe) :: pn)) U b W (b₀ :: suite) ms) :
    JS X U b W (.Try body [.ExceptHandler (some (.Name x np)) none (b₀ :: suite) pos'] [] [] pos) fun sl μ => tryO (mb sl μ) is ms := by
  refine PS.imp (ps_try_only (tb := fun W' => RdS U b W' mb) (ts := fun _ _ _ => RdS U b W ms) hs hf hn tk (fun W' pn xe tk' po => hb W' pn xe tk' po) (fun a oe cls d pn h1 h2 => hsu a oe cls d pn h1 h2)) fun Dn σ H h => ?_
  obtain ⟨sl, μ, ρ, G, s, pp⟩ := h
  refine ⟨sl, μ, ρ, G, s, ?_⟩
  dsimp only at pp
  cases e : mb sl μ with
  | nx sl' μ' => rw [e] at pp; exact pp
  | rt d μ' => rw [e] at pp; exact pp
  | bk sl' μ' => rw [e] at pp; exact pp
  | ct sl' μ' => rw [e] at pp; exact pp
  | no => rw [e] at pp; exact pp
  | ex y sl' μ' =>
    rw [e] at pp
    unfold tryO at pp
    dsimp only at pp
    intro cls dd σ' H' ρ' G' s' h1 h2 hx
    cases ei : is y.c with
    | none => rw [ei] at pp; exact pp.elim
    | some z =>
      rw [ei] at pp
      have hz := his _ _ ei
      rw [← hX.K] at hz
      refine ⟨z, by rw [hx.1]; exact hz, fun hz a ha => ?_, fun hz => ?_⟩
      · subst hz
        exact ⟨sl', μ', ρ', G', s', PoS.mono h1 h2 pp⟩
      · subst hz
        exact pp cls dd σ' H' ρ' G' s' h1 h2 hx
end
end Q
/-! Q21: the cells of a frame are known while others run. -/
namespace Q
open PySem PySem.Spec PyProof.Rows L2
abbrev CS := Addr → Option Obj
def addS (H : Hp) (S : CS) : Hp := fun a => match S a with
  | some o => some (CellO a o)
  | none => H a
def delS (H : Hp) (S : CS) : Hp := fun a => match S a with
  | some _ => none
  | none => H a
section
variable {H G H' G' : Hp} {S : CS} {a : Addr} {o : Obj} {h h' : Heap} {fs : List Addr} {P : Program} {w : World}
theorem addS_in (e : S a = some o) : addS H S a = some (CellO a o) := by unfold addS; rw [e]
theorem addS_out (e : S a = none) : addS H S a = H a := by unfold addS; rw [e]
theorem delS_in (e : S a = some o) : delS H S a = none := by unfold delS; rw [e]
theorem delS_out (e : S a = none) : delS H S a = H a := by unfold delS; rw [e]
/-- cells that stand in the heap and are not known -/
structure CellsS (S : CS) (H : Hp) (h : Heap) (fs : List Addr) : Prop where
  free : ∀ a o, S a = some o → H a = none
  at_ : ∀ a o, S a = some o → h.get? a = some o
  nf : ∀ a o, S a = some o → a ∉ fs
  cell : ∀ a o, S a = some o → ∃ v, o.data = .cell v
theorem CellsS.out (c : CellsS S H h fs) {u : HO} (e : H a = some u) : S a = none := by
  cases q : S a with
  | none => rfl
  | some o => rw [c.free a o q] at e; cases e
theorem hok_add (x : HOk P w H h) (c : CellsS S H h fs) : HOk P w (addS H S) h := fun b u e => by
  cases q : S b with
  | some o =>
    rw [addS_in q] at e
    cases e
    have := c.at_ b o q
    exact ⟨this, ⟨o, this⟩, fun h1 h2 p st => st o p⟩
  | none =>
    rw [addS_out q] at e
    exact (x b u e).stay (fun d v _ z => z) (fun d z => by rw [addS_out (c.out z)]; exact z) fun d xs z => by rw [addS_out (c.out z)]; exact z
theorem hok_del (x : HOk P w H h) (c : ∀ a o, S a = some o → H a = some (CellO a o)) : HOk P w (delS H S) h := fun b u e => by
  have out : ∀ d u, H d = some u → (∀ φ, u ≠ .ext φ) → S d = none := fun d u z n => by
    cases q : S d with
    | none => rfl
    | some o => rw [c d o q] at z; exact absurd (Option.some.inj z).symm (n _)
  cases q : S b with
  | some o => rw [delS_in q] at e; cases e
  | none =>
    rw [delS_out q] at e
    exact (x b u e).stay (fun d v _ z => z) (fun d z => by rw [delS_out (out d _ z (fun φ k => by cases k))]; exact z) fun d xs z => by rw [delS_out (out d _ z (fun φ k => by cases k))]; exact z
theorem cell_at (x : HOk P w H h) (e : H a = some (CellO a o)) : h.get? a = some o := (x a _ e).1
/-- not a cell, being another thing -/
theorem notcell {u : HO} (c : ∀ a o, S a = some o → H a = some (CellO a o)) (e : H a = some u) (n : ∀ φ, u ≠ .ext φ) : S a = none := by
  cases q : S a with
  | none => rfl
  | some o => rw [c a o q] at e; exact absurd (Option.some.inj e).symm (n _)
theorem un_del (u : Un fs [] (addS H S) H' h h') (x : HOk P w H' h') (c : CellsS S H h fs) (k : ∀ a o, S a = some o → H' a = some (CellO a o)) : Un fs [] H (delS H' S) h h' := by
  refine ⟨fun b o e n hb hx => ?_, fun b o e n hb hx => ?_, fun b o e n hx => ?_, fun b o e hx => u.there b o e hx, fun b xs e => ?_, fun b o xs e => ?_, fun b ps e => ?_⟩
  · cases q : S b with
    | some o' =>
      have h1 := c.at_ b o' q
      rw [e] at h1; cases h1
      exact cell_at x (k b _ q)
    | none => exact u.keep b o e (by rw [addS_out q]; exact n) hb hx
  · have q : S b = none := by
      cases q : S b with
      | none => rfl
      | some o' => exact absurd hb (c.nf b o' q)
    exact u.slot b o e (by rw [addS_out q]; exact n) hb hx
  · cases q : S b with
    | some o' => exact delS_in q
    | none => rw [delS_out q]; exact u.free b o e (by rw [addS_out q]; exact n) hx
  · have h1 := u.tups b xs (by rw [addS_out (c.out e)]; exact e)
    rw [delS_out (c.out e)]; exact h1
  · have h1 := u.frzs b o xs (by rw [addS_out (c.out e)]; exact e)
    rw [delS_out (c.out e)]; exact h1
  · have h1 := u.tbls b ps (by rw [addS_out (c.out e)]; exact e)
    rw [delS_out (c.out e)]; exact h1
theorem un_add (u : Un fs [] (delS H S) H' h h') (k : ∀ a o, S a = some o → H a = some (CellO a o)) : Un fs [] H (addS H' S) h h' := by
  have out : ∀ b, H b = none → S b = none := fun b n => by
    cases q : S b with
    | none => rfl
    | some o => rw [k b o q] at n; cases n
  refine ⟨fun b o e n hb hx => ?_, fun b o e n hb hx => ?_, fun b o e n hx => ?_, fun b o e hx => u.there b o e hx, fun b xs e => ?_, fun b o xs e => ?_, fun b ps e => ?_⟩
  · exact u.keep b o e (by rw [delS_out (out b n)]; exact n) hb hx
  · exact u.slot b o e (by rw [delS_out (out b n)]; exact n) hb hx
  · rw [addS_out (out b n)]; exact u.free b o e (by rw [delS_out (out b n)]; exact n) hx
  · have q := notcell k e (fun φ z => by cases z)
    rw [addS_out q]; exact u.tups b xs (by rw [delS_out q]; exact e)
  · have q := notcell k e (fun φ z => by cases z)
    rw [addS_out q]; exact u.frzs b o xs (by rw [delS_out q]; exact e)
  · have q := notcell k e (fun φ z => by cases z)
    rw [addS_out q]; exact u.tbls b ps (by rw [delS_out q]; exact e)
end
/-- behind a call that ran with the cells known -/
theorem cr_del {P : Program} {w : World} {outer : List Env} {H : Hp} {s s' : Shared} {Q Q' : VK} {E E' : XK} {S : CS} {r : Result} (c : CellsS S H s.heap (frs outer)) (hQ : ∀ v H1, Q' v H1 → (∀ a o, S a = some o → H1 a = some (CellO a o)) ∧ Q v (delS H1 S))
    (hE : ∀ cls d H1, E' cls d H1 → (∀ a o, S a = some o → H1 a = some (CellO a o)) ∧ E cls d (delS H1 S)) (x : CR (L2.CX P w) outer P w (addS H S) s Q' E' r s') : CR (L2.CX P w) outer P w H s Q E r s' := by
  cases r with
  | error e =>
    obtain ⟨a, B, H', cls, d, e1, fl, hok, ub, na, os, ag, hE'⟩ := x
    obtain ⟨k, q⟩ := hE _ _ _ hE'
    refine ⟨a, B, delS H' S, cls, d, e1, fl, hok_del hok k, ⟨fun b o e n hb => ?_, ub.slot, fun b o e n => ?_, ub.there, fun b xs e => ?_, fun b o xs e => ?_, fun b ps e => ?_⟩, ?_, os, ag, q⟩
    · cases q : S b with
      | some o' =>
        have h1 := c.at_ b o' q
        rw [e] at h1; cases h1
        exact cell_at hok (k b _ q)
      | none => exact ub.keep b o e (by rw [addS_out q]; exact n) hb
    · cases q : S b with
      | some o' => exact delS_in q
      | none => rw [delS_out q]; exact ub.free b o e (by rw [addS_out q]; exact n)
    · rw [delS_out (c.out e)]; exact ub.tups b xs (by rw [addS_out (c.out e)]; exact e)
    · rw [delS_out (c.out e)]; exact ub.frzs b o xs (by rw [addS_out (c.out e)]; exact e)
    · obtain ⟨m, z⟩ := ub.tbls b ps (by rw [addS_out (c.out e)]; exact e)
      exact ⟨m, by rw [delS_out (c.out e)]; exact z⟩
    · cases q : S a with
      | some o => exact delS_in q
      | none => rw [delS_out q]; exact na
  | ok fl =>
    cases fl with
    | ret u =>
      obtain ⟨v, H', os, bare, un, hok, rv, hq⟩ := x
      obtain ⟨k, q⟩ := hQ _ _ hq
      exact ⟨v, delS H' S, os, bare, un_del un hok c k, hok_del hok k, rv, q⟩
    | next => exact x
    | brk => exact x
    | cont => exact x
/-- behind a call that ran with the cells not known -/
theorem cr_add {P : Program} {w : World} {outer : List Env} {H : Hp} {s s' : Shared} {Q Q' : VK} {E E' : XK} {S : CS} {r : Result} (k : ∀ a o, S a = some o → H a = some (CellO a o)) (hk : HOk P w H s.heap) (nf : ∀ b ∈ frs outer, H b = none) (hc : ∀ a o, S a = some o → ∃ v, o.data = .cell v)
    (hQ : ∀ v H1, Q' v H1 → (∀ a o, S a = some o → H1 a = none) → Q v (addS H1 S))
    (hE : ∀ cls d H1, E' cls d H1 → (∀ a o, S a = some o → H1 a = none) → E cls d (addS H1 S)) (x : CR (L2.CX P w) outer P w (delS H S) s Q' E' r s') : CR (L2.CX P w) outer P w H s Q E r s' := by
  have nfr : ∀ a o, S a = some o → a ∉ frs outer := fun a o e z => by have := nf a z; rw [k a o e] at this; cases this
  have out : ∀ b, H b = none → S b = none := fun b n => by
    cases q : S b with
    | none => rfl
    | some o => rw [k b o q] at n; cases n
  cases r with
  | error e =>
    obtain ⟨a, B, H', cls, d, e1, fl, hok, ub, na, os, ag, hE'⟩ := x
    have fr : ∀ a o, S a = some o → H' a = none := fun a o e => ub.free a o (cell_at hk (k a o e)) (delS_in e)
    have cs : CellsS S H' B (frs outer) := ⟨fr, fun a o e => ub.keep a o (cell_at hk (k a o e)) (delS_in e) (nfr a o e), nfr, hc⟩
    refine ⟨a, B, addS H' S, cls, d, e1, fl, hok_add hok cs, ⟨fun b o e n hb => ?_, ub.slot, fun b o e n => ?_, ub.there, fun b xs e => ?_, fun b o xs e => ?_, fun b ps e => ?_⟩, ?_, os, ag, hE _ _ _ hE' fr⟩
    · exact ub.keep b o e (by rw [delS_out (out b n)]; exact n) hb
    · rw [addS_out (out b n)]; exact ub.free b o e (by rw [delS_out (out b n)]; exact n)
    · have q := notcell k e (fun φ z => by cases z)
      rw [addS_out q]; exact ub.tups b xs (by rw [delS_out q]; exact e)
    · have q := notcell k e (fun φ z => by cases z)
      rw [addS_out q]; exact ub.frzs b o xs (by rw [delS_out q]; exact e)
    · have q := notcell k e (fun φ z => by cases z)
      rw [addS_out q]; exact ub.tbls b ps (by rw [delS_out q]; exact e)
    · cases q : S a with
      | none => rw [addS_out q]; exact na
      | some o =>
        exfalso
        obtain ⟨oe, vs, he, hz, hd⟩ := fl.there
        have h1 := cs.at_ a o q
        have h2 := fl.1 a o h1
        have h3 := Option.some.inj (he.symm.trans h2)
        obtain ⟨v, hv⟩ := hc a o q
        rw [← h3, hd] at hv; cases hv
  | ok fl =>
    cases fl with
    | ret u =>
      obtain ⟨v, H', os, bare, un, hok, rv, hq⟩ := x
      have fr : ∀ a o, S a = some o → H' a = none := fun a o e => un.free a o (cell_at hk (k a o e)) (delS_in e) (by simp)
      have cs : CellsS S H' s'.heap (frs outer) := ⟨fr, fun a o e => un.keep a o (cell_at hk (k a o e)) (delS_in e) (nfr a o e) (by simp), nfr, hc⟩
      exact ⟨v, addS H' S, os, bare, un_add un k, hok_add hok cs, rv, hQ _ _ hq fr⟩
    | next => exact x
    | brk => exact x
    | cont => exact x
end Q
/-! Q22: the relation, with the cells known or not. -/
namespace Q
open PySem PySem.Spec PyProof.Rows L2
/-- cells are told from other things -/
structure Sep (S : CS) : Prop where
  set : ∀ a o w T n, S a = some o → SetO w a T n ≠ CellO a o
  code : ∀ a o q, S a = some o → LamX.CodeO a q ≠ CellO a o
theorem sep_of {S : CS} {h : Heap} (h1 : ∀ a o, S a = some o → h.get? a = some o) (h2 : ∀ a o, S a = some o → ∃ v, o.data = .cell v) : Sep S := by
  refine ⟨fun a o w T n e z => ?_, fun a o q e z => ?_⟩
  · unfold SetO CellO at z
    have z := congrFun (HO.ext.inj z) h
    have z2 : SetR w h a T n := by rw [z]; exact h1 a o e
    obtain ⟨o', _, _, _, e1, _, e2, _⟩ := z2
    have := h1 a o e
    rw [e1] at this; cases this
    obtain ⟨v, hv⟩ := h2 a _ e
    rw [e2] at hv; cases hv
  · unfold LamX.CodeO CellO at z
    have z := congrFun (HO.ext.inj z) h
    have z2 : ∃ (oc : Obj) (vs : Array Value) (t : Tok), h.get? a = some oc ∧ oc.data = .fields vs ∧ vs[1]? = some (.str q t) := by rw [z]; exact h1 a o e
    obtain ⟨o', _, _, e1, e2, _⟩ := z2
    have := h1 a o e
    rw [e1] at this; cases this
    obtain ⟨v, hv⟩ := h2 a _ e
    rw [e2] at hv; cases hv
section
variable {U : Wd} {b : B0} {μ μ' : Sto} {ρ ρ' : List Addr} {G H G' H' : Hp} {S : CS}
/-- all but the cells is there still -/
theorem del_keep (k : ∀ a o, S a = some o → G a = some (CellO a o)) {a : Addr} {u : HO} (e : G a = some u) (n : ∀ o, S a = some o → u ≠ CellO a o) : delS G S a = some u := by
  cases q : S a with
  | none => rw [delS_out q]; exact e
  | some o =>
    have h1 := k a o q
    rw [e] at h1
    exact absurd (Option.some.inj h1) (n o q)
theorem cellO_ext {a : Addr} {o : Obj} : ∃ φ, CellO a o = .ext φ := ⟨_, rfl⟩
theorem del_rd (k : ∀ a o, S a = some o → G a = some (CellO a o)) {a : Addr} {u : HO} (hn : ∀ φ, u ≠ .ext φ) (e : Rd G a u) : Rd (delS G S) a u := by
  rcases e with e | ⟨o, e⟩
  · exact .inl (del_keep k e fun o' _ z => by obtain ⟨φ, hφ⟩ := @cellO_ext a o'; exact hn φ (z.trans hφ))
  · exact .inr ⟨o, del_keep k e fun o' _ z => by unfold CellO at z; cases z⟩
mutual
theorem Rep.del (sp : Sep S) (k : ∀ a o, S a = some o → G a = some (CellO a o)) : ∀ {v : V} {d : D}, Rep U G v d → Rep U (delS G S) v d
  | _, _, .non => .non
  | _, _, .bl b => .bl b
  | _, _, .int i => .int i
  | _, _, .str x => .str x
  | _, _, .ty t => .ty t
  | _, _, .cls c => .cls c
  | _, _, .fn j => .fn j
  | _, _, .tup h l => .tup (h.elim (fun z => .inl (del_rd k (fun φ z => by cases z) z)) .inr) (RepL.del sp k l)
  | _, _, .lst h l => .lst (del_keep k h fun o _ z => by unfold CellO at z; cases z) (RepL.del sp k l)
  | _, _, .slst h l => .slst (h.elim (fun z => .inl (del_rd k (fun φ z => by cases z) z)) .inr) (RepL.del sp k l)
  | _, _, .ins h n l => .ins (del_keep k h fun o _ z => by unfold CellO at z; cases z) n (RepL.del sp k l)
  | _, _, .kdct h n l => .kdct h n (RepL.del sp k l)
  | _, _, .set h s n l => .set (del_keep k h fun o e z => sp.set _ o _ _ _ e z) s n l
theorem RepL.del (sp : Sep S) (k : ∀ a o, S a = some o → G a = some (CellO a o)) : ∀ {vs : List V} {ds : List D}, RepL U G vs ds → RepL U (delS G S) vs ds
  | _, _, .nil => .nil
  | _, _, .cons h t => .cons (Rep.del sp k h) (RepL.del sp k t)
end
theorem RV.del (sp : Sep S) (k : ∀ a o, S a = some o → G a = some (CellO a o)) {v : V} {d : D} (hd : isV d = true) (r : RV U ρ G v d) : RV U ρ (delS G S) v d := by
  cases r with
  | ref e => exact .ref e
  | pure r => exact .pure (r.del sp k)
  | nfn => cases hd
  | clo => cases hd
theorem RVL.del (sp : Sep S) (k : ∀ a o, S a = some o → G a = some (CellO a o)) : ∀ {vs : List V} {ds : List D}, allV ds = true → RVL U ρ G vs ds → RVL U ρ (delS G S) vs ds
  | _, _, _, .nil => .nil
  | _, _, h, .cons r t => by
    unfold allV at h
    rw [Bool.and_eq_true] at h
    exact .cons (r.del sp k h.1) (RVL.del sp k h.2 t)
theorem mrep_del (sp : Sep S) (k : ∀ a o, S a = some o → G a = some (CellO a o)) (hs : Sub G H) {p : Addr} {mo : MO} (h : MRep U ρ G H p mo) (hp : S p = none) : MRep U ρ (delS G S) (delS H S) p mo := by
  cases mo with
  | lst ds => obtain ⟨xs, e, l⟩ := h; exact ⟨xs, by rw [delS_out hp]; exact e, l.del sp k⟩
  | ins c ds => obtain ⟨dx, fs, e, n, l, z⟩ := h; exact ⟨dx, fs, by rw [delS_out hp]; exact e, n, l.del sp k z, z⟩
  | set _ => exact h
  | dct _ => exact h
  | gone => obtain ⟨o, e, z⟩ := h; exact ⟨o, by rw [delS_out hp]; exact e, z⟩
theorem XR.del (sp : Sep S) (k : ∀ a o, S a = some o → G a = some (CellO a o)) (hs : Sub G H) {x : Ex} {cls : Value} {dd : Option Addr} (h : XR U ρ G H x cls dd) : XR U ρ (delS G S) (delS H S) x cls dd := by
  obtain ⟨c, f⟩ := x
  obtain ⟨h1, h2⟩ := h
  refine ⟨h1, ?_⟩
  cases f with
  | none => exact h2
  | some d =>
    obtain ⟨a, v, f, e1, e2, e3, r⟩ := h2
    exact ⟨a, v, f, e1, del_keep (fun a o e => hs _ _ (k a o e)) e2 (fun o _ z => by unfold CellO at z; cases z), e3, r.del sp k⟩
theorem add_sub (fr : ∀ a o, S a = some o → G a = none) : Sub G (addS G S) := fun a u e => by
  cases q : S a with
  | none => rw [addS_out q]; exact e
  | some o => rw [fr a o q] at e; cases e
theorem add_mono (hg : Sub G H) : Sub (addS G S) (addS H S) := fun a u e => by
  cases q : S a with
  | none => rw [addS_out q] at e ⊢; exact hg a u e
  | some o => rw [addS_in q] at e ⊢; exact e
theorem del_mono (hg : Sub G H) : Sub (delS G S) (delS H S) := fun a u e => by
  cases q : S a with
  | none => rw [delS_out q] at e ⊢; exact hg a u e
  | some o => rw [delS_in q] at e; cases e
theorem tabs_add {T : List NdefX.NTab} (t : NdefX.TabsN T H) (fr : ∀ a o, S a = some o → H a = none) : NdefX.TabsN T (addS H S) := t.ext fun a u e => add_sub fr a u e
theorem tabs_del {T : List NdefX.NTab} (sp : Sep S) (t : NdefX.TabsN T H) (k : ∀ a o, S a = some o → H a = some (CellO a o)) : NdefX.TabsN T (delS H S) := fun q hq => by
  obtain ⟨ps, e1, e2, e3⟩ := t q hq
  refine ⟨ps, del_keep k e1 (fun o _ z => by unfold CellO at z; cases z), e2, fun pos cv h => ?_⟩
  obtain ⟨c, h1, h2⟩ := e3 pos cv h
  exact ⟨c, h1, del_keep k h2 fun o e z => sp.code _ o _ e z⟩
/-- the cells become known -/
theorem SH.add0 (s : SH U b μ ρ G H) (fr : ∀ a o, S a = some o → H a = none) : SH U ⟨addS H S, ρ, addS G S⟩ μ ρ (addS G S) (addS H S) := by
  have frG : ∀ a o, S a = some o → G a = none := fun a o e => s.gfree (fr a o e)
  have ro : ∀ p ∈ ρ, S p = none := fun p hp => by
    cases q : S p with
    | none => rfl
    | some o => exact absurd (fr p o q) (s.rsome hp)
  refine ⟨add_mono s.sub, fun a ps e => ?_, s.len, s.nd, fun i p o h1 h2 h3 => ?_, fun i p o h1 h2 => ?_, List.prefix_refl _, fun _ _ e _ _ => e, fun _ e => e, fun _ e => .inl e, Sub.refl _, fun _ h => .inl h, tabs_add s.tabs fr, add_mono s.sub⟩
  · cases q : S a with
    | none => rw [addS_out q] at e; exact s.ntb a ps e
    | some o => rw [addS_in q] at e; unfold CellO at e; cases e
  · rw [addS_out (ro p (List.mem_of_getElem? h1))]; exact s.ap i p o h1 h2 h3
  · exact (s.sto i p o h1 h2).mono (List.prefix_refl _) (add_sub frG) (addS_out (ro p (List.mem_of_getElem? h1)))
/-- .. and are not known any more -/
theorem SH.del1 (s : SH U b μ ρ G H) (fr : ∀ a o, S a = some o → H a = none) (sp : Sep S) (t : SH U ⟨addS H S, ρ, addS G S⟩ μ' ρ' G' H') : (∀ a o, S a = some o → H' a = some (CellO a o)) ∧ (∀ a o, S a = some o → G' a = some (CellO a o)) ∧ SH U ⟨H, ρ, G⟩ μ' ρ' (delS G' S) (delS H' S) := by
  have ro : ∀ p ∈ ρ, S p = none := fun p hp => by
    cases q : S p with
    | none => rfl
    | some o => exact absurd (fr p o q) (s.rsome hp)
  have kG : ∀ a o, S a = some o → G' a = some (CellO a o) := fun a o e => t.gsub a _ (addS_in e)
  have kH : ∀ a o, S a = some o → H' a = some (CellO a o) := fun a o e => t.sub a _ (kG a o e)
  have out : ∀ a u, H a = some u → S a = none := fun a u e => by
    cases q : S a with
    | none => rfl
    | some o => rw [fr a o q] at e; cases e
  have outG : ∀ a u, G a = some u → S a = none := fun a u e => out a u (s.sub a u e)
  have ro' : ∀ p ∈ ρ', S p = none := fun p hp => by
    rcases t.rnew p hp with z | z
    · exact ro p z
    · cases q : S p with
      | none => rfl
      | some o => rw [show (⟨addS H S, ρ, addS G S⟩ : B0).H p = addS H S p from rfl, addS_in q] at z; cases z
  refine ⟨kH, kG, del_mono t.sub, fun a ps e => ?_, t.len, t.nd, fun i p o h1 h2 h3 => ?_, fun i p o h1 h2 => ?_, t.pre, fun a o e n m => ?_, fun a e => ?_, fun a e => ?_, fun a u e => ?_, fun p hp => ?_, tabs_del sp t.tabs kH, s.sub⟩
  · cases q : S a with
    | none => rw [delS_out q] at e; exact t.ntb a ps e
    | some o => rw [delS_in q] at e; cases e
  · rw [delS_out (ro' p (List.mem_of_getElem? h1))]; exact t.ap i p o h1 h2 h3
  · exact mrep_del sp kG t.sub (t.sto i p o h1 h2) (ro' p (List.mem_of_getElem? h1))
  · rw [delS_out (out a o e)]
    exact t.ext a o (by show addS H S a = some o; rw [addS_out (out a o e)]; exact e) n m
  · show H a = none
    cases q : S a with
    | some o => exact fr a o q
    | none =>
      rw [delS_out q] at e
      have h1 : addS H S a = none := t.dom a e
      rw [addS_out q] at h1; exact h1
  · cases q : S a with
    | some o => rw [delS_in q] at e; exact absurd rfl e
    | none =>
      rw [delS_out q] at e ⊢
      rcases t.gnew a e with z | z | z | z
      · exact .inl (by have z : addS G S a ≠ none := z; rw [addS_out q] at z; exact z)
      · exact .inr (.inl (by have z : addS H S a = none := z; rw [addS_out q] at z; exact z))
      · exact .inr (.inr (.inl z))
      · exact .inr (.inr (.inr z))
  · rw [delS_out (outG a u e)]
    exact t.gsub a u (by show addS G S a = some u; rw [addS_out (outG a u e)]; exact e)
  · rcases t.rnew p hp with z | z
    · exact .inl z
    · refine .inr ?_
      have z : addS H S p = none := z
      rw [addS_out (ro' p hp)] at z; exact z
/-- cells that were known are not -/
theorem SH.del0 (s : SH U b μ ρ G H) (sp : Sep S) (k : ∀ a o, S a = some o → G a = some (CellO a o)) (ro : ∀ p ∈ ρ, S p = none) : SH U ⟨delS H S, ρ, delS G S⟩ μ ρ (delS G S) (delS H S) := by
  have kH : ∀ a o, S a = some o → H a = some (CellO a o) := fun a o e => s.sub a _ (k a o e)
  refine ⟨del_mono s.sub, fun a ps e => ?_, s.len, s.nd, fun i p o h1 h2 h3 => ?_, fun i p o h1 h2 => ?_, List.prefix_refl _, fun _ _ e _ _ => e, fun _ e => e, fun _ e => .inl e, Sub.refl _, fun _ h => .inl h, tabs_del sp s.tabs kH, del_mono s.sub⟩
  · cases q : S a with
    | none => rw [delS_out q] at e; exact s.ntb a ps e
    | some o => rw [delS_in q] at e; cases e
  · rw [delS_out (ro p (List.mem_of_getElem? h1))]; exact s.ap i p o h1 h2 h3
  · exact mrep_del sp k s.sub (s.sto i p o h1 h2) (ro p (List.mem_of_getElem? h1))
theorem SH.add1 (s : SH U b μ ρ G H) (k : ∀ a o, S a = some o → G a = some (CellO a o)) (t : SH U ⟨delS H S, ρ, delS G S⟩ μ' ρ' G' H') (fr : ∀ a o, S a = some o → H' a = none) : SH U ⟨H, ρ, G⟩ μ' ρ' (addS G' S) (addS H' S) := by
  have kH : ∀ a o, S a = some o → H a = some (CellO a o) := fun a o e => s.sub a _ (k a o e)
  have frG : ∀ a o, S a = some o → G' a = none := fun a o e => t.gfree (fr a o e)
  have ro' : ∀ p ∈ ρ', S p = none := fun p hp => by
    cases q : S p with
    | none => rfl
    | some o => exact absurd (fr p o q) (t.rsome hp)
  refine ⟨add_mono t.sub, fun a ps e => ?_, t.len, t.nd, fun i p o h1 h2 h3 => ?_, fun i p o h1 h2 => ?_, t.pre, fun a o e n m => ?_, fun a e => ?_, fun a e => ?_, fun a u e => ?_, fun p hp => ?_, tabs_add t.tabs fr, s.sub⟩
  · cases q : S a with
    | none => rw [addS_out q] at e; exact t.ntb a ps e
    | some o => rw [addS_in q] at e; unfold CellO at e; cases e
  · rw [addS_out (ro' p (List.mem_of_getElem? h1))]; exact t.ap i p o h1 h2 h3
  · exact (t.sto i p o h1 h2).mono (List.prefix_refl _) (add_sub frG) (addS_out (ro' p (List.mem_of_getElem? h1)))
  · cases q : S a with
    | some o' => rw [addS_in q]; have e : H a = some o := e; rw [kH a o' q] at e; exact e
    | none => rw [addS_out q]; exact t.ext a o (by show delS H S a = some o; rw [delS_out q]; exact e) n m
  · show H a = none
    cases q : S a with
    | some o => rw [addS_in q] at e; cases e
    | none =>
      rw [addS_out q] at e
      have h1 : delS H S a = none := t.dom a e
      rw [delS_out q] at h1; exact h1
  · cases q : S a with
    | some o => exact .inl (by show G a ≠ none; rw [k a o q]; simp)
    | none =>
      rw [addS_out q] at e ⊢
      rcases t.gnew a e with z | z | z | z
      · exact .inl (by have z : delS G S a ≠ none := z; rw [delS_out q] at z; exact z)
      · exact .inr (.inl (by have z : delS H S a = none := z; rw [delS_out q] at z; exact z))
      · exact .inr (.inr (.inl z))
      · exact .inr (.inr (.inr z))
  · cases q : S a with
    | some o' => rw [addS_in q]; have e : G a = some u := e; rw [k a o' q] at e; exact e
    | none => rw [addS_out q]; exact t.gsub a u (by show delS G S a = some u; rw [delS_out q]; exact e)
  · rcases t.rnew p hp with z | z
    · exact .inl z
    · refine .inr ?_
      have z : delS H S p = none := z
      rw [delS_out (ro' p hp)] at z; exact z
end
end Q
/-! Q23: functions made on the way: def within def, lambda. -/
namespace Q
open PySem PySem.Spec PyProof.Rows L2
section
variable {U : Wd} {b : B0} {μ : Sto} {ρ : List Addr} {G H H1 : Hp} {sl : Sl} {σ : St}
theorem heap_with (f : Addr) (n : NFi) (cl : List (Str × Addr)) (c : Addr) : ∃ h : Heap, h.get? f = some (⟨.type "function", none, .func (n.fd cl c .none .none .none), #[]⟩ : Obj) := by
  refine ⟨{ objs := Array.replicate (f + 1) (⟨.type "function", none, .func (n.fd cl c .none .none .none), #[]⟩ : Obj) }, ?_⟩
  unfold Heap.get?
  simp
theorem clo_code {f c : Addr} {n : NFi} {cl : List (Str × Addr)} {q : Str} : CloO f n cl c ≠ LamX.CodeO f q := fun z => by
  obtain ⟨h, e⟩ := heap_with f n cl c
  unfold CloO LamX.CodeO at z
  have z := congrFun (HO.ext.inj z) h
  have z2 : ∃ (oc : Obj) (vs : Array Value) (t : Tok), h.get? f = some oc ∧ oc.data = .fields vs ∧ vs[1]? = some (.str q t) := by rw [← z]; exact ⟨_, _, _, _, _, e⟩
  obtain ⟨oc, vs, t, e1, e2, _⟩ := z2
  rw [e] at e1; cases e1; cases e2
/-- a function was made: its object at f, its code object at c -/
theorem SH.made {f c : Addr} {q : Str} {o : HO} (s : SH U b μ ρ G H) (hE : LamX.ExtN H H1) (hD : ∀ a, H1 a = none → H a = none) (hT : NdefX.TabsN U.T H1) (hf : H f = none) (hf1 : H1 f = some o) (ho : ∀ ps, o ≠ .tbl ps) (hc1 : H1 c = some (LamX.CodeO c q)) (hfc : f ≠ c) :
    SH U b μ ρ (upd (upd G c (LamX.CodeO c q)) f o) H1 ∧ Sub G (upd (upd G c (LamX.CodeO c q)) f o) := by
  have gf : G f = none := s.gfree hf
  have up : ∀ a u, G a = some u → H1 a = some u := fun a u e => hE a u (s.sub a u e) (fun ps z => s.ntb a ps (z ▸ e))
  have hG : Sub G (upd (upd G c (LamX.CodeO c q)) f o) := fun a u e => by
    have h1 : a ≠ f := ne_of_none e gf
    rw [upd_ne h1]
    by_cases h2 : a = c
    · subst h2
      have := up a u e
      rw [hc1] at this
      rw [upd_same]; exact this
    · rw [upd_ne h2]; exact e
  have live : ∀ (i : Nat) p m, ρ[i]? = some p → μ[i]? = some m → m ≠ .gone → p ≠ f ∧ p ≠ c := fun i p m h1 h2 h3 => by
    obtain ⟨ho', e0, nt, nc, ne⟩ := mrep_live (s.sto i p m h1 h2) h3
    refine ⟨ne_of_none e0 hf, fun z => ?_⟩
    have := hE p ho' e0 nt
    rw [z, hc1] at this
    exact nc _ _ (Option.some.inj this).symm
  refine ⟨⟨fun a u e => ?_, fun a ps e => ?_, s.len, s.nd, fun i p m h1 h2 h3 => ?_, fun i p m h1 h2 => ?_, s.pre, fun a u e n m => ?_, fun a e => s.dom a (hD a e), fun a e => ?_, s.gsub.trans hG, s.rnew, hT, s.b0⟩, hG⟩
  · by_cases h1 : a = f
    · subst h1; rw [upd_same] at e; cases e; exact hf1
    · rw [upd_ne h1] at e
      by_cases h2 : a = c
      · subst h2; rw [upd_same] at e; cases e; exact hc1
      · rw [upd_ne h2] at e; exact up a u e
  · by_cases h1 : a = f
    · subst h1; rw [upd_same] at e; exact ho ps (Option.some.inj e)
    · rw [upd_ne h1] at e
      by_cases h2 : a = c
      · subst h2; rw [upd_same] at e; exact LamX.codeO_ne ps (Option.some.inj e)
      · rw [upd_ne h2] at e; exact s.ntb a ps e
  · obtain ⟨q1, q2⟩ := live i p m h1 h2 h3
    rw [upd_ne q1, upd_ne q2]; exact s.ap i p m h1 h2 h3
  · by_cases hm : m = .gone
    · subst hm
      obtain ⟨o', e, z1, z2⟩ := s.sto i p _ h1 h2
      exact ⟨o', hE p o' e z2, z1, z2⟩
    · obtain ⟨ho', e0, nt, nc, ne⟩ := mrep_live (s.sto i p m h1 h2) hm
      exact (s.sto i p m h1 h2).mono (List.prefix_refl _) hG (by rw [hE p ho' e0 nt, e0])
  · exact hE a u (s.ext a u e n m) n
  · by_cases h1 : a = f
    · subst h1; exact .inr (.inl (s.dom a hf))
    · rw [upd_ne h1] at e ⊢
      by_cases h2 : a = c
      · subst h2; exact .inr (.inr (.inl ⟨q, upd_same⟩))
      · rw [upd_ne h2] at e ⊢; exact s.gnew a e
end
section
variable {X : Cx} {b : B0} {W : WX} {U : Wd} {pos : Pos}
/-- def name(..): .. within a def: the slot i holds it -/
theorem js_ndef {k i : Nat} {nm : Nat → Nat → Str} {c P : Addr} {name : Str} {params : Arguments} {body : List Stmt} {scope : Scope} {fr : List Str} (hk : U.nf k = ⟨name, X.env.qual ++ name, params, .stmts body, scope, fr⟩) (hcl : U.cl = X.env.cells) (TB : LamX.TabB X.base X.mg c P) (hcode : X.env.code = .ref c)
    (hm : (P, nm) ∈ U.T) (hn : nm pos.line pos.col = X.env.qual ++ name) (hu : ∀ p ∈ U.T, p.1 = P → p.2 = nm) (hfree : ∀ y ∈ scope.names, y.2 = .free → X.env.scope.names.lookup y.1 = some .cell ∨ X.env.scope.names.lookup y.1 = some .free)
    (hd0 : params.defaults = []) (hk0 : params.kw_defaults = []) (ha : annTrees params none X.env = []) (hN : X.N.Nodup) (hi : X.N[i]? = some name) (hx : Loc X.env.scope name) (hf : X.fn name = true ∨ X.env.scope.names.lookup name = some .local) :
    JS X U b W (.FunctionDef name params body [] none [] scope none name pos) fun sl μ => .nx (sl.set i (some (.nfn k))) μ := by
  refine PS.imp (NdefX.ps_ndefM (T := U.T) TB hcode hm hn hu hfree hd0 hk0 ha hN hi hx hf) fun Dn σ H h => ?_
  obtain ⟨sl, μ, ρ, G, s, p⟩ := h
  refine ⟨s.h.tabs, fun f c' H1 hE hD hT hf0 hf1 hc1 => ?_⟩
  have hfc : f ≠ c' := fun z => by
    subst z
    rw [hf1] at hc1
    exact clo_code (n := ⟨name, X.env.qual ++ name, params, .stmts body, scope, fr⟩) (Option.some.inj hc1)
  obtain ⟨s1, hG⟩ := s.h.made hE hD hT hf0 hf1 (fun ps z => NdefX.fnO_ne ps z) hc1 hfc
  refine p _ H1 ρ _ ((s.over s1 (List.prefix_refl _) hG).set (.nfn (c := c') ?_ ?_)) (List.prefix_refl _) hG
  · rw [upd_same, hk, hcl]; rfl
  · rw [upd_ne (Ne.symm hfc), upd_same, hk]
/-- a lambda is made -/
theorem je_lam {k : Nat} {nm : Nat → Nat → Str} {c P : Addr} {params : Arguments} {body : Expr} {scope : Scope} {fr : List Str} (hk : U.nf k = ⟨"<lambda>", X.env.qual ++ "<lambda>", params, .expr body, scope, fr⟩) (hcl : U.cl = X.env.cells) (TB : LamX.TabB X.base X.mg c P) (hcode : X.env.code = .ref c)
    (hm : (P, nm) ∈ U.T) (hn : nm pos.line pos.col = X.env.qual ++ "<lambda>") (hu : ∀ p ∈ U.T, p.1 = P → p.2 = nm) (hfree : ∀ y ∈ scope.names, y.2 = .free → X.env.scope.names.lookup y.1 = some .cell ∨ X.env.scope.names.lookup y.1 = some .free)
    (hdef : defaultsOf params X.env = ([], [])) : JE X U b W (.Lambda params body scope pos) fun _ μ => .ok (.nfn k) μ := by
  refine ⟨fun pins s σ H Q I h => ?_⟩
  obtain ⟨sl, μ, ρ, G, S, pp⟩ := h
  have hf : ∀ y ∈ scope.names, y.2 = .free → ∃ c, X.env.cells.lookup y.1 = some c := fun y hy e => (hfree y hy e).elim (fun z => I.ok.has _ (.inl z)) fun z => I.ok.has _ (.inr z)
  obtain ⟨ps, hP, ht, ha⟩ := (show NdefX.TabN H P nm from S.h.tabs _ hm)
  have bP : s.heap.BuiltinsAt X.mg P := TB.bm.keeps I.bk
  have hP' : s.heap.get? P = some { cls := .none, data := .fields ps } := I.hok P _ hP
  have fin : ∀ {H1 : Hp} {s1 : Shared} {f c' : Addr}, Inv X pins σ H1 s1 → LamX.ExtN H H1 → (∀ a, H1 a = none → H a = none) → NdefX.TabsN U.T H1 → H f = none → H1 f = some (CloO f (U.nf k) (cloFrom U.cl (U.nf k).scope.names []) c') → H1 c' = some (LamX.CodeO c' (U.nf k).qual) → EP X pins σ Q (.ref f) s1 := fun {H1 s1 f c'} I1 hE hD hT hf0 hf1 hc1 => by
    have hfc : f ≠ c' := fun z => by
      subst z
      rw [hf1] at hc1
      exact clo_code (Option.some.inj hc1)
    obtain ⟨t1, hG⟩ := S.h.made hE hD hT hf0 hf1 (fun ps z => by unfold CloO at z; cases z) hc1 hfc
    exact ⟨.ref f, H1, I1, rfl, pp _ H1 ρ _ (S.over t1 (List.prefix_refl _) hG) (List.prefix_refl _) hG (.nfn upd_same (by rw [upd_ne (Ne.symm hfc), upd_same]))⟩
  have new : ∀ {Hm : Hp} {s1 : Shared} {c' : Addr} {o : Obj} {pm ctv : Value} {tk : Nat}, Inv X pins σ Hm s1 → o = { cls := .type "function", data := .func ((U.nf k).fd (cloFrom U.cl (U.nf k).scope.names []) c' .none pm ctv) } → LamX.ExtN H Hm → (∀ a, Hm a = none → H a = none) → NdefX.TabsN U.T Hm →
      Hm c' = some (LamX.CodeO c' (U.nf k).qual) → EP X pins σ Q (.ref s1.heap.objs.size) { s1 with heap := s1.heap.push o, toks := tk } := fun {Hm s1 c' o pm ctv tk} I1 ho hE hD hT hc1 => by
    subst ho
    have nF : Hm s1.heap.objs.size = none := I1.hok.fresh (Nat.le_refl _)
    have sub : Sub Hm (upd Hm s1.heap.objs.size (CloO s1.heap.objs.size (U.nf k) (cloFrom U.cl (U.nf k).scope.names []) c')) := sub_upd nF
    have e : (s1.heap.push ({ cls := .type "function", data := .func ((U.nf k).fd (cloFrom U.cl (U.nf k).scope.names []) c' .none pm ctv) } : Obj)).get? s1.heap.objs.size = some _ := Heap.get?_push_size _ rfl
    have I2 : Inv X pins σ (upd Hm s1.heap.objs.size (CloO s1.heap.objs.size (U.nf k) (cloFrom U.cl (U.nf k).scope.names []) c')) { s1 with heap := s1.heap.push ({ cls := .type "function", data := .func ((U.nf k).fd (cloFrom U.cl (U.nf k).scope.names []) c' .none pm ctv) } : Obj), toks := tk } :=
      I1.laid (a := s1.heap.objs.size) (fun b u z => Heap.get?_push_of_some _ z) (Nat.le_refl _) ⟨⟨_, _, .none, pm, ctv, e⟩, ⟨_, e⟩, fun h1 h2 ⟨od, sl, d, p, t, z⟩ st => ⟨od, sl, d, p, t, st _ z⟩⟩
    exact fin I2 (fun a u z n => sub _ _ (hE a u z n)) (fun a z => hD a (NdefX.upd_none z)) (hT.ext sub) (hD _ nF) upd_same (sub _ _ hc1)
  refine PySem.W.kla_eval hdef ?_
  cases hc : codeAmong pos ps.toList with
  | none =>
    refine PySem.W.kla_makeFunction (mg := X.mg) (c := c) (P := P) (ps := ps) (closure_ok hf) I.ok.glob (I.mod.glob.keeps I.bk) hcode (TB.code.keeps I.bk) hP' ht hc TB.gP bP fun c' ctv h' tk hx hge hlt hrec htb => ?_
    obtain ⟨c2, oc, vs, t, e2, hoc, hd, hv⟩ := hrec
    cases e2
    have nC : H c' = none := I.hok.fresh hge
    have I1 := LamX.inv_table (t' := tk) (more := #[rawInt pos.line, rawInt pos.col, .ref c']) (h' := h') I hP (fun b o hb e => hx b o hb e) htb hge ⟨oc, vs, t, hoc, hd, hv⟩
    have hE : LamX.ExtN H (upd (upd H P (.tbl (ps ++ #[rawInt pos.line, rawInt pos.col, .ref c']))) c' (LamX.CodeO c' (X.env.qual ++ "<lambda>"))) := fun b o e n => by
      rw [upd_ne (ne_of_none e nC), upd_ne (fun z => n ps (Option.some.inj (e.symm.trans (by rw [z]; exact hP))))]
      exact e
    have eL : (ps ++ #[rawInt pos.line, rawInt pos.col, .ref c']).toList = ps.toList ++ [rawInt pos.line, rawInt pos.col, .ref c'] := by simp
    have T1 : NdefX.TabsN U.T (upd (upd H P (.tbl (ps ++ #[rawInt pos.line, rawInt pos.col, .ref c']))) c' (LamX.CodeO c' (X.env.qual ++ "<lambda>"))) := fun p hp => by
      by_cases hb : p.1 = P
      · rw [hu p hp hb, hb]
        refine ⟨_, by rw [upd_ne (ne_of_none hP nC), upd_same], by rw [eL]; exact PySem.TriplesOk_snoc _ _ _ _ ht, fun p' cv hcv => ?_⟩
        rw [eL] at hcv
        rcases NdefX.among_app2 _ ht hcv with z | ⟨z, z1, z2⟩
        · obtain ⟨c0, e1, e2⟩ := ha p' cv z
          exact ⟨c0, e1, hE _ _ e2 LamX.codeO_ne⟩
        · refine ⟨c', z, ?_⟩
          rw [← z1, ← z2, hn]
          exact upd_same
      · obtain ⟨ps', a1, a2, a3⟩ := S.h.tabs p hp
        refine ⟨ps', by rw [upd_ne (ne_of_none a1 nC), upd_ne hb]; exact a1, a2, fun p' cv hcv => ?_⟩
        obtain ⟨c0, e1, e2⟩ := a3 p' cv hcv
        exact ⟨c0, e1, hE _ _ e2 LamX.codeO_ne⟩
    exact new (c' := c') (pm := (X.mg "__name__").getD .none) (ctv := ctv) I1 (by rw [hk, hcl]) hE (fun a z => NdefX.upd_none (NdefX.upd_none z)) T1 (by rw [hk]; exact upd_same)
  | some cv =>
    obtain ⟨c', e, hco⟩ := ha pos cv hc
    subst e
    rw [hn] at hco
    refine PySem.W.kla_makeFunctionHit (mg := X.mg) (c := c) (P := P) (ps := ps) (closure_ok hf) I.ok.glob (I.mod.glob.keeps I.bk) hcode (TB.code.keeps I.bk) hP' ht hc bP fun ctv h' tk hx hsz => ?_
    have I1 : Inv X pins σ H { s with heap := h', toks := tk } := I.kept hx
    exact new (c' := c') (pm := (X.mg "__name__").getD .none) (ctv := ctv) I1 (by rw [hk, hcl]) (fun _ _ e _ => e) (fun _ e => e) S.h.tabs (by rw [hk]; exact hco)
end
end Q
/-! Q24: what functions made on the way promise; their calls. -/
namespace Q
open PySem PySem.Spec PyProof.Rows L2
def spC (U : Wd) (φ : List D → Sto → R D) (n : Nat) (ws : List (Option V)) : Sp := fun vs H Q E => ∃ ds cs μ ρ G ws', allA ds = true ∧ SH U ⟨H, ρ, G⟩ μ ρ G H ∧ RVL U ρ G vs ds ∧ ws = ws'.map some ∧ ws'.length = n ∧ RepL U G ws' cs ∧ PoF U ⟨H, ρ, G⟩ Q E (φ (ds ++ cs) μ)
def CloOk (U : Wd) (lv k : Nat) (φ : List D → Sto → R D) : Prop :=
  ∀ (f c : Addr) (cl : List (Str × Addr)) (A : Around) (outer : List Env) (s : Shared) (H : Hp) (us : List Value) (vs : List V) (ws : List (Option V)) (Q : VK) (E : XK), Room lv A → Env0 U.P U.w U.K U.mg U.base A outer s H → H f = some (CloO f (U.nf k) cl c) → H c = some (LamX.CodeO c (U.nf k).qual) →
    NdefX.CellsAt cl (U.nf k).fr ws s.heap H → Vals vs us → spC U φ (U.nf k).fr.length ws vs H Q E → codeAny (model U.P U.w) A (.call (.ref f) ⟨us, []⟩) (CR (L2.CX U.P U.w) outer U.P U.w H s Q E) s
theorem startF_start {N : List Str} {vs ws : List V} : NdefX.startF N vs (ws.map some) = L2.start N (vs ++ ws) := by
  unfold NdefX.startF L2.start
  rw [List.map_append, List.append_assoc, List.length_append, List.length_map, Nat.sub_sub]
theorem RVL.allA_rep {U : Wd} {ρ : List Addr} {G : Hp} : ∀ {vs : List V} {ds : List D}, RepL U G vs ds → allA ds = true
  | _, _, .nil => rfl
  | _, _, .cons r t => by
    show (isA _ && allA _) = true
    rw [RVL.allA_rep (ρ := ρ) t]
    cases r <;> rfl
theorem allA_app : ∀ {ds cs : List D}, allA ds = true → allA cs = true → allA (ds ++ cs) = true
  | [], _, _, h => h
  | d :: ds, cs, h, k => by
    unfold allA at h
    rw [Bool.and_eq_true] at h
    show (isA d && allA (ds ++ cs)) = true
    rw [h.1, allA_app h.2 k]; rfl
section
variable {U : Wd} {k j : Nat} {name qual : Str} {params : Arguments} {scope : Scope} {fr N ps : List Str} {φ : List D → Sto → R D}
theorem clo_def {body : List Stmt} {m : Sl → Sto → O} (hk : U.nf j = ⟨name, qual, params, .stmts body, scope, fr⟩) (S : NdefX.NScope N ps fr scope) (hb : ∀ (cl : List (Str × Addr)) (c : Addr) (doc pm ctv : Value) (us : List Value), us.length = ps.length → bindArgs ((U.nf j).fd cl c doc pm ctv) ⟨us, []⟩ = pure (ps.zip us))
    (hφ : ∀ ds μ, φ ds μ = if ds.length = ps.length + fr.length then outO (m (startS N.length ds) μ) else .no)
    (hbody : ∀ (f c : Addr) (cl : List (Str × Addr)) (A : Around) (outer : List Env) (s : Shared) (H : Hp) (E : XK) (b : B0), Room k (A.deeper (NdefX.envF ⟨name, qual, params, body, scope, cl, c⟩ f s.heap.objs.size)) →
      JSs (NdefX.ncx (L2.CX U.P U.w) U.P U.w U.K U.mg U.base N ⟨name, qual, params, body, scope, cl, c⟩ f A outer s H E) (U.fr cl) b (fun cls d _ H => E cls d H) body m) : CloOk U (k + 1) j φ := by
  intro f c cl A outer s H us vs ws Q E hr e0 hf hc C r sp
  have ok : NdefX.NOk U.P U.w U.K U.mg U.base (L2.CX U.P U.w) (k + 1) f ⟨name, qual, params, body, scope, cl, c⟩ ps fr (spC U φ fr.length) := by
    have len : ∀ ws vs H Q E, spC U φ fr.length ws vs H Q E → vs.length = ps.length := fun ws vs H Q E h => by
      obtain ⟨ds, cs, μ, ρ, G, ws', ha, sh, ra, e, hl, rc, p⟩ := h
      rw [hφ] at p
      by_cases hz : (ds ++ cs).length = ps.length + fr.length
      · rw [List.length_append, ← rc.length, hl, ← ra.length] at hz; omega
      · rw [if_neg hz] at p; exact p.elim
    refine NdefX.nok_of S (fun doc pm ctv us hl => ?_) len fun A outer s H vs ws Q E hr hf hc hl sp => ?_
    · have := hb cl c doc pm ctv us hl
      rw [hk] at this
      exact this
    · have hlen := len _ _ _ _ _ sp
      obtain ⟨ds, cs, μ, ρ, G, ws', ha, sh, ra, rfl, hl', rc, p⟩ := sp
      rw [hφ, if_pos (by rw [List.length_append, ← rc.length, ← ra.length, hlen, hl'])] at p
      refine ⟨_, hbody f c cl A outer s H E ⟨H, ρ, G⟩ hr, startS N.length (ds ++ cs), μ, ρ, G, ?_, poS_of p⟩
      rw [startF_start]
      exact sr_start (SH.fr _ sh) (RVL.fr _ (allA_app ha (RVL.allA_rep (ρ := ρ) rc)) (ra.append rc.rvl))
  rw [hk] at hf hc C sp
  exact ok.run A outer s H us vs ws Q E hr e0 hf hc C r sp
def outR (r : R D) : R D := match r with
  | .ok d μ => if isV d then .ok d μ else .no
  | r => r
theorem clo_lam {body : Expr} {m : Sl → Sto → R D} (hk : U.nf j = ⟨name, qual, params, .expr body, scope, fr⟩) (S : NdefX.NScope N ps fr scope) (hb : ∀ (cl : List (Str × Addr)) (c : Addr) (doc pm ctv : Value) (us : List Value), us.length = ps.length → bindArgs ((U.nf j).fd cl c doc pm ctv) ⟨us, []⟩ = pure (ps.zip us))
    (hφ : ∀ ds μ, φ ds μ = if ds.length = ps.length + fr.length then outR (m (startS N.length ds) μ) else .no)
    (hbody : ∀ (f c : Addr) (cl : List (Str × Addr)) (A : Around) (outer : List Env) (s : Shared) (H : Hp) (E : XK) (b : B0), Room k (A.deeper (NdefX.envF ⟨name, qual, params, [], scope, cl, c⟩ f s.heap.objs.size)) →
      JE (NdefX.ncx (L2.CX U.P U.w) U.P U.w U.K U.mg U.base N ⟨name, qual, params, [], scope, cl, c⟩ f A outer s H E) (U.fr cl) b (fun cls d _ H => E cls d H) body m) : CloOk U (k + 1) j φ := by
  intro f c cl A outer s H us vs ws Q E hr e0 hf hc C r sp
  obtain ⟨ds, cs, μ, ρ, G, ws', ha, sh, ra, rfl, hl', rc, p⟩ := sp
  rw [hφ] at p
  have hz : (ds ++ cs).length = ps.length + fr.length := by
    by_cases hz : (ds ++ cs).length = ps.length + fr.length
    · exact hz
    · rw [if_neg hz] at p; exact p.elim
  rw [if_pos hz] at p
  rw [hk] at hf hc C hl'
  have hl : vs.length = ps.length := by
    rw [List.length_append, ← rc.length, hl', ← ra.length] at hz
    have : (⟨name, qual, params, .expr body, scope, fr⟩ : NFi).fr.length = fr.length := rfl
    omega
  have lim : s.heap.NoLimit := e0.mod.nolimit.keeps fun b o e => (e0.bs b o e).1
  obtain ⟨⟨od, sl, doc, pm, ctv, ho⟩, _, _⟩ := e0.hok f _ hf
  refine PySem.W.kla_callFunE hr.depth ho rfl S.co S.gen rfl (NdefX.codeO_at e0.hok hc) ?_
  have hbi := hb cl c doc pm ctv us (by rw [← r.length]; exact hl)
  rw [hk] at hbi
  rw [hbi]
  refine wpAny_pure (wpAny_newFunctionEnv S.nocell (fun ⟨n, _⟩ hy => S.par n (List.of_mem_zip hy).1) (fun h₁ hns hsb => ⟨lim.fresh _ hsb, ?_⟩) S.kind)
  show codeAny _ _ (.expr body (NdefX.envF ⟨name, qual, params, [], scope, cl, c⟩ f s.heap.objs.size)) _ _
  have kp : ∀ b o, s.heap.get? b = some o → h₁.get? b = some o := fun b o e => hsb.extBut b o (Nat.ne_of_lt (Heap.lt_size e)) (Heap.get?_push_of_some _ e)
  have I : Inv (NdefX.ncx (L2.CX U.P U.w) U.P U.w U.K U.mg U.base N ⟨name, qual, params, [], scope, cl, c⟩ f A outer s H E) [] (NdefX.startF N vs (ws'.map some)) H { s with heap := h₁, toks := s.toks + (ps.zip us).length } := NdefX.inv_startN S hr.hd e0 hl r C hns kp
  have hq : RdE (U.fr cl) ⟨H, ρ, G⟩ (fun cls d _ H => E cls d H) m (NdefX.startF N vs (ws'.map some)) H Q := by
    refine ⟨startS N.length (ds ++ cs), μ, ρ, G, ?_, ?_⟩
    · rw [startF_start]
      exact sr_start (SH.fr _ sh) (RVL.fr _ (allA_app ha (RVL.allA_rep (ρ := ρ) rc)) (ra.append rc.rvl))
    · cases e : m (startS N.length (ds ++ cs)) μ with
      | no => rw [e] at p; exact p
      | ex x μ' => rw [e] at p; exact fun cls dd H' ρ' G' s _ _ hx => p cls dd H' ρ' G' (SH.fr (U := U.fr cl) U.cl s.h) (XR.fr (U := U.fr cl) U.cl hx)
      | ok d μ' =>
        rw [e] at p
        have p : PoF U ⟨H, ρ, G⟩ Q E (if isV d = true then .ok d μ' else .no) := p
        by_cases hd : isV d = true
        · rw [if_pos hd] at p
          exact fun v H' ρ' G' s _ _ rv => p v H' ρ' G' (SH.fr (U := U.fr cl) U.cl s.h) (RV.fr (U := U.fr cl) U.cl (isV_isA hd) rv)
        · rw [if_neg hd] at p; exact p.elim
  refine PySem.W.kla_codeExpr (wpAny_mono ((hbody f c cl A outer s H E ⟨H, ρ, G⟩ (hr.deeper _)).run [] _ _ H Q I hq) (fun v s' hq => ?_) fun e s' hq => hq)
  obtain ⟨w', H', J', rv, q⟩ := hq
  exact ⟨w', H', J'.os, J'.bare, J'.base, J'.hok, rv, q⟩
end
end Q
/-! Q25: calls of functions made on the way; handing them on. -/
namespace Q
open PySem PySem.Spec PyProof.Rows L2
open Classical in
/-- the cells of a list of cells, with what they are now -/
noncomputable def csOf (cl : List (Str × Addr)) (h : Heap) : CS := fun a => if ∃ y, cl.lookup y = some a then h.get? a else none
theorem csOf_in {cl : List (Str × Addr)} {h : Heap} {a : Addr} {o : Obj} (e : csOf cl h a = some o) : (∃ y, cl.lookup y = some a) ∧ h.get? a = some o := by
  unfold csOf at e
  split at e
  · rename_i z; exact ⟨z, e⟩
  · cases e
theorem csOf_of {cl : List (Str × Addr)} {h : Heap} {y : Str} {a : Addr} {o : Obj} (e1 : cl.lookup y = some a) (e2 : h.get? a = some o) : csOf cl h a = some o := by
  unfold csOf
  rw [if_pos ⟨y, e1⟩]
  exact e2
theorem XR.mono {U : Wd} {ρ ρ' : List Addr} {G G' H H' : Hp} {x : Ex} {cls : Value} {dd : Option Addr} (hg : Sub G G') (hh : Sub H H') (h : XR U ρ G H x cls dd) : XR U ρ' G' H' x cls dd := by
  obtain ⟨c, f⟩ := x
  obtain ⟨h1, h2⟩ := h
  refine ⟨h1, ?_⟩
  cases f with
  | none => exact h2
  | some d => obtain ⟨a, v, f, e1, e2, e3, r⟩ := h2; exact ⟨a, v, f, e1, hh _ _ e2, e3, r.mono hg⟩
section
variable {X : Cx} {b : B0} {W : WX} {U : Wd} {pos : Pos} {cl0 : List (Str × Addr)}
/-- a function made on the way is called where it was handed to -/
theorem run_clo {lv k : Nat} {φ : List D → Sto → R D} {pins : List (Addr × Obj)} {s : Shared} {σ : St} {H : Hp} {vs : List V} {us : List Value} {Q : VK} {sl : Sl} {μ : Sto} {ρ : List Addr} {G : Hp} {ds cs : List D} {f : Addr} (hX : XU X U) (F : CloOk U lv k φ) (hr : Room lv X.A) (tk : Takes X W) (hv : Backs φ)
    (I : Inv X pins σ H s) (r : Vals vs us) (S : SR (U.fr cl0) b sl μ ρ G σ H) (rf : RV (U.fr cl0) ρ G (.ref f) (.clo k cs)) (ra : RVL (U.fr cl0) ρ G vs ds) (p : PoE (U.fr cl0) b W sl ρ G σ Q (if allV ds then φ (ds ++ cs) μ else .no)) :
    wpAny (model X.prog X.w) X.A (call (.ref f) us) (EP X pins σ Q) X.xe s := by
  by_cases ha : allV ds = true
  · rw [if_pos ha] at p
    cases rf with
    | pure rf => cases rf
    | @clo _ _ c cl ws _ h1 h2 h3 h4 h5 h6 h7 =>
      have hokX : HOk U.P U.w H s.heap := by rw [← hX.P, ← hX.w]; exact I.hok
      have c3 : ∀ y a, cl.lookup y = some a → ∃ o v, s.heap.get? a = some o ∧ G a = some (CellO a o) ∧ o.data = .cell v := fun y a e => by
        obtain ⟨o, v, q1, q2⟩ := h3 y a e
        exact ⟨o, v, cell_at hokX (S.h.sub _ _ q1), q1, q2⟩
      have kG : ∀ a o, csOf cl s.heap a = some o → G a = some (CellO a o) := fun a o e => by
        obtain ⟨⟨y, e1⟩, e2⟩ := csOf_in e
        obtain ⟨o', v, q1, q2, q3⟩ := c3 y a e1
        rw [e2] at q1; cases q1
        exact q2
      have cc : ∀ a o, csOf cl s.heap a = some o → ∃ v, o.data = .cell v := fun a o e => by
        obtain ⟨⟨y, e1⟩, e2⟩ := csOf_in e
        obtain ⟨o', v, q1, q2, q3⟩ := c3 y a e1
        rw [e2] at q1; cases q1
        exact ⟨v, q3⟩
      have kH : ∀ a o, csOf cl s.heap a = some o → H a = some (CellO a o) := fun a o e => S.h.sub _ _ (kG a o e)
      have sep : Sep (csOf cl s.heap) := sep_of (fun a o e => (csOf_in e).2) cc
      have ro : ∀ q ∈ ρ, csOf cl s.heap q = none := fun q hq => by
        cases e : csOf cl s.heap q with
        | none => rfl
        | some o =>
          exfalso
          obtain ⟨i, hi⟩ := List.mem_iff_getElem?.mp hq
          have hl : i < μ.length := by rw [← S.h.len]; exact (List.getElem?_eq_some_iff.mp hi).1
          have m := S.h.sto i q μ[i] hi (by simp [hl])
          by_cases hg : μ[i] = .gone
          · rw [hg] at m
            obtain ⟨o', e1, e2, _⟩ := m
            rw [kH q o e] at e1
            exact e2 _ (Option.some.inj e1).symm
          · have := S.h.ap i q μ[i] hi (by simp [hl]) hg
            rw [kG q o e] at this; cases this
      have SU : SH U b μ ρ G H := SH.fr (U := U.fr cl0) U.cl S.h
      have s0 := SU.del0 sep kG ro
      have e0 : Env0 U.P U.w U.K U.mg U.base X.A X.stack s (delS H (csOf cl s.heap)) := by
        have e := I.env0
        rw [hX.P, hX.w, hX.K, hX.mg, hX.base] at e
        have dn : ∀ a, H a = none → delS H (csOf cl s.heap) a = none := fun a n => by
          cases q : csOf cl s.heap a with
          | none => rw [delS_out q]; exact n
          | some o => exact delS_in q
        exact ⟨e.frames, e.mod, fun b o z => ⟨(e.bs b o z).1, dn b (e.bs b o z).2⟩, e.bsz, e.funs, fun b z => dn b (e.frf b z), hok_del e.hok kH, e.bare⟩
      have hf' : delS H (csOf cl s.heap) f = some (CloO f (U.nf k) cl c) := by
        refine del_keep kH (S.h.sub _ _ h1) fun o e z => ?_
        obtain ⟨⟨od, sl, doc, pm, ctv, ho⟩, _, _⟩ := hokX f _ (S.h.sub _ _ h1)
        have := (csOf_in e).2
        rw [ho] at this; cases this
        obtain ⟨v, hv⟩ := cc f _ e
        cases hv
      have hc' : delS H (csOf cl s.heap) c = some (LamX.CodeO c (U.nf k).qual) := del_keep kH (S.h.sub _ _ h2) fun o e z => sep.code _ o _ e z
      have C : NdefX.CellsAt cl (U.nf k).fr (ws.map some) s.heap (delS H (csOf cl s.heap)) := by
        refine ⟨by rw [List.length_map]; exact h5, fun y a e => ?_, h4, fun i y e => ?_⟩
        · obtain ⟨o, v, q1, q2, q3⟩ := c3 y a e
          exact ⟨delS_in (csOf_of e q1), v, o, q1, q3⟩
        · obtain ⟨a, o, w, u, q1, q2, q3, q4, q5⟩ := h6 i y e
          refine ⟨a, q1, fun v hv => ?_⟩
          rw [List.getElem?_map, q3] at hv
          cases hv
          exact ⟨u, q4, o, cell_at hokX (S.h.sub _ _ q2), q5⟩
      have frE := I.env0.frf
      have rc := F f c cl X.A X.stack s (delS H (csOf cl s.heap)) us vs (ws.map some) (fun v H1 => (∀ a o, csOf cl s.heap a = some o → H1 a = none) → Q v (addS H1 (csOf cl s.heap))) (fun cls d H1 => (∀ a o, csOf cl s.heap a = some o → H1 a = none) → WE W σ cls d (addS H1 (csOf cl s.heap))) hr e0 hf' hc' C r ?_
      · have rc2 := codeAny_mono rc fun r s' hq => cr_add (Q := Q) (E := WE W σ) kH hokX frE cc (fun v H1 q => q) (fun cls d H1 q => q) hq
        rw [← hX.P, ← hX.w] at rc2
        refine wpAny_call (codeAny_mono rc2 fun r s' hq => ?_)
        cases r with
        | error e => exact passAt tk σ pins H s e s' I hq
        | ok fl =>
          cases fl with
          | ret u => exact I.after hq
          | next => exact False.elim hq
          | brk => exact False.elim hq
          | cont => exact False.elim hq
      · refine ⟨ds, cs, μ, ρ, delS G (csOf cl s.heap), ws, allV_allA ha, s0, (RVL.fr (U := U.fr cl0) U.cl (allV_allA ha) ra).del sep kG ha, rfl, h5, (RepL.fr (U := U.fr cl0) U.cl h7).del sep kG, ?_⟩
        cases e : φ (ds ++ cs) μ with
        | no => rw [e] at p; exact p
        | ok d μ' =>
          rw [e] at p
          intro v H' ρ' G' sh rv fr
          have s1 := SU.add1 kG sh fr
          exact p v _ ρ' _ (S.on (s1.fr cl0)) s1.pre s1.gsub ((rv.mono (List.prefix_refl _) (add_sub fun a o e => sh.gfree (fr a o e))).fr cl0 (isV_isA (hv _ _ _ _ e)))
        | ex x μ' =>
          rw [e] at p
          intro cls dd H' ρ' G' sh hx fr
          have s1 := SU.add1 kG sh fr
          exact p cls dd _ ρ' _ (S.on (s1.fr cl0)) s1.pre s1.gsub (XR.fr cl0 (XR.mono (add_sub fun a o e => sh.gfree (fr a o e)) (add_sub fr) hx))
  · rw [if_neg ha] at p; exact p.elim
end
end Q
/-! Q26: functions made here are handed to a def. -/
namespace Q
open PySem PySem.Spec PyProof.Rows L2
def capL (sl : Sl) : List Nat → Option (List D)
  | [] => some []
  | j :: js => match getS sl j with
    | some d => if isP d then (capL sl js).map (d :: ·) else none
    | none => none
/-- what is handed on: a function made here with what it captured -/
def cvtD (njs : Nat → Option (List Nat)) (sl : Sl) : D → Option D
  | .nfn k => (njs k).bind fun js => (capL sl js).map (.clo k)
  | d => some d
def cvtL (njs : Nat → Option (List Nat)) (sl : Sl) : List D → Option (List D)
  | [] => some []
  | d :: ds => (cvtD njs sl d).bind fun e => (cvtL njs sl ds).map (e :: ·)
def callC (njs : Nat → Option (List Nat)) (sl : Sl) (φ : List D → Sto → R D) (ds : List D) (μ : Sto) : R D := match cvtL njs sl ds with
  | some es => φ es μ
  | none => .no
/-- the frame X has what the function k captures, at the slots njs k -/
structure CapOk (X : Cx) (n : NFi) (js : List Nat) : Prop where
  free : ∀ y ∈ n.scope.names, y.2 = .free → X.env.scope.names.lookup y.1 = some .cell ∨ X.env.scope.names.lookup y.1 = some .free
  fr : ∀ y ∈ n.fr, (y, NameKind.free) ∈ n.scope.names
  at_ : js.map (fun j => X.N[j]?) = n.fr.map some
section
variable {X : Cx} {b : B0} {W : WX} {U : Wd} {pos : Pos}
theorem capL_rep {ρ : List Addr} {G H : Hp} {σ : St} {sl : Sl} {μ : Sto} (S : SR U b sl μ ρ G σ H) : ∀ {js : List Nat} {ds : List D}, capL sl js = some ds → ∃ ws : List V, js.map (NdefX.slotAt σ) = ws.map some ∧ RepL U G ws ds
  | [], _, e => by cases e; exact ⟨[], rfl, .nil⟩
  | j :: js, ds, e => by
    unfold capL at e
    cases hg : getS sl j with
    | none => rw [hg] at e; cases e
    | some d =>
      rw [hg] at e
      dsimp only at e
      split at e
      · rename_i hp
        obtain ⟨ds', e1, rfl⟩ := Option.map_eq_some_iff.mp e
        obtain ⟨ws, q1, q2⟩ := capL_rep S e1
        obtain ⟨v, q3, q4⟩ := S.sl j d (getS_some hg)
        exact ⟨v :: ws, by rw [List.map_cons, q1, NdefX.slotAt_of q3]; rfl, .cons (q4.isP hp) q2⟩
      · cases e
theorem cvt_rv {ρ : List Addr} {G H : Hp} {σ : St} {sl : Sl} {μ : Sto} {njs : Nat → Option (List Nat)} {pins : List (Addr × Obj)} {s : Shared} {d e : D} {v : V} (cap : ∀ k js, njs k = some js → CapOk X (U.nf k) js)
    (I : Inv X pins σ H s) (S : SR (U.fr X.env.cells) b sl μ ρ G σ H) (fr : ∀ a o, csOf X.env.cells s.heap a = some o → H a = none) (r : RV (U.fr X.env.cells) ρ G v d) (h : cvtD njs sl d = some e) : RV U ρ (addS G (csOf X.env.cells s.heap)) v e ∧ isA e = true := by
  have frG : ∀ a o, csOf X.env.cells s.heap a = some o → G a = none := fun a o z => S.h.gfree (fr a o z)
  have hs := add_sub (S := csOf X.env.cells s.heap) frG
  have other : isA d = true → some d = some e → RV U ρ (addS G (csOf X.env.cells s.heap)) v e ∧ isA e = true := fun hd z => by
    cases z
    exact ⟨(RV.fr (U := U.fr X.env.cells) U.cl hd r).mono (List.prefix_refl _) hs, hd⟩
  cases d with
  | nfn k =>
    obtain ⟨js, hjs, h'⟩ := Option.bind_eq_some_iff.mp (show ((njs k).bind fun js => (capL sl js).map (D.clo k)) = some e from h)
    obtain ⟨ds, e1, rfl⟩ := Option.map_eq_some_iff.mp h'
    refine ⟨?_, rfl⟩
    cases r with
    | pure r => cases r
    | @nfn _ f c h1 h2 =>
      have K := cap k js hjs
      have hlen : js.length = (U.nf k).fr.length := by have := congrArg List.length K.at_; simpa using this
      obtain ⟨ws, q1, q2⟩ := capL_rep S e1
      have C := NdefX.cells_of I (NdefX.Caps.made (js := js) I.ok K.free K.fr K.at_)
      have cm : ∀ {y a}, (cloFrom X.env.cells (U.nf k).scope.names []).lookup y = some a → X.env.cells.lookup y = some a := fun {y a} z => (NdefX.Caps.made (js := js) I.ok K.free K.fr K.at_).sub y a z
      have wl : ws.length = (U.nf k).fr.length := by
        have := congrArg List.length q1
        rw [List.length_map, List.length_map] at this
        rw [← this]; exact hlen
      refine .clo (hs _ _ h1) (hs _ _ h2) (fun y a z => ?_) C.inj wl (fun i y z => ?_) ((RepL.fr (U := U.fr X.env.cells) U.cl q2).mono hs)
      · obtain ⟨_, v, o, ho, hd⟩ := C.all y a z
        exact ⟨o, v, addS_in (csOf_of (cm z) ho), hd⟩
      · obtain ⟨a, ha, hv⟩ := C.has i y z
        have hi : i < ws.length := by rw [wl]; exact (List.getElem?_eq_some_iff.mp z).1
        have hw : (js.map (NdefX.slotAt σ))[i]? = some (some ws[i]) := by rw [q1, List.getElem?_map, List.getElem?_eq_getElem hi]; rfl
        obtain ⟨u, ru, o, ho, hd⟩ := hv ws[i] hw
        exact ⟨a, o, ws[i], u, ha, addS_in (csOf_of (cm ha) ho), by simp [hi], ru, hd⟩
  | _ => exact other rfl h
theorem cvt_rvl {ρ : List Addr} {G H : Hp} {σ : St} {sl : Sl} {μ : Sto} {njs : Nat → Option (List Nat)} {pins : List (Addr × Obj)} {s : Shared} (cap : ∀ k js, njs k = some js → CapOk X (U.nf k) js)
    (I : Inv X pins σ H s) (S : SR (U.fr X.env.cells) b sl μ ρ G σ H) (fr : ∀ a o, csOf X.env.cells s.heap a = some o → H a = none) : ∀ {vs : List V} {ds es : List D}, RVL (U.fr X.env.cells) ρ G vs ds → cvtL njs sl ds = some es → RVL U ρ (addS G (csOf X.env.cells s.heap)) vs es ∧ allA es = true
  | _, _, _, .nil, h => by cases h; exact ⟨.nil, rfl⟩
  | _, _, es, .cons r t, h => by
    unfold cvtL at h
    obtain ⟨e, e1, e2⟩ := Option.bind_eq_some_iff.mp h
    obtain ⟨es', e3, rfl⟩ := Option.map_eq_some_iff.mp e2
    obtain ⟨q1, q2⟩ := cvt_rv cap I S fr r e1
    obtain ⟨q3, q4⟩ := cvt_rvl cap I S fr t e3
    exact ⟨.cons q1 q3, by unfold allA; rw [q2, q4]; rfl⟩
/-- f(..), functions made here among the arguments -/
theorem run_callC {lv : Nat} {f : Addr} {φ : List D → Sto → R D} {njs : Nat → Option (List Nat)} {pins : List (Addr × Obj)} {s : Shared} {σ : St} {H : Hp} {vs : List V} {us : List Value} {Q : VK} {sl : Sl} {μ : Sto} {ρ : List Addr} {G : Hp} {ds : List D} (hX : XU X U) (hfn : ∀ x, X.fn x = true)
    (cap : ∀ k js, njs k = some js → CapOk X (U.nf k) js) (F : FnR U.P U.w U.K U.mg U.base (L2.CX U.P U.w) lv f (spF U φ)) (hr : Room lv X.A) (tk : Takes X W) (hv : Backs φ)
    (I : Inv X pins σ H s) (r : Vals vs us) (S : SR (U.fr X.env.cells) b sl μ ρ G σ H) (ra : RVL (U.fr X.env.cells) ρ G vs ds) (p : PoE (U.fr X.env.cells) b W sl ρ G σ Q (callC njs sl φ ds μ)) :
    wpAny (model X.prog X.w) X.A (call (.ref f) us) (EP X pins σ Q) X.xe s := by
  have hokX : HOk U.P U.w H s.heap := by rw [← hX.P, ← hX.w]; exact I.hok
  have big : ∀ y a, X.env.cells.lookup y = some a → X.s_0.heap.objs.size ≤ a := fun y a e => I.ok.cab y a (hfn y) e
  have cs : CellsS (csOf X.env.cells s.heap) H s.heap (frs X.stack) := by
    refine ⟨fun a o e => ?_, fun a o e => (csOf_in e).2, fun a o e z => ?_, fun a o e => ?_⟩
    · obtain ⟨⟨y, e1⟩, e2⟩ := csOf_in e
      exact I.freeC y a e1
    · obtain ⟨⟨y, e1⟩, e2⟩ := csOf_in e
      rcases List.mem_cons.mp (I.stkSub a z) with q | q
      · exact I.cne y a e1 q
      · obtain ⟨_, o', ho, _⟩ := I.ok.funs.mem q
        exact absurd (Heap.lt_size ho) (Nat.not_lt.mpr (big y a e1))
    · obtain ⟨⟨y, e1⟩, e2⟩ := csOf_in e
      obtain ⟨v, o', ho, hd⟩ := I.cell y a e1
      rw [e2] at ho; cases ho
      exact ⟨v, hd⟩
  have sep : Sep (csOf X.env.cells s.heap) := sep_of cs.at_ cs.cell
  have SU : SH U b μ ρ G H := SH.fr (U := U.fr X.env.cells) U.cl S.h
  have s0 := SU.add0 cs.free
  have e0 : Env0 U.P U.w U.K U.mg U.base X.A X.stack s (addS H (csOf X.env.cells s.heap)) := by
    have e := I.env0
    rw [hX.P, hX.w, hX.K, hX.mg, hX.base] at e
    refine ⟨e.frames, e.mod, fun c o z => ⟨(e.bs c o z).1, ?_⟩, e.bsz, e.funs, fun c z => ?_, hok_add e.hok cs, e.bare⟩
    · cases q : csOf X.env.cells s.heap c with
      | none => rw [addS_out q]; exact (e.bs c o z).2
      | some o' =>
        exfalso
        obtain ⟨⟨y, e1⟩, e2⟩ := csOf_in q
        have h1 := big y c e1
        have h2 := Heap.lt_size z
        have h3 := I.ok.bsz
        rw [hX.base] at h3
        exact absurd (Nat.lt_of_lt_of_le h2 (Nat.le_trans h3 h1)) (Nat.lt_irrefl _)
    · cases q : csOf X.env.cells s.heap c with
      | none => rw [addS_out q]; exact e.frf c z
      | some o' => exact absurd z (cs.nf c o' q)
  unfold callC at p
  cases ec : cvtL njs sl ds with
  | none => rw [ec] at p; exact p.elim
  | some es =>
    rw [ec] at p
    dsimp only at p
    obtain ⟨ra', haA⟩ := cvt_rvl cap I S cs.free ra ec
    have rc := F X.A X.stack s (addS H (csOf X.env.cells s.heap)) us vs (fun v H1 => (∀ a o, csOf X.env.cells s.heap a = some o → H1 a = some (CellO a o)) ∧ Q v (delS H1 (csOf X.env.cells s.heap))) (fun cls d H1 => (∀ a o, csOf X.env.cells s.heap a = some o → H1 a = some (CellO a o)) ∧ WE W σ cls d (delS H1 (csOf X.env.cells s.heap))) hr e0 r ?_
    · have rc2 := codeAny_mono rc fun r s' hq => cr_del (Q := Q) (E := WE W σ) cs (fun v H1 q => q) (fun cls d H1 q => q) hq
      rw [← hX.P, ← hX.w] at rc2
      refine wpAny_call (codeAny_mono rc2 fun r s' hq => ?_)
      cases r with
      | error e => exact passAt tk σ pins H s e s' I hq
      | ok fl =>
        cases fl with
        | ret u => exact I.after hq
        | next => exact False.elim hq
        | brk => exact False.elim hq
        | cont => exact False.elim hq
    · refine ⟨es, μ, ρ, addS G (csOf X.env.cells s.heap), haA, s0, ra', ?_⟩
      cases e : φ es μ with
      | no => rw [e] at p; exact p
      | ok d μ' =>
        rw [e] at p
        intro v H' ρ' G' sh rv
        obtain ⟨kH, kG, s1⟩ := SU.del1 cs.free sep sh
        exact ⟨kH, p v _ ρ' _ (S.on (s1.fr _)) s1.pre s1.gsub ((rv.del sep kG (hv _ _ _ _ e)).fr _ (isV_isA (hv _ _ _ _ e)))⟩
      | ex x μ' =>
        rw [e] at p
        intro cls dd H' ρ' G' sh hx
        obtain ⟨kH, kG, s1⟩ := SU.del1 cs.free sep sh
        exact ⟨kH, p cls dd _ ρ' _ (S.on (s1.fr _)) s1.pre s1.gsub (XR.fr _ (XR.del sep kG sh.sub hx))⟩
theorem je_callC {x : Str} {p : Pos} {es : List Expr} {ms : Sl → Sto → R (List D)} {lv : Nat} {f : Addr} {φ : List D → Sto → R D} {njs : Nat → Option (List Nat)} (hX : XU X U) (hfn : ∀ x, X.fn x = true) (cap : ∀ k js, njs k = some js → CapOk X (U.nf k) js) (F : FnR U.P U.w U.K U.mg U.base (L2.CX U.P U.w) lv f (spF U φ)) (hr : Room lv X.A) (tk : Takes X W) (hv : Backs φ)
    (hg : Gl X x) (hm : U.mg x = some (.ref f)) (hk : PySem.W.keepIn U.K (.ref f) = true) (ha : JA X (U.fr X.env.cells) b W es ms) (hs : noStar es = true) (hdb : (x == ("__debug__" : Str)) = false) :
    JE X (U.fr X.env.cells) b W (.Call (.Name x p) es [] pos) fun sl μ => (ms sl μ).bind (callC njs sl φ) := by
  rw [← hX.mg] at hm
  rw [← hX.K] at hk
  refine ⟨fun pins s σ H Q I h => ?_⟩
  obtain ⟨sl, μ, ρ, G, S, pp⟩ := h
  refine wpAny_Call_Name_kw (ld_glob I hg hm ?_ hdb)
  refine callw (P := fun h => X.K.In h) (first := []) (PySem.W.keeps_K hk) ha hs I S pp fun us s1 vs H1 ds μ1 ρ1 G1 I1 rr S1 hr1 hg1 ra p1 => ⟨I1.kIn, ?_⟩
  exact run_callC hX hfn cap F hr tk hv I1 rr S1 ra p1
end
end Q
/-! Q27: operators of own classes. -/
namespace Q
open PySem PySem.Spec PyProof.Rows L2
/-- a two-place operation on values comes to ψ -/
def OpJ (X : Cx) (U : Wd) (b : B0) (W : WX) (f : Value → Value → Sem Value) (ψ : D → D → Sto → R D) : Prop :=
  ∀ (pins : List (Addr × Obj)) (s : Shared) (σ : St) (H : Hp) (x y : V) (v u : Value) (Q : VK) (sl : Sl) (μ : Sto) (ρ : List Addr) (G : Hp) (d e : D),
    Inv X pins σ H s → RelV x v → RelV y u → SR U b sl μ ρ G σ H → RV U ρ G x d → RV U ρ G y e → PoE U b W sl ρ G σ Q (ψ d e μ) → wpAny (model X.prog X.w) X.A (f v u) (EP X pins σ Q) X.xe s
section
variable {X : Cx} {b : B0} {W : WX} {U : Wd} {pos : Pos}
theorem opJ_of {f : Value → Value → Sem Value} {g : Sto → D → D → R D} (h : OpR X f (rOp U b W g)) : OpJ X U b W f fun d e μ => g μ d e :=
  fun pins s σ H x y v u Q sl μ ρ G d e I rx ry S r1 r2 p => h pins s σ H x y v u Q I rx ry ⟨sl, μ, ρ, G, σ, d, e, S, r1, r2, p⟩
theorem je_binJ {a c : Expr} {op : Operator} {ma mc : Sl → Sto → R D} {ψ : D → D → Sto → R D} (ho : OpJ X U b W (binaryOp op) ψ) (ha : JE X U b W a ma) (hc : JE X U b W c mc) :
    JE X U b W (.BinOp a op c pos) fun sl μ => (ma sl μ).bind fun d μ => (mc sl μ).bind fun e μ => ψ d e μ := by
  refine ⟨fun pins s σ H Q I h => ?_⟩
  obtain ⟨sl, μ, ρ, G, S, p⟩ := h
  refine wpAny_BinOp (thn (ha.run pins s σ H (fun x H1 => ∃ d μ1 ρ1 G1, SR U b sl μ1 ρ1 G1 σ H1 ∧ RV U ρ1 G1 x d ∧ PoE U b W sl ρ1 G1 σ Q ((mc sl μ1).bind fun e μ => ψ d e μ)) I (rd_step (α := Unit) S p fun d μ1 v H1 ρ1 G1 s1 _ _ rv p1 => ⟨d, μ1, ρ1, G1, s1, rv, p1⟩)) fun v s1 ⟨x, H1, I1, r1, d, μ1, ρ1, G1, S1, rv, p1⟩ => ?_)
  refine thn (hc.run pins s1 σ H1 (fun y H2 => ∃ e μ2 ρ2 G2, SR U b sl μ2 ρ2 G2 σ H2 ∧ RV U ρ2 G2 x d ∧ RV U ρ2 G2 y e ∧ PoE U b W sl ρ2 G2 σ Q (ψ d e μ2)) I1 (rd_step (α := Unit) S1 p1 fun e μ2 w H2 ρ2 G2 s2 hr hg rw p2 => ⟨e, μ2, ρ2, G2, s2, rv.mono hr hg, rw, p2⟩)) fun u s2 ⟨y, H2, I2, r2, e, μ2, ρ2, G2, S2, rv2, rw2, p2⟩ => ?_
  exact ho pins s2 σ H2 x y v u Q sl μ2 ρ2 G2 d e I2 r1 r2 S2 rv2 rw2 p2
theorem je_cmpJ {a c : Expr} {op : CmpOp} {ma mc : Sl → Sto → R D} {ψ : D → D → Sto → R D} (ho : OpJ X U b W (compareOp op) ψ) (ha : JE X U b W a ma) (hc : JE X U b W c mc) (hm : behindInMarks op c = false) :
    JE X U b W (.Compare a [op] [c] pos) fun sl μ => (ma sl μ).bind fun d μ => (mc sl μ).bind fun e μ => ψ d e μ := by
  refine ⟨fun pins s σ H Q I h => ?_⟩
  obtain ⟨sl, μ, ρ, G, S, p⟩ := h
  refine wpAny_Compare1 (thn (ha.run pins s σ H (fun x H1 => ∃ d μ1 ρ1 G1, SR U b sl μ1 ρ1 G1 σ H1 ∧ RV U ρ1 G1 x d ∧ PoE U b W sl ρ1 G1 σ Q ((mc sl μ1).bind fun e μ => ψ d e μ)) I (rd_step (α := Unit) S p fun d μ1 v H1 ρ1 G1 s1 _ _ rv p1 => ⟨d, μ1, ρ1, G1, s1, rv, p1⟩)) fun v s1 ⟨x, H1, I1, r1, d, μ1, ρ1, G1, S1, rv, p1⟩ => ?_) hm
  refine thn (hc.run pins s1 σ H1 (fun y H2 => ∃ e μ2 ρ2 G2, SR U b sl μ2 ρ2 G2 σ H2 ∧ RV U ρ2 G2 x d ∧ RV U ρ2 G2 y e ∧ PoE U b W sl ρ2 G2 σ Q (ψ d e μ2)) I1 (rd_step (α := Unit) S1 p1 fun e μ2 w H2 ρ2 G2 s2 hr hg rw p2 => ⟨e, μ2, ρ2, G2, s2, rv.mono hr hg, rw, p2⟩)) fun u s2 ⟨y, H2, I2, r2, e, μ2, ρ2, G2, S2, rv2, rw2, p2⟩ => ?_
  exact ho pins s2 σ H2 x y v u Q sl μ2 ρ2 G2 d e I2 r1 r2 S2 rv2 rw2 p2
/-- a truth value alone -/
def blR (r : R D) : R Bool := r.bind fun d μ => match d with
  | .bl k => .ok k μ
  | _ => .no
theorem jt_cmpJ {a c : Expr} {op : CmpOp} {ma mc : Sl → Sto → R D} {ψ : D → D → Sto → R D} (ho : OpJ X U b W (compareOp op) ψ) (ha : JE X U b W a ma) (hc : JE X U b W c mc) (hm : behindInMarks op c = false) :
    JT X U b W (.Compare a [op] [c] pos) fun sl μ => blR ((ma sl μ).bind fun d μ => (mc sl μ).bind fun e μ => ψ d e μ) := by
  refine ⟨fun pins s σ H Q I h => ?_⟩
  obtain ⟨sl, μ, ρ, G, S, p⟩ := h
  have conv : ∀ {r : R D} {ρ : List Addr} {G : Hp}, PoT U b W sl ρ G σ Q (blR r) → PoE U b W sl ρ G σ (fun v H' => ∃ k, v = .bl k ∧ Q k H') r := fun {r ρ G} p => by
    cases r with
    | no => exact p
    | ex x μ' => exact p
    | ok d μ' =>
      cases d with
      | bl k =>
        intro v H' ρ' G' s' h1 h2 rv
        cases rv with
        | pure rv => cases rv; exact ⟨k, rfl, p H' ρ' G' s' h1 h2⟩
      | _ => exact p.elim
  have p := conv p
  refine wpAny_isTrue_Compare1 (thn (ha.run pins s σ H (fun x H1 => ∃ d μ1 ρ1 G1, SR U b sl μ1 ρ1 G1 σ H1 ∧ RV U ρ1 G1 x d ∧ PoE U b W sl ρ1 G1 σ (fun v H' => ∃ k, v = .bl k ∧ Q k H') ((mc sl μ1).bind fun e μ => ψ d e μ)) I (rd_step (α := Unit) S p fun d μ1 v H1 ρ1 G1 s1 _ _ rv p1 => ⟨d, μ1, ρ1, G1, s1, rv, p1⟩)) fun v s1 ⟨x, H1, I1, r1, d, μ1, ρ1, G1, S1, rv, p1⟩ => ?_) hm
  refine thn (hc.run pins s1 σ H1 (fun y H2 => ∃ e μ2 ρ2 G2, SR U b sl μ2 ρ2 G2 σ H2 ∧ RV U ρ2 G2 x d ∧ RV U ρ2 G2 y e ∧ PoE U b W sl ρ2 G2 σ (fun v H' => ∃ k, v = .bl k ∧ Q k H') (ψ d e μ2)) I1 (rd_step (α := Unit) S1 p1 fun e μ2 w H2 ρ2 G2 s2 hr hg rw p2 => ⟨e, μ2, ρ2, G2, s2, rv.mono hr hg, rw, p2⟩)) fun u s2 ⟨y, H2, I2, r2, e, μ2, ρ2, G2, S2, rv2, rw2, p2⟩ => ?_
  refine thn (ho pins s2 σ H2 x y v u _ sl μ2 ρ2 G2 d e I2 r1 r2 S2 rv2 rw2 p2) fun c s3 ⟨z, H3, I3, r3, k, ez, q3⟩ => ?_
  subst ez
  cases r3
  exact wpAny_truthy_bool ⟨H3, I3, q3⟩
/-- what is handed back is no NotImplemented -/
theorem cmpBack {pins : List (Addr × Obj)} {σ : St} {Q : VK} {u : Value} {s : Shared} (h : EP X pins σ Q u s) : PySem.W.CmpBack (EP X pins σ Q) u s := by
  obtain ⟨v, H, I, r, q⟩ := id h
  cases v with
  | non => cases (show u = _ from r); exact h
  | bl k => cases (show u = _ from r); exact h
  | int i => obtain ⟨t, rfl⟩ := r; exact h
  | str i => obtain ⟨t, rfl⟩ := r; exact h
  | byt i => obtain ⟨t, rfl⟩ := r; exact h
  | flt i => obtain ⟨t, rfl⟩ := r; exact h
  | ref i => cases (show u = _ from r); exact h
  | ty i => cases (show u = _ from r); exact h
/-- the instance at a, as OpenK's rules ask it -/
theorem inst_at {pins : List (Addr × Obj)} {s : Shared} {σ : St} {H : Hp} {a C dx : Addr} {fs : List (Str × V)} (I : Inv X pins σ H s) (e : H a = some (.ins C dx fs)) : ∃ ox od, PySem.W.InstAt s.heap a ox C (some od) := by
  obtain ⟨mA, O, _⟩ := ins_get I.hok e
  obtain ⟨od, J, _⟩ := O.look
  exact ⟨_, od, J⟩
end
end Q
/-! Q28: + - * of own classes, also reflected; - x; x in own; len(own); == and != of own. -/
namespace Q
open PySem PySem.Spec PyProof.Rows L2 Builtin
theorem int_add_ins (a : Int) (t : Tok) (l C dx : Addr) :
    Meets (Builtin.«int.__add__» ⟨[.int a t, .ref l], []⟩) (fun _ R s => s.heap.get? l = some (PySem.W.instObj C dx) ∧ R (.ok (.ret Value.notImplemented)) s) :=
  .of_wp fun prog w A R s h => by obtain ⟨hp, g, d, tk, os⟩ := s; obtain ⟨hl, h⟩ := h; wp_walk; exact ⟨_, rfl, h⟩
theorem int_sub_ins (a : Int) (t : Tok) (l C dx : Addr) :
    Meets (Builtin.«int.__sub__» ⟨[.int a t, .ref l], []⟩) (fun _ R s => s.heap.get? l = some (PySem.W.instObj C dx) ∧ R (.ok (.ret Value.notImplemented)) s) :=
  .of_wp fun prog w A R s h => by obtain ⟨hp, g, d, tk, os⟩ := s; obtain ⟨hl, h⟩ := h; wp_walk; exact ⟨_, rfl, h⟩
theorem int_mul_ins (a : Int) (t : Tok) (l C dx : Addr) :
    Meets (Builtin.«int.__mul__» ⟨[.int a t, .ref l], []⟩) (fun _ R s => s.heap.get? l = some (PySem.W.instObj C dx) ∧ R (.ok (.ret Value.notImplemented)) s) :=
  .of_wp fun prog w A R s h => by obtain ⟨hp, g, d, tk, os⟩ := s; obtain ⟨hl, h⟩ := h; wp_walk; exact ⟨_, rfl, h⟩
section
variable {prog : Program} {w : World} {A : Around} {E : Value → Shared → Prop} {s : Shared} {K : PySem.W.Frag} {x C dx f g : Addr} {od : Option Obj}
theorem int_declines {op : Operator} (hop : op = .Add ∨ op = .Sub ∨ op = .Mult) {i : Int} {t : Tok} (hx : s.heap.get? x = some (PySem.W.instObj C dx)) {Q : Option Value → Shared → Prop} (h : Q none s) :
    wpAny (model prog w) A (tryMethod (.int i t) (dunder op.info.2) (.ref x)) Q E s := by
  rcases hop with rfl | rfl | rfl
  · have k := @call_meets prog w A E s "int" (dunder "add") "int.__add__" _ (.int i t) [.ref x] _ (fun v s' => v = .notImplemented ∧ Q none s') F.slot_int_add (typeIs_int s i t) F.entry_int_add (F.args_int_add_2 _ _) (int_add_ins i t x C dx) ⟨hx, rfl, h⟩
    exact @wpAny_tryMethod_declines (model prog w) A E s (.int i t) (.ref x) "int" (dunder "add") "int.__add__" Q (typeIs_int s i t) F.slot_int_add k
  · have k := @call_meets prog w A E s "int" (dunder "sub") "int.__sub__" _ (.int i t) [.ref x] _ (fun v s' => v = .notImplemented ∧ Q none s') F.slot_int_sub (typeIs_int s i t) F.entry_int_sub (F.args_int_sub_2 _ _) (int_sub_ins i t x C dx) ⟨hx, rfl, h⟩
    exact @wpAny_tryMethod_declines (model prog w) A E s (.int i t) (.ref x) "int" (dunder "sub") "int.__sub__" Q (typeIs_int s i t) F.slot_int_sub k
  · have k := @call_meets prog w A E s "int" (dunder "mul") "int.__mul__" _ (.int i t) [.ref x] _ (fun v s' => v = .notImplemented ∧ Q none s') F.slot_int_mul (typeIs_int s i t) F.entry_int_mul (F.args_int_mul_2 _ _) (int_mul_ins i t x C dx) ⟨hx, rfl, h⟩
    exact @wpAny_tryMethod_declines (model prog w) A E s (.int i t) (.ref x) "int" (dunder "mul") "int.__mul__" Q (typeIs_int s i t) F.slot_int_mul k
theorem fills_int {op : Operator} (hop : op = .Add ∨ op = .Sub ∨ op = .Mult) : fillsNumberSlot (.type "int") op.info.2 = pure true := by
  rcases hop with rfl | rfl | rfl
  · exact F.fills_int_add
  · exact F.fills_int_sub
  · exact F.fills_int_mul
/-- an int on the left, an instance on the right -/
theorem rbin_int {op : Operator} (hop : op = .Add ∨ op = .Sub ∨ op = .Mult) {i : Int} {t : Tok} {Q : Value → Shared → Prop} (X : K.In s.heap) (hx : s.heap.get? x = some (PySem.W.instObj C dx)) (I : PySem.W.InstAt s.heap x (PySem.W.instObj C dx) C od) (hc : PySem.W.selfFirst K C = true)
    (hs : PySem.W.findIn K (.ref C) (dunder op.info.2) = some (some (.ref f))) (hr : PySem.W.findIn K (.ref C) (dunderR op.info.2) = some (some (.ref g))) (hf : PySem.W.isFn K (.ref g) = true) (hsub : PySem.W.subIn K (.ref C) (.type "int") = some false)
    (h : wpAny (model prog w) A (call (.ref g) [.ref x, .int i t]) (PySem.W.CmpBack Q) E s) : wpAny (model prog w) A (binaryOp op (.int i t) (.ref x)) Q E s := by
  obtain ⟨cd, rest, hcd, hm⟩ := PySem.W.ksp_first hc
  have two := PySem.W.ksp_try (M := model prog w) X I hr hf h
  have one : ∀ {Q' : Option Value → Shared → Prop}, Q' none s → wpAny (model prog w) A (tryMethod (.int i t) (dunder op.info.2) (.ref x)) Q' E s := fun {Q'} q => int_declines hop hx q
  have fi := fills_int hop
  rcases hi : op.info with ⟨sym, nm⟩
  rw [hi] at hs hr one two fi
  dsimp only at hs hr one two fi
  simp only [binaryOp, hi]
  refine wpAny_holding (wpAny_bind ?_)
  unfold binaryOp1
  refine wpAny_bind (wpAny_typeOf (typeIs_int s i t) (wpAny_bind (I.type.here (wpAny_bind (wpAny_of_eq fi ?_)))))
  have hne : (Value.type "int" == Value.ref C) = false := by simp
  simp only [hne, Bool.false_eq_true, if_false]
  refine wpAny_bind ((PySem.W.fills_K X hcd hm hs).here ?_)
  simp only [Bool.and_self, if_true]
  refine wpAny_bind ((PySem.W.looks_subIn X hsub).here ?_)
  have hpy : numberSlotInPython (.type "int") nm = pure false := rfl
  simp only [Bool.false_eq_true, if_false, pure_bind, Bool.not_false, Bool.and_self, if_true, hpy]
  refine wpAny_bind (one ?_)
  simp only [Bool.false_eq_true, if_false]
  refine wpAny_bind (wpAny_mono two (fun r s' hr' => ?_) fun _ _ e => e)
  obtain ⟨v, rfl, hq⟩ := hr'
  exact wpAny_bind (wpAny_rule (wpAny_pure (wpAny_pure hq)))
end
/-- own operators: which def a class has for an operator, and for its reflected form -/
structure OwnB (U : Wd) (lv : Nat) (Φ : Nat → List D → Sto → R D) (op : Operator) (fw rv : Nat → Option Nat) : Prop where
  hfw : ∀ c k, fw c = some k → Backs (Φ k) ∧ PySem.W.selfFirst U.K (U.cA c) = true ∧ ∃ f g, PySem.W.findIn U.K (.ref (U.cA c)) (dunder op.info.2) = some (some (.ref f)) ∧ PySem.W.isFn U.K (.ref f) = true ∧ FnR U.P U.w U.K U.mg U.base (L2.CX U.P U.w) lv f (spF U (Φ k)) ∧
    PySem.W.findIn U.K (.ref (U.cA c)) (dunderR op.info.2) = some (some (.ref g)) ∧ ∀ T : String, T = "int" ∨ T = "str" ∨ T = "NoneType" ∨ T = "bool" →
      ∃ fo ro, PySem.W.findIn U.K (.type T) (dunder op.info.2) = some fo ∧ PySem.W.findIn U.K (.type T) (dunderR op.info.2) = some ro ∧ PySem.W.subIn U.K (.type T) (.ref (U.cA c)) = some false
  hrv : ∀ c k, rv c = some k → (op = .Add ∨ op = .Sub ∨ op = .Mult) ∧ Backs (Φ k) ∧ PySem.W.selfFirst U.K (U.cA c) = true ∧ ∃ f g, PySem.W.findIn U.K (.ref (U.cA c)) (dunder op.info.2) = some (some (.ref f)) ∧ PySem.W.findIn U.K (.ref (U.cA c)) (dunderR op.info.2) = some (some (.ref g)) ∧ PySem.W.isFn U.K (.ref g) = true ∧
    PySem.W.subIn U.K (.ref (U.cA c)) (.type "int") = some false ∧ FnR U.P U.w U.K U.mg U.base (L2.CX U.P U.w) lv g (spF U (Φ k))
def okR (μ : Sto) (c : Nat) (e : D) : Bool := match insOf μ e with
  | some (c', _) => c' == c
  | none => (match e with
    | .int _ => true
    | .str _ => true
    | .non => true
    | .bl _ => true
    | _ => false)
def ownB (fw rv : Nat → Option Nat) (Φ : Nat → List D → Sto → R D) (d e : D) (μ : Sto) : R D := match insOf μ d with
  | some (c, _) => (match fw c with
    | some k => if okR μ c e then callA (Φ k) [d, e] μ else .no
    | none => .no)
  | none => (match d, insOf μ e with
    | .int _, some (c, _) => (match rv c with
      | some k => callA (Φ k) [e, d] μ
      | none => .no)
    | _, _ => .no)
def binR (op : Operator) (fw rv : Nat → Option Nat) (Φ : Nat → List D → Sto → R D) (d e : D) (μ : Sto) : R D := match binD op d e with
  | some r => .ok r μ
  | none => ownB fw rv Φ d e μ
section
variable {X : Cx} {b : B0} {W : WX} {U : Wd} {cl : List (Str × Addr)}
theorem opJ_own {lv : Nat} {Φ : Nat → List D → Sto → R D} {op : Operator} {fw rv : Nat → Option Nat} (hX : XU X U) (O : OwnB U lv Φ op fw rv) (hr : Room lv X.A) (tk : Takes X W) : OpJ X (U.fr cl) b W (binaryOp op) (ownB fw rv Φ) := by
  intro pins s σ H x y v u Q sl μ ρ G d e I rx ry S r1 r2 p
  obtain ⟨m, hF⟩ := I.fr
  unfold ownB at p
  cases e1 : insOf μ d with
  | some cf =>
    obtain ⟨c, ds⟩ := cf
    rw [e1] at p
    dsimp only at p
    obtain ⟨a, dx, fs, rfl, ea, _, _⟩ := ins_at S r1 e1
    obtain rfl : v = Value.ref a := rx
    cases e2 : fw c with
    | none => rw [e2] at p; exact p.elim
    | some k =>
      rw [e2] at p
      dsimp only at p
      by_cases ho : okR μ c e = true
      · rw [if_pos ho] at p
        obtain ⟨hv, hsf, f, g, h1, h2, F, h3, h4⟩ := O.hfw c k e2
        rw [← hX.K] at hsf h1 h2 h3
        obtain ⟨ox, od, J⟩ := inst_at I ea
        have run : wpAny (model X.prog X.w) X.A (call (.ref f) [.ref a, u]) (PySem.W.CmpBack (EP X pins σ Q)) X.xe s := thn (wpAny_call (code_fn (vs := [V.ref a, y]) hX F hr tk hv I (.cons rfl (.cons ry .nil)) S (.cons r1 (.cons r2 .nil)) p)) fun _ _ z => cmpBack z
        unfold okR at ho
        cases e3 : insOf μ e with
        | some cf2 =>
          obtain ⟨c2, ds2⟩ := cf2
          rw [e3] at ho
          obtain ⟨a2, dx2, fs2, rfl, ea2, _, _⟩ := ins_at S r2 e3
          obtain rfl : u = Value.ref a2 := ry
          have hcc : c2 = c := by simpa using ho
          subst hcc
          obtain ⟨ox2, od2, J2⟩ := inst_at I ea2
          exact PySem.W.binop_K hF I.ok.mod.kin J J2.type hsf h1 h2 run
        | none =>
          rw [e3] at ho
          have tn : ∀ T : String, (T = "int" ∨ T = "str" ∨ T = "NoneType" ∨ T = "bool") → typeOf u = pure (.type T) → wpAny (model X.prog X.w) X.A (binaryOp op (.ref a) u) (EP X pins σ Q) X.xe s := fun T hT ht => by
            obtain ⟨fo, ro, q1, q2, q3⟩ := h4 T hT
            rw [← hX.K] at q1 q2 q3
            exact PySem.W.ksp_binT hF I.ok.mod.kin J ht hsf h1 h2 h3 (.inr ⟨g, rfl⟩) q1 q2 q3 run
          cases e with
          | int i => cases r2.isP rfl; obtain ⟨t, rfl⟩ := ry; exact tn "int" (.inl rfl) rfl
          | str i => cases r2.isP rfl; obtain ⟨t, rfl⟩ := ry; exact tn "str" (.inr (.inl rfl)) rfl
          | non => cases r2.isP rfl; cases ry; exact tn "NoneType" (.inr (.inr (.inl rfl))) rfl
          | bl i => cases r2.isP rfl; cases ry; exact tn "bool" (.inr (.inr (.inr rfl))) rfl
          | _ => cases ho
      · rw [if_neg ho] at p; exact p.elim
  | none =>
    rw [e1] at p
    cases d with
    | int i =>
      cases e3 : insOf μ e with
      | none => rw [e3] at p; exact p.elim
      | some cf2 =>
        obtain ⟨c, ds⟩ := cf2
        rw [e3] at p
        dsimp only at p
        obtain ⟨a, dx, fs, rfl, ea, _, _⟩ := ins_at S r2 e3
        obtain rfl : u = Value.ref a := ry
        cases r1.isP rfl
        obtain ⟨t, rfl⟩ := rx
        cases e2 : rv c with
        | none => rw [e2] at p; exact p.elim
        | some k =>
          rw [e2] at p
          dsimp only at p
          obtain ⟨hop, hv, hsf, f, g, h1, h2, h3, h4, F⟩ := O.hrv c k e2
          rw [← hX.K] at hsf h1 h2 h3 h4
          obtain ⟨mA, Om, _⟩ := ins_get I.hok ea
          obtain ⟨od, J, _⟩ := Om.look
          have hx : s.heap.get? a = some (PySem.W.instObj (U.cA c) dx) := (I.hok a _ ea).2.2.2.1
          exact rbin_int hop I.kIn hx J hsf h1 h2 h3 h4 (thn (wpAny_call (code_fn (vs := [V.ref a, V.int i]) hX F hr tk hv I (.cons rfl (.cons ⟨t, rfl⟩ .nil)) S (.cons r2 (.cons r1 .nil)) p)) fun _ _ z => cmpBack z)
    | _ => exact p.elim
theorem opJ_bin {lv : Nat} {Φ : Nat → List D → Sto → R D} {op : Operator} {fw rv : Nat → Option Nat} (hX : XU X U) (O : OwnB U lv Φ op fw rv) (hr : Room lv X.A) (tk : Takes X W) : OpJ X (U.fr cl) b W (binaryOp op) (binR op fw rv Φ) := by
  intro pins s σ H x y v u Q sl μ ρ G d e I rx ry S r1 r2 p
  unfold binR at p
  have hX' : XU X (U.fr cl) := ⟨hX.P, hX.w, hX.K, hX.mg, hX.base⟩
  cases e1 : binD op d e with
  | some r => rw [e1] at p; exact opJ_of (opr_bin hX' op) pins s σ H x y v u Q sl μ ρ G d e I rx ry S r1 r2 (by show PoE _ _ W _ _ _ _ _ (R.of (binD op d e) μ); rw [e1]; exact p)
  | none => rw [e1] at p; exact opJ_own hX O hr tk pins s σ H x y v u Q sl μ ρ G d e I rx ry S r1 r2 p
end
end Q
/-! Q29: ==, !=, in, len, - of own classes. -/
namespace Q
open PySem PySem.Spec PyProof.Rows L2 Builtin
section
variable {prog : Program} {w : World} {A : Around} {E : Value → Shared → Prop} {s : Shared} {K : PySem.W.Frag} {x C f : Addr} {ox : Obj} {od : Option Obj} {y ty : Value}
/-- object.__ne__, by the class's own __eq__ -/
theorem entryNe {Q : Fin → Shared → Prop} (hu : A.units < cLine) (X : K.In s.heap) (I : PySem.W.InstAt s.heap x ox C od) (hs : PySem.W.findIn K (.ref C) "__eq__" = some (some (.ref f))) (hf : PySem.W.isFn K (.ref f) = true)
    (h : wpAny (model prog w) A (call (.ref f) [.ref x, y]) (fun r s' => ∃ k, r = .bool k ∧ Q (.done (.ret (.bool (!k)))) s') E s) : wpAny (model prog w) A (Builtin.«object.__ne__» ⟨[.ref x, y], []⟩) Q E s := by
  unfold Builtin.«object.__ne__» slotArgs
  refine wpAny_bind (wpAny_pure ?_)
  refine wpAny_bind (wpAny_cRoomFor hu ?_)
  refine wpAny_bind (PySem.W.ifBound_K X I hs hf (wpAny_mono h (fun r s' hr => ?_) fun _ _ z => z))
  obtain ⟨k, rfl, q⟩ := hr
  exact wpAny_bind (wpAny_truthy_bool (wpAny_pure q))
theorem ne_K {Q : Value → Shared → Prop} (hu : A.units + 1 < cLine) (X : K.In s.heap) (I : PySem.W.InstAt s.heap x ox C od) (hb : PySem.W.Looks (model prog w) s.heap (typeOf y) ty) (hn : PySem.W.notFirst K C ty = true) (hm : PySem.W.mroIn K C (.type "object") = some true)
    (he : PySem.W.findIn K (.ref C) "__eq__" = some (some (.ref f))) (hf : PySem.W.isFn K (.ref f) = true) (hne : PySem.W.findIn K (.ref C) "__ne__" = some (some (.builtin "object.__ne__")))
    (h : wpAny (model prog w) A.in1 (call (.ref f) [.ref x, y]) (fun r s' => ∃ k, r = .bool k ∧ Q (.bool (!k)) s') E s) : wpAny (model prog w) A (richCompare .NotEq (.ref x) y) Q E s := by
  have call1 : wpAny (model prog w) A (call (.builtin "object.__ne__") [.ref x, y]) (fun v s' => ∃ k, v = .bool k ∧ Q (.bool k) s') E s := by
    refine wpAny_call (codeAny_call_builtin F.cmp_object.ne.plain F.cmpEntry_ne (PySem.W.check_slot F.cmpKind_ne F.cmpSplit_ne (I.type.andThen (PySem.W.looks_mroIn X hm)) (F.cmpArgs_ne _ _) ?_))
    refine entryNe (A := A.in1) hu X I he hf (wpAny_mono h (fun r s' hr => ?_) fun _ _ z => z)
    obtain ⟨k, rfl, q⟩ := hr
    exact ⟨k, rfl, ⟨!k, rfl, q⟩⟩
  have one : wpAny (model prog w) A (tryCompare (.ref x) "__ne__" y) (fun r s' => ∃ v, r = some v ∧ Q v s') E s := by
    have fin : wpAny (model prog w) A (call (.builtin "object.__ne__") ([.ref x] ++ [y]) >>= fun v => pure (some v)) (fun r s' => ∃ k, r = some (Value.bool k) ∧ Q (.bool k) s') E s := wpAny_bind (wpAny_mono call1 (fun v s' ⟨k, e, q⟩ => wpAny_pure ⟨k, by rw [e], q⟩) fun _ _ z => z)
    have bnd : wpAny (model prog w) A (callSpecialIfBound? (.ref x) "__ne__" [y]) (fun r s' => ∃ k, r = some (Value.bool k) ∧ Q (.bool k) s') E s := by
      simp only [callSpecialIfBound?, bindSpecialIfBound?]
      refine wpAny_holding (wpAny_bind (wpAny_bind (wpAny_bind (I.type.here ((PySem.W.looks_findIn X hne).here ?_)))))
      refine wpAny_bind (wpAny_askSetting (wpAny_ite ?_))
      split
      · exact wpAny_bind (wpAny_of_eq (F.cmp_object.ne.bind _) (wpAny_pure (by exact fin)))
      · exact wpAny_tryCatch (wpAny_bind (wpAny_of_eq (F.cmp_object.ne.bind _) (wpAny_pure (by exact fin))))
    unfold tryCompare
    refine wpAny_bind (wpAny_mono bnd (fun r s' ⟨k, e, q⟩ => ?_) fun _ _ z => z)
    subst e
    exact wpAny_pure ⟨_, rfl, q⟩
  unfold richCompare
  simp only [oneThing_ref, cmpInfo_NotEq]
  refine wpAny_holding (wpAny_bind (wpAny_cRoomFor (Nat.lt_of_succ_lt hu) ?_))
  refine wpAny_bind (I.type.here (wpAny_bind (hb.here ?_)))
  split
  · rename_i q
    have e : PySem.W.subIn K ty (.ref C) = some false := by
      rcases Bool.or_eq_true_iff.mp hn with e | e
      · rw [beq_iff_eq.mp e] at q; simp at q
      · exact beq_iff_eq.mp e
    refine wpAny_bind ((PySem.W.looks_subIn X e).here ?_)
    simp only [Bool.false_eq_true, if_false]
    refine wpAny_bind (wpAny_mono one (fun r s' ⟨v, e, hq⟩ => ?_) fun _ _ z => z)
    subst e
    exact wpAny_pure hq
  · refine wpAny_bind (wpAny_pure ?_)
    simp only [Bool.false_eq_true, if_false]
    refine wpAny_bind (wpAny_mono one (fun r s' ⟨v, e, hq⟩ => ?_) fun _ _ z => z)
    subst e
    exact wpAny_pure hq
end
section
variable {X : Cx} {b : B0} {W : WX} {U : Wd} {cl : List (Str × Addr)} {pos : Pos}
theorem code_fn1 {k : Nat} {f : Addr} {φ : List D → Sto → R D} {pins : List (Addr × Obj)} {s : Shared} {σ : St} {H : Hp} {vs : List V} {us : List Value} {Q : VK} {sl : Sl} {μ : Sto} {ρ : List Addr} {G : Hp} {ds : List D} (hX : XU X U)
    (F : FnR U.P U.w U.K U.mg U.base (L2.CX U.P U.w) k f (spF U φ)) (hr : Room (k + 1) X.A) (tk : Takes X W) (hv : Backs φ) (I : Inv X pins σ H s) (r : Vals vs us) (S : SR (U.fr cl) b sl μ ρ G σ H) (ra : RVL (U.fr cl) ρ G vs ds) (p : PoE (U.fr cl) b W sl ρ G σ Q (callA φ ds μ)) :
    codeAny (model X.prog X.w) X.A.in1 (.call (.ref f) ⟨us, []⟩) (fun r s' => match r with | .ok (.ret v) => EP X pins σ Q v s' | .ok _ => False | .error e => X.xe e s') s := by
  unfold callA at p
  by_cases ha : allA ds = true
  · rw [if_pos ha] at p
    have sp := spF_of S ra ha hv p
    have F' := F
    rw [← hX.P, ← hX.w, ← hX.K, ← hX.mg, ← hX.base] at F'
    refine codeAny_mono (F' X.A.in1 X.stack s H us vs Q (WE W σ) hr.in1 I.env0.in1 r sp) fun r s' hq => ?_
    cases r with
    | error e => exact passAt tk σ pins H s e s' I hq
    | ok fl =>
      cases fl with
      | ret u => exact I.after hq
      | next => exact False.elim hq
      | brk => exact False.elim hq
      | cont => exact False.elim hq
  · rw [if_neg ha] at p; exact p.elim
/-- own comparisons, containment, length, negation -/
structure OwnC (U : Wd) (lv : Nat) (Φ : Nat → List D → Sto → R D) (eq cn ln ng : Nat → Option Nat) : Prop where
  heq : ∀ c k, eq c = some k → Backs (Φ k) ∧ PySem.W.mroIn U.K (U.cA c) (.type "object") = some true ∧ (∀ T : String, T = "int" ∨ T = "str" ∨ T = "NoneType" ∨ T = "bool" → PySem.W.subIn U.K (.type T) (.ref (U.cA c)) = some false) ∧
    PySem.W.findIn U.K (.ref (U.cA c)) "__ne__" = some (some (.builtin "object.__ne__")) ∧ ∃ f, PySem.W.findIn U.K (.ref (U.cA c)) "__eq__" = some (some (.ref f)) ∧ PySem.W.isFn U.K (.ref f) = true ∧ FnR U.P U.w U.K U.mg U.base (L2.CX U.P U.w) lv f (spF U (Φ k))
  hcn : ∀ c k, cn c = some k → Backs (Φ k) ∧ ∃ f, PySem.W.findIn U.K (.ref (U.cA c)) "__contains__" = some (some (.ref f)) ∧ PySem.W.isFn U.K (.ref f) = true ∧ FnR U.P U.w U.K U.mg U.base (L2.CX U.P U.w) lv f (spF U (Φ k))
  hln : ∀ c k, ln c = some k → Backs (Φ k) ∧ ∃ f, PySem.W.findIn U.K (.ref (U.cA c)) "__len__" = some (some (.ref f)) ∧ PySem.W.isFn U.K (.ref f) = true ∧ FnR U.P U.w U.K U.mg U.base (L2.CX U.P U.w) lv f (spF U (Φ k))
  hng : ∀ c k, ng c = some k → Backs (Φ k) ∧ ∃ f, PySem.W.findIn U.K (.ref (U.cA c)) "__neg__" = some (some (.ref f)) ∧ PySem.W.isFn U.K (.ref f) = true ∧ FnR U.P U.w U.K U.mg U.base (L2.CX U.P U.w) lv f (spF U (Φ k))
/-- the def that a class has, asked of an instance -/
def ownK (t : Nat → Option Nat) (μ : Sto) (d : D) : Option (Nat × Nat) := match insOf μ d with
  | some (c, _) => (t c).map fun k => (c, k)
  | none => none
def notR (r : R D) : R D := r.bind fun d μ => match d with
  | .bl k => .ok (.bl !k) μ
  | _ => .no
def cmpR (op : CmpOp) (eq : Nat → Option Nat) (Φ : Nat → List D → Sto → R D) (d e : D) (μ : Sto) : R D := match cmpD op μ d e with
  | some k => .ok (.bl k) μ
  | none => (match ownK eq μ d with
    | some (c, k) => if okR μ c e then (match op with
      | .Eq => callA (Φ k) [d, e] μ
      | .NotEq => notR (callA (Φ k) [d, e] μ)
      | _ => .no) else .no
    | none => .no)
theorem ownK_at {sl : Sl} {μ : Sto} {ρ : List Addr} {G H : Hp} {σ : St} {v : V} {d : D} {t : Nat → Option Nat} {c k : Nat} (S : SR U b sl μ ρ G σ H) (r : RV U ρ G v d) (h : ownK t μ d = some (c, k)) : t c = some k ∧ ∃ a dx fs, v = .ref a ∧ H a = some (.ins (U.cA c) dx fs) := by
  unfold ownK at h
  cases e : insOf μ d with
  | none => rw [e] at h; cases h
  | some cf =>
    obtain ⟨c', ds⟩ := cf
    rw [e] at h
    obtain ⟨k', h1, h2⟩ := Option.map_eq_some_iff.mp (show (t c').map (fun k => (c', k)) = some (c, k) from h)
    cases h2
    obtain ⟨a, dx, fs, q1, q2, _⟩ := ins_at S r e
    exact ⟨h1, a, dx, fs, q1, q2⟩
/-- the type of the right operand -/
theorem okR_type {sl : Sl} {μ : Sto} {ρ : List Addr} {G H : Hp} {σ : St} {pins : List (Addr × Obj)} {s : Shared} {v : V} {u : Value} {e : D} {c : Nat} (I : Inv X pins σ H s) (S : SR U b sl μ ρ G σ H) (r : RV U ρ G v e) (ru : RelV v u) (h : okR μ c e = true)
    (hs : ∀ T : String, T = "int" ∨ T = "str" ∨ T = "NoneType" ∨ T = "bool" → PySem.W.subIn X.K (.type T) (.ref (U.cA c)) = some false) : ∃ ty, PySem.W.Looks (model X.prog X.w) s.heap (typeOf u) ty ∧ PySem.W.notFirst X.K (U.cA c) ty = true := by
  unfold okR at h
  cases e3 : insOf μ e with
  | some cf2 =>
    obtain ⟨c2, ds2⟩ := cf2
    rw [e3] at h
    obtain ⟨a2, dx2, fs2, rfl, ea2, _, _⟩ := ins_at S r e3
    obtain rfl : u = Value.ref a2 := ru
    have hcc : c2 = c := by simpa using h
    subst hcc
    obtain ⟨ox2, od2, J2⟩ := inst_at I ea2
    exact ⟨_, J2.type, by simp [PySem.W.notFirst]⟩
  | none =>
    rw [e3] at h
    have nf : ∀ T : String, (T = "int" ∨ T = "str" ∨ T = "NoneType" ∨ T = "bool") → PySem.W.notFirst X.K (U.cA c) (.type T) = true := fun T hT => by
      unfold PySem.W.notFirst
      rw [hs T hT]
      simp
    cases e with
    | int i => cases r.isP rfl; obtain ⟨t, rfl⟩ := ru; exact ⟨.type "int", .of_pure rfl, nf _ (.inl rfl)⟩
    | str i => cases r.isP rfl; obtain ⟨t, rfl⟩ := ru; exact ⟨.type "str", .of_pure rfl, nf _ (.inr (.inl rfl))⟩
    | non => cases r.isP rfl; cases ru; exact ⟨.type "NoneType", .of_pure rfl, nf _ (.inr (.inr (.inl rfl)))⟩
    | bl i => cases r.isP rfl; cases ru; exact ⟨.type "bool", .of_pure rfl, nf _ (.inr (.inr (.inr rfl)))⟩
    | _ => cases h
theorem PoE.notR {sl : Sl} {ρ : List Addr} {G : Hp} {σ : St} {Q : VK} {r : R D} (p : PoE U b W sl ρ G σ Q (_root_.Q.notR r)) : PoE U b W sl ρ G σ (fun v H' => ∃ k, v = .bl k ∧ Q (.bl !k) H') r := by
  cases r with
  | no => exact p
  | ex x μ' => exact p
  | ok d μ' =>
    cases d with
    | bl k =>
      intro v H' ρ' G' s' h1 h2 rv
      cases rv with
      | pure rv => cases rv; exact ⟨k, rfl, p _ H' ρ' G' s' h1 h2 (.pure (.bl _))⟩
    | _ => exact p.elim
theorem opJ_cmp {lv : Nat} {Φ : Nat → List D → Sto → R D} {op : CmpOp} {eq cn ln ng : Nat → Option Nat} (hX : XU X U) (O : OwnC U lv Φ eq cn ln ng) (hr : Room (lv + 1) X.A) (tk : Takes X W) : OpJ X (U.fr cl) b W (compareOp op) (cmpR op eq Φ) := by
  intro pins s σ H x y v u Q sl μ ρ G d e I rx ry S r1 r2 p
  unfold cmpR at p
  have hX' : XU X (U.fr cl) := ⟨hX.P, hX.w, hX.K, hX.mg, hX.base⟩
  cases e1 : cmpD op μ d e with
  | some k => rw [e1] at p; exact opJ_of (opr_cmp hX' hr.units op) pins s σ H x y v u Q sl μ ρ G d e I rx ry S r1 r2 (by show PoE _ _ W _ _ _ _ _ (R.of ((cmpD op μ d e).map .bl) μ); rw [e1]; exact p)
  | none =>
    rw [e1] at p
    dsimp only at p
    cases e2 : ownK eq μ d with
    | none => rw [e2] at p; exact p.elim
    | some ck =>
      obtain ⟨c, k⟩ := ck
      rw [e2] at p
      dsimp only at p
      obtain ⟨hk, a, dx, fs, rfl, ea⟩ := ownK_at S r1 e2
      obtain rfl : v = Value.ref a := rx
      by_cases ho : okR μ c e = true
      · rw [if_pos ho] at p
        obtain ⟨hv, hm, hs, hne, f, h1, h2, F⟩ := O.heq c k hk
        rw [← hX.K] at hm hs hne h1 h2
        obtain ⟨ox, od, J⟩ := inst_at I ea
        obtain ⟨ty, ht, hn⟩ := okR_type I S r2 ry ho hs
        obtain ⟨m, hF⟩ := I.fr
        cases op with
        | Eq =>
          dsimp only at p
          exact PySem.W.cmp_ofEq (PySem.W.cmp_K (op := .Eq) hr.units0 hF I.ok.mod.kin J ht hn h1 h2 (thn (wpAny_call (code_fn (vs := [V.ref a, y]) hX F (hr.mono (Nat.le_succ _)) tk hv I (.cons rfl (.cons ry .nil)) S (.cons r1 (.cons r2 .nil)) p)) fun _ _ z => cmpBack z))
        | NotEq =>
          dsimp only at p
          refine PySem.W.cmp_ofNotEq (ne_K (by have := hr.units; omega) I.kIn J ht hn hm h1 h2 hne ?_)
          refine thn (wpAny_call (code_fn1 (vs := [V.ref a, y]) hX F hr tk hv I (.cons rfl (.cons ry .nil)) S (.cons r1 (.cons r2 .nil)) p.notR)) fun r s' z => ?_
          obtain ⟨w', H', I', rw', k', ek, q⟩ := z
          subst ek
          cases rw'
          exact ⟨k', rfl, .bl !k', H', I', rfl, q⟩
        | _ => exact p.elim
      · rw [if_neg ho] at p; exact p.elim
/-- x in y -/
def inR (neg : Bool) (cn : Nat → Option Nat) (Φ : Nat → List D → Sto → R D) (d e : D) (μ : Sto) : R D := match inD μ d e with
  | some k => .ok (.bl (if neg then !k else k)) μ
  | none => (match ownK cn μ e with
    | some (_, k) => (callA (Φ k) [e, d] μ).bind fun r μ => match r with
      | .bl z => .ok (.bl (if neg then !z else z)) μ
      | _ => .no
    | none => .no)
theorem opJ_in {lv : Nat} {Φ : Nat → List D → Sto → R D} {eq cn ln ng : Nat → Option Nat} (neg : Bool) (hX : XU X U) (O : OwnC U lv Φ eq cn ln ng) (hr : Room (lv + 1) X.A) (tk : Takes X W) : OpJ X (U.fr cl) b W (compareOp (if neg then .NotIn else .In)) (inR neg cn Φ) := by
  intro pins s σ H x y v u Q sl μ ρ G d e I rx ry S r1 r2 p
  unfold inR at p
  have hX' : XU X (U.fr cl) := ⟨hX.P, hX.w, hX.K, hX.mg, hX.base⟩
  cases e1 : inD μ d e with
  | some k => rw [e1] at p; exact opJ_of (opr_in hX' (by have := hr.un; omega) neg) pins s σ H x y v u Q sl μ ρ G d e I rx ry S r1 r2 (by show PoE _ _ W _ _ _ _ _ (R.of (((inD μ d e).map fun k => if neg then !k else k).map .bl) μ); rw [e1]; exact p)
  | none =>
    rw [e1] at p
    dsimp only at p
    cases e2 : ownK cn μ e with
    | none => rw [e2] at p; exact p.elim
    | some ck =>
      obtain ⟨c, k⟩ := ck
      rw [e2] at p
      dsimp only at p
      obtain ⟨hk, a, dx, fs, rfl, ea⟩ := ownK_at S r2 e2
      obtain rfl : u = Value.ref a := ry
      obtain ⟨hv, f, h1, h2, F⟩ := O.hcn c k hk
      rw [← hX.K] at h1 h2
      obtain ⟨ox, od, J⟩ := inst_at I ea
      obtain ⟨m, hF⟩ := I.fr
      have conv : PoE (U.fr cl) b W sl ρ G σ (fun v H' => ∃ z, v = .bl z ∧ Q (.bl (if neg then !z else z)) H') (callA (Φ k) [e, d] μ) := by
        cases e3 : callA (Φ k) [e, d] μ with
        | no => rw [e3] at p; exact p
        | ex x μ' => rw [e3] at p; exact p
        | ok r μ' =>
          rw [e3] at p
          cases r with
          | bl z =>
            intro v H' ρ' G' s' h1 h2 rv
            cases rv with
            | pure rv => cases rv; exact ⟨z, rfl, p _ H' ρ' G' s' h1 h2 (.pure (.bl _))⟩
          | _ => exact p.elim
      have run := wpAny_call (code_fn (vs := [V.ref a, x]) hX F (hr.mono (Nat.le_succ _)) tk hv I (.cons rfl (.cons rx .nil)) S (.cons r2 (.cons r1 .nil)) conv)
      cases neg with
      | true =>
        refine PySem.W.notIn_K hF I.ok.mod.kin J h1 h2 (thn run fun r s' z => ?_)
        obtain ⟨w', H', I', rw', k', ek, q⟩ := z
        subst ek
        cases rw'
        exact wpAny_truthy_bool ⟨.bl !k', H', I', rfl, q⟩
      | false =>
        refine PySem.W.in_K hF I.ok.mod.kin J h1 h2 (thn run fun r s' z => ?_)
        obtain ⟨w', H', I', rw', k', ek, q⟩ := z
        subst ek
        cases rw'
        exact wpAny_truthy_bool ⟨.bl k', H', I', rfl, q⟩
/-- len(x) -/
def lenR (ln : Nat → Option Nat) (Φ : Nat → List D → Sto → R D) (ds : List D) (μ : Sto) : R D := match ds with
  | [d] => (match lenD μ d with
    | some n => .ok (.int n) μ
    | none => (match ownK ln μ d with
      | some (_, k) => (callA (Φ k) [d] μ).bind fun r μ => match r with
        | .int n => if 0 ≤ n && n < 9223372036854775808 then .ok (.int n) μ else .no
        | _ => .no
      | none => .no))
  | _ => .no
theorem callJ_len {lv : Nat} {Φ : Nat → List D → Sto → R D} {eq cn ln ng : Nat → Option Nat} (hX : XU X U) (hc : X.calm = true) (O : OwnC U lv Φ eq cn ln ng) (hr : Room (lv + 1) X.A) (tk : Takes X W) : CallJ X (U.fr cl) b W (.builtin "len") (lenR ln Φ) := by
  intro pins s σ H vs us Q sl μ ρ G ds I r S ra p
  unfold lenR at p
  have hX' : XU X (U.fr cl) := ⟨hX.P, hX.w, hX.K, hX.mg, hX.base⟩
  split at p
  · rename_i d
    cases e1 : lenD μ d with
    | some n => rw [e1] at p; exact fb_call hX' hc .len pins s σ H vs us Q sl μ ρ G [d] I r S ra (by show PoE _ _ W _ _ _ _ _ (R.of ((lenD μ d).map fun n => .int n) μ); rw [e1]; exact p)
    | none =>
      rw [e1] at p
      dsimp only at p
      cases e2 : ownK ln μ d with
      | none => rw [e2] at p; exact p.elim
      | some ck =>
        obtain ⟨c, k⟩ := ck
        rw [e2] at p
        dsimp only at p
        cases ra with
        | cons r1 rn =>
          cases rn
          obtain ⟨hk, a, dx, fs, rfl, ea⟩ := ownK_at S r1 e2
          obtain ⟨hv, f, h1, h2, F⟩ := O.hln c k hk
          rw [← hX.K] at h1 h2
          obtain ⟨ox, od, J⟩ := inst_at I ea
          obtain ⟨m, hF⟩ := I.fr
          have conv : PoE (U.fr cl) b W sl ρ G σ (fun v H' => ∃ n, v = .int n ∧ (0 ≤ n ∧ n < 2 ^ 63) ∧ Q (.int n) H') (callA (Φ k) [d] μ) := by
            cases e3 : callA (Φ k) [d] μ with
            | no => rw [e3] at p; exact p
            | ex x μ' => rw [e3] at p; exact p
            | ok r μ' =>
              rw [e3] at p
              cases r with
              | int n =>
                intro v H' ρ' G' s' h1 h2 rv
                cases rv with
                | pure rv =>
                  cases rv
                  dsimp only [R.bind] at p
                  by_cases hz : (decide (0 ≤ n) && decide (n < 9223372036854775808)) = true
                  · rw [if_pos hz] at p
                    rw [Bool.and_eq_true, decide_eq_true_eq, decide_eq_true_eq] at hz
                    exact ⟨n, rfl, hz, p _ H' ρ' G' s' h1 h2 (.pure (.int _))⟩
                  · rw [if_neg hz] at p; exact p.elim
              | _ => exact p.elim
          obtain ⟨u, rfl, ru⟩ := vals1 r
          obtain rfl : u = Value.ref a := ru
          refine PySem.W.len_K hF I.ok.mod.kin J h1 h2 (thn (wpAny_call (code_fn1 (vs := [V.ref a]) hX F hr tk hv I (.cons rfl .nil) S (.cons r1 .nil) conv)) fun r s' z => ?_)
          obtain ⟨w', H', I', rw', n, ek, hn, q⟩ := z
          subst ek
          obtain ⟨t, rfl⟩ := rw'
          exact ⟨hn, .int n, H', I'.tok _, ⟨_, rfl⟩, q⟩
  · exact p.elim
/-- - x -/
def negR (ng : Nat → Option Nat) (Φ : Nat → List D → Sto → R D) (d : D) (μ : Sto) : R D := match d with
  | .int i => .ok (.int (-i)) μ
  | d => (match ownK ng μ d with
    | some (_, k) => callA (Φ k) [d] μ
    | none => .no)
theorem je_neg {lv : Nat} {Φ : Nat → List D → Sto → R D} {eq cn ln ng : Nat → Option Nat} {a : Expr} {ma : Sl → Sto → R D} (hX : XU X U) (O : OwnC U lv Φ eq cn ln ng) (hr : Room (lv + 1) X.A) (tk : Takes X W) (ha : JE X (U.fr cl) b W a ma) :
    JE X (U.fr cl) b W (.UnaryOp .USub a pos) fun sl μ => (ma sl μ).bind (negR ng Φ) := by
  refine ⟨fun pins s σ H Q I h => ?_⟩
  obtain ⟨sl, μ, ρ, G, S, p⟩ := h
  refine UnaryOp_ (thn (ha.run pins s σ H (fun v H1 => ∃ d μ1 ρ1 G1, SR (U.fr cl) b sl μ1 ρ1 G1 σ H1 ∧ RV (U.fr cl) ρ1 G1 v d ∧ PoE (U.fr cl) b W sl ρ1 G1 σ Q (negR ng Φ d μ1)) I (rd_step (α := Unit) S p fun d μ1 v H1 ρ1 G1 s1 _ _ rv p1 => ⟨d, μ1, ρ1, G1, s1, rv, p1⟩)) fun u s1 ⟨v, H1, I1, rx, d, μ1, ρ1, G1, S1, rv, p1⟩ => ?_)
  have own : PoE (U.fr cl) b W sl ρ1 G1 σ Q (match ownK ng μ1 d with
    | some (_, k) => callA (Φ k) [d] μ1
    | none => .no) → wpAny (model X.prog X.w) X.A (unaryOp .USub u) (EP X pins σ Q) X.xe s1 := fun p1 => by
    cases e2 : ownK ng μ1 d with
    | none => rw [e2] at p1; exact p1.elim
    | some ck =>
      obtain ⟨c, k⟩ := ck
      rw [e2] at p1
      dsimp only at p1
      obtain ⟨hk, a, dx, fs, rfl, ea⟩ := ownK_at S1 rv e2
      obtain rfl : u = Value.ref a := rx
      obtain ⟨hv, f, h1, h2, F⟩ := O.hng c k hk
      rw [← hX.K] at h1 h2
      obtain ⟨ox, od, J⟩ := inst_at I1 ea
      obtain ⟨m, hF⟩ := I1.fr
      exact PySem.W.ksp_neg hF I1.ok.mod.kin J h1 h2 (wpAny_call (code_fn (vs := [V.ref a]) hX F (hr.mono (Nat.le_succ _)) tk hv I1 (.cons rfl .nil) S1 (.cons rv .nil) p1))
  cases d with
  | int i =>
    cases rv.isP rfl
    exact un_neg pins s1 σ H1 _ u Q I1 rx ⟨i, rfl, p1.fin S1 (.pure (.int _))⟩
  | _ => exact own p1
end
end Q
/-! Q30: names of the module, calls through a name of the frame, isinstance. -/
namespace Q
open PySem PySem.Spec PyProof.Rows L2
section
variable {X : Cx} {b : B0} {W : WX} {U : Wd} {cl : List (Str × Addr)} {pos p : Pos}
theorem je_glb {x : Str} {v : V} {u : Value} {d : D} (hg : Gl X x) (hm : X.mg x = some u) (r : RelV v u) (hd : (x == ("__debug__" : Str)) = false) (hr : ∀ G, Rep U G v d) : JE X U b W (.Name x pos) fun _ μ => .ok d μ := je_of (pe_glob hg hm r hd) hr
theorem je_ty {x : Str} {t : Ty} (hg : Gl X x) (hm : X.mg x = none) (hv : bootBuiltins x = some (.type t.name)) (hn : x ≠ "__name__") (hd : (x == ("__debug__" : Str)) = false) : JE X U b W (.Name x pos) fun _ μ => .ok (.ty t) μ :=
  je_of (v := .ty t.name) ⟨fun _ _ _ H _ I h => ld_blt I hg hm hv ⟨.ty t.name, H, I, rfl, h⟩ hn hd⟩ fun _ => .ty t
/-- a call through a name of the frame -/
def calV (mkc : Nat → Option (List D → Sto → R D)) (Ψ : Nat → List D → Sto → R D) (ms : Sto → R (List D)) (o : Option D) (μ : Sto) : R D := match o with
  | some (.cls c) => (match mkc c with
    | some φ => (ms μ).bind φ
    | none => .no)
  | some (.clo k cs) => (ms μ).bind fun ds μ => if allV ds then Ψ k (ds ++ cs) μ else .no
  | _ => .no
theorem je_callV {i : Nat} {x : Str} {es : List Expr} {ms : Sl → Sto → R (List D)} {mkc : Nat → Option (List D → Sto → R D)} {Ψ : Nat → List D → Sto → R D} {lv : Nat} (hX : XU X U) (hN : X.N[i]? = some x) (hvs : Vis X.env.scope x) (hd : (x == ("__debug__" : Str)) = false) (hcd : (x == ("__classdict__" : Str)) = false)
    (hmk : ∀ c φ, mkc c = some φ → PySem.W.keepIn U.K (.ref (U.cA c)) = true ∧ CallJ X (U.fr cl) b W (.ref (U.cA c)) φ)
    (hclo : ∀ k, CloOk U lv k (Ψ k)) (hbk : ∀ k, Backs (Ψ k)) (hr : Room lv X.A) (tk : Takes X W) (ha : JA X (U.fr cl) b W es ms) (hs : noStar es = true) :
    JE X (U.fr cl) b W (.Call (.Name x p) es [] pos) fun sl μ => calV mkc Ψ (ms sl) (getS sl i) μ := by
  refine ⟨fun pins s σ H Q I h => ?_⟩
  obtain ⟨sl, μ, ρ, G, S, pp⟩ := h
  cases eg : getS sl i with
  | none => dsimp only at pp; rw [eg] at pp; exact pp.elim
  | some d =>
    dsimp only at pp
    rw [eg] at pp
    obtain ⟨v, hv1, rv⟩ := S.sl i d (getS_some eg)
    refine wpAny_Call_Name_kw (thn ((pe_var (pos := p) hN hvs hd hcd).run pins s σ H (fun w H1 => w = v ∧ H1 = H) I ⟨v, hv1, rfl, rfl⟩) fun u s1 ⟨w, H1, I1, r1, q1, q2⟩ => ?_)
    subst q1
    subst q2
    cases d with
    | cls c =>
      have pp : PoE (U.fr cl) b W sl ρ G σ Q (match mkc c with | some φ => (ms sl μ).bind φ | none => .no) := pp
      cases rv with
      | pure rv =>
        cases rv
        obtain rfl : u = Value.ref (U.cA c) := r1
        cases em : mkc c with
        | none => rw [em] at pp; exact pp.elim
        | some φ =>
          rw [em] at pp
          dsimp only at pp
          obtain ⟨hk, hc⟩ := hmk c φ em
          rw [← hX.K] at hk
          refine callw (P := fun h => X.K.In h) (first := []) (PySem.W.keeps_K hk) ha hs I1 S pp fun us s2 vs H2 ds μ2 ρ2 G2 I2 rr S2 hr2 hg2 ra p2 => ⟨I2.kIn, ?_⟩
          exact hc pins s2 σ H2 vs us Q sl μ2 ρ2 G2 ds I2 rr S2 ra p2
    | clo k cs =>
      have pp : PoE (U.fr cl) b W sl ρ G σ Q ((ms sl μ).bind fun ds μ => if allV ds then Ψ k (ds ++ cs) μ else .no) := pp
      have ex : ∃ f, w = .ref f := by
        cases rv with
        | pure rv => cases rv
        | clo => exact ⟨_, rfl⟩
      obtain ⟨f, rfl⟩ := ex
      obtain rfl : u = Value.ref f := r1
      have fa : ∀ {H2 : Hp} {s2 : Shared} {ρ2 : List Addr} {G2 : Hp} {μ2 : Sto}, Inv X pins σ H2 s2 → SR (U.fr cl) b sl μ2 ρ2 G2 σ H2 → RV (U.fr cl) ρ2 G2 (.ref f) (.clo k cs) → PySem.W.FnAt f s2.heap := fun {H2 s2 ρ2 G2 μ2} I2 S2 r2 => by
        cases r2 with
        | pure r2 => cases r2
        | clo h1 h2 h3 h4 h5 h6 h7 =>
          obtain ⟨⟨od, sl', doc, pm, ctv, ho⟩, _, _⟩ := I2.hok f _ (S2.h.sub _ _ h1)
          exact ⟨_, od, _, sl', ho⟩
      refine callw (P := fun h => PySem.W.FnAt f h) (first := []) PySem.W.keeps_F ha hs I1 S pp fun us s2 vs H2 ds μ2 ρ2 G2 I2 rr S2 hr2 hg2 ra p2 => ⟨fa I2 S2 (rv.mono hr2 hg2), ?_⟩
      exact run_clo hX (hclo k) hr tk (hbk k) I2 rr S2 (rv.mono hr2 hg2) ra p2
    | _ => exact pp.elim
/-! ### isinstance -/
inductive Tag where
  | b (t : Ty) | c (c : Nat)
def tagOf (μ : Sto) (d : D) : Option Tag := match insOf μ d with
  | some (c, _) => some (.c c)
  | none => (match view μ d with
    | .non => some (.b .none) | .bl _ => some (.b .bool) | .int _ => some (.b .int) | .str _ => some (.b .str)
    | .tup _ => some (.b .tuple) | .lst _ => some (.b .list) | .dct _ => some (.b .dict)
    | _ => none)
/-- isc c c': whether the class c is one of c' (none: not known) -/
def isiT (isc : Nat → Nat → Option Bool) (t : Tag) (T : D) : Option Bool := match t, T with
  | .b t, .ty t' => some (subTy t t')
  | .b _, .cls c' => (isc c' c').map fun _ => false
  | .c c, .ty _ => (isc c c).map fun _ => false
  | .c c, .cls c' => isc c c'
  | _, _ => none
def isiR (isc : Nat → Nat → Option Bool) (ds : List D) (μ : Sto) : R D := match ds with
  | [d, T] => R.of (((tagOf μ d).bind fun t => isiT isc t T).map .bl) μ
  | _ => .no
structure IsiOk (U : Wd) (isc : Nat → Nat → Option Bool) : Prop where
  bb : ∀ t t' : Ty, PySem.W.kitOne U.K (.type t.name) (.type t'.name) = some (subTy t t')
  bc : ∀ (t : Ty) c, (isc c c).isSome = true → PySem.W.kitOne U.K (.type t.name) (.ref (U.cA c)) = some false
  cb : ∀ c (t : Ty), (isc c c).isSome = true → PySem.W.kitOne U.K (.ref (U.cA c)) (.type t.name) = some false
  cc : ∀ c c' k, isc c c' = some k → PySem.W.kitOne U.K (.ref (U.cA c)) (.ref (U.cA c')) = some k
  ins : ∀ c c' k, isc c c' = some k → Cls U.K (U.cA c) ∧ PySem.W.findIn U.K (.ref (U.cA c)) "__class__" = some (some (.builtin "object.__class__")) ∧ PySem.W.specialIn U.K (.builtin "object.__class__") "__get__" = some (some (.builtin "getset_descriptor.__get__")) ∧
    PySem.W.takesIn U.K (.builtin "object.__class__") = some true ∧ PySem.W.mroIn U.K (U.cA c) (.type "object") = some true
theorem seqL_ty {H : Hp} {a : Addr} {xs : List V} (h : SqL X.K H a xs) : TyX X.K H (.ref a) (.type "list") := by
  rcases h with (h | ⟨o, h⟩) | ⟨o, its, n, h1, h2, _⟩
  · exact .base (.lst h)
  · exact .base (.frz h)
  · exact .kList h1 h2
theorem seqT_ty {H : Hp} {a : Addr} {xs : List V} (h : SqT X.K H a xs) : TyX X.K H (.ref a) (.type "tuple") := by
  rcases h with (h | ⟨o, h⟩) | ⟨o, its, n, h1, h2, _⟩
  · exact .base (.tup h)
  · exact .fTuple h
  · exact .kTuple h1 h2
theorem isi_call {isc : Nat → Nat → Option Bool} (hX : XU X U) (O : IsiOk U isc) : CallJ X (U.fr cl) b W (.builtin "isinstance") (isiR isc) := by
  intro pins s σ H vs us Q sl μ ρ G ds I r S ra p
  have hX' : XU X (U.fr cl) := ⟨hX.P, hX.w, hX.K, hX.mg, hX.base⟩
  unfold isiR at p
  split at p
  · rename_i d T
    cases ra with
    | @cons x _ vs' _ rd rn =>
    cases rn with
    | @cons y _ vs'' _ rT rn =>
    cases rn
    obtain ⟨e, he, pp⟩ := p.of
    obtain ⟨k, hk, rfl⟩ := Option.map_eq_some_iff.mp he
    obtain ⟨t, ht, hi⟩ := Option.bind_eq_some_iff.mp hk
    have fin : ∀ {ty u : Value}, ClsV y u → TyX X.K H x ty → PySem.W.kitOne X.K ty u = some k → wpAny (model X.prog X.w) X.A (call (.builtin "isinstance") us) (EP X pins σ Q) X.xe s := fun {ty u} h1 h2 h3 =>
      call_isi pins s σ H _ us Q I r ⟨x, y, ty, u, k, rfl, h1, h2, h3, pp.fin S (.pure (.bl _))⟩
    unfold tagOf at ht
    cases e1 : insOf μ d with
    | some cf =>
      obtain ⟨c, ds0⟩ := cf
      rw [e1] at ht
      cases ht
      obtain ⟨a, dx, fs, rfl, ea, _, _⟩ := ins_at S rd e1
      have ty : ∀ c' k', isc c c' = some k' → TyX X.K H (.ref a) (.ref (U.cA c)) := fun c' k' z => by
        obtain ⟨q1, q2, q3, q4, q5⟩ := O.ins c c' k' z
        rw [← hX.K] at q1 q2 q3 q4 q5
        exact .base (.ins ea q1 q2 q3 q4 q5)
      cases T with
      | ty t' =>
        obtain ⟨k0, h0, rfl⟩ := Option.map_eq_some_iff.mp (show (isc c c).map (fun _ => false) = some k from hi)
        cases rT.isP rfl
        have := O.cb c t' (by rw [h0]; rfl)
        rw [← hX.K] at this
        exact fin (.ty _) (ty c k0 h0) this
      | cls c' =>
        have hi : isc c c' = some k := hi
        cases rT.isP rfl
        have := O.cc c c' k hi
        rw [← hX.K] at this
        exact fin (.own _) (ty c' k hi) this
      | _ => cases hi
    | none =>
      rw [e1] at ht
      dsimp only at ht
      have go : ∀ {t0 : Ty}, t = .b t0 → TyX X.K H x (.type t0.name) → wpAny (model X.prog X.w) X.A (call (.builtin "isinstance") us) (EP X pins σ Q) X.xe s := fun {t0} et hty => by
        subst et
        cases T with
        | ty t' =>
          have hi : some (subTy t0 t') = some k := hi
          cases hi
          cases rT.isP rfl
          have := O.bb t0 t'
          rw [← hX.K] at this
          exact fin (.ty _) hty this
        | cls c' =>
          obtain ⟨k0, h0, rfl⟩ := Option.map_eq_some_iff.mp (show (isc c' c').map (fun _ => false) = some k from hi)
          cases rT.isP rfl
          have := O.bc t0 c' (by rw [h0]; rfl)
          rw [← hX.K] at this
          exact fin (.own _) hty this
        | _ => cases hi
      split at ht
      · rename_i e; cases ht; cases view_non rd e; exact go rfl (.base .non)
      · rename_i e; cases ht; cases view_bl rd e; exact go rfl (.base (.bl _))
      · rename_i e; cases ht; cases view_int rd e; exact go rfl (.base (.int _))
      · rename_i e; cases ht; cases view_str rd e; exact go rfl (.base (.str _))
      · rename_i e; cases ht; obtain ⟨a, xs, rfl, h1, _⟩ := view_tup S.h rd e; exact go rfl (seqT_ty (by rw [hX.K]; exact h1))
      · rename_i e; cases ht; obtain ⟨a, xs, rfl, h1, _⟩ := view_lst S.h rd e; exact go rfl (seqL_ty (by rw [hX.K]; exact h1))
      · rename_i e
        cases ht
        cases view_dct S.h rd e with
        | kdct h _ _ =>
          obtain ⟨es, n, h1, _⟩ := h
          refine go rfl (.kDict (by rw [hX.K]; exact h1.at_) rfl)
      · cases ht
  · exact p.elim
end
end Q
/-! Q31: slices; range, enumerate, zip as what is walked. -/
namespace Q
open PySem PySem.Spec PyProof.Rows L2
section
variable {X : Cx} {b : B0} {W : WX} {U : Wd} {pos p p2 : Pos}
/-! ### slices -/
/-- a part of a slice -/
def PoO (U : Wd) (b : B0) (W : WX) (sl : Sl) (ρ : List Addr) (G : Hp) (σ : St) (Q : Option Int → Hp → Prop) : R (Option Int) → Prop
  | .ok d μ' => ∀ H' ρ' G', SR U b sl μ' ρ' G' σ H' → ρ <+: ρ' → Sub G G' → Q d H'
  | .ex x μ' => ∀ cls dd H' ρ' G', SR U b sl μ' ρ' G' σ H' → ρ <+: ρ' → Sub G G' → XR U ρ' G' H' x cls dd → W cls dd σ H'
  | .no => False
def RdO (U : Wd) (b : B0) (W : WX) (m : Sl → Sto → R (Option Int)) : TO := fun σ H Q => ∃ sl μ ρ G, SR U b sl μ ρ G σ H ∧ PoO U b W sl ρ G σ Q (m sl μ)
abbrev JO (X : Cx) (U : Wd) (b : B0) (W : WX) (e : Option Expr) (m : Sl → Sto → R (Option Int)) : Prop := PO X e (RdO U b W m)
theorem PO.imp {e : Option Expr} {t t' : TO} (h : PO X e t) (i : ∀ σ H Q, t' σ H Q → t σ H Q) : PO X e t' := ⟨fun pins s σ H Q I q => h.run pins s σ H Q I (i σ H Q q)⟩
theorem jo_none : JO X U b W none fun _ μ => .ok none μ := by
  refine PO.imp po_none fun σ H Q h => ?_
  obtain ⟨sl, μ, ρ, G, s, pp⟩ := h
  exact pp H ρ G s (List.prefix_refl _) (Sub.refl _)
def partR (r : R D) : R (Option Int) := r.bind fun d μ => match d with
  | .int i => .ok (some i) μ
  | _ => .no
theorem jo_some {e : Expr} {m : Sl → Sto → R D} (h : JE X U b W e m) : JO X U b W (some e) fun sl μ => partR (m sl μ) := by
  refine PO.imp (po_some h) fun σ H Q h => ?_
  obtain ⟨sl, μ, ρ, G, s, pp⟩ := h
  refine ⟨sl, μ, ρ, G, s, ?_⟩
  dsimp only at pp
  cases em : m sl μ with
  | no => rw [em] at pp; exact pp
  | ex x μ1 => rw [em] at pp; exact pp
  | ok d μ1 =>
    rw [em] at pp
    cases d with
    | int i =>
      intro v H' ρ' G' s' h1 h2 rv
      cases rv.isP rfl
      exact ⟨i, rfl, pp H' ρ' G' s' h1 h2⟩
    | _ => exact pp.elim
/-- x[lo:hi]; str too -/
def cutR (d : D) (lo hi : Option Int) (μ : Sto) : R D := match view μ d with
  | .lst xs => .ok (.lst (cutL xs lo hi)) μ
  | .tup xs => .ok (.tup (cutL xs lo hi)) μ
  | .str z => if z.length ≤ lim then .ok (.str (cutS z lo hi)) μ else .no
  | _ => .no
def sliceR (ra : R D) (rl rh : Sto → R (Option Int)) : R D := ra.bind fun d μ => (rl μ).bind fun lo μ => (rh μ).bind fun hi μ => cutR d lo hi μ
theorem RepL.cut {G : Hp} {vs : List V} {ds : List D} (h : RepL U G vs ds) (lo hi : Option Int) : RepL U G (cutV vs lo hi) (cutL ds lo hi) := by
  unfold cutV cutL
  rw [h.length]
  exact (h.drop _).take _
theorem slr_cut (hX : XU X U) : SlR X (fun x lo hi H Q => ∃ sl μ ρ G σ d, SR U b sl μ ρ G σ H ∧ RV U ρ G x d ∧ PoE U b W sl ρ G σ Q (cutR d lo hi μ)) := by
  intro pins s σ H x v vl vu lo hi sa Q I rx hs pl pu h
  obtain ⟨sl, μ, ρ, G, σ', d, S, rd, pp⟩ := h
  unfold cutR at pp
  split at pp
  · rename_i zs e
    obtain ⟨a, ys, rfl, h2, h3⟩ := view_lst S.h rd e
    refine sl_list pins s σ H _ v vl vu lo hi sa Q I rx hs pl pu ⟨a, ys, rfl, by rw [hX.K]; exact h2, fun q hq => ?_⟩
    have hg := S.h.gfree hq
    exact pp _ _ ρ _ (S.alloc hq (fun _ z => by cases z)) (List.prefix_refl _) (sub_upd hg) (.pure (.lst upd_same ((h3.cut lo hi).mono (sub_upd hg))))
  · rename_i zs e
    obtain ⟨a, ys, rfl, h2, h3⟩ := view_tup S.h rd e
    cases view_tup_eq e
    refine sl_tupA pins s σ H _ v vl vu lo hi sa Q I rx hs pl pu ⟨a, ys, rfl, by rw [hX.K]; exact h2, fun hw => ?_, fun _ q hq => ?_⟩
    · have e2 : cutL zs lo hi = zs := by
        unfold cutL
        rw [h3.length] at hw
        rw [hw.1, hw.2]
        simp
      rw [e2] at pp
      exact pp.fin S rd
    · have hg := S.h.gfree hq
      exact pp _ _ ρ _ (S.alloc hq (fun _ z => by cases z)) (List.prefix_refl _) (sub_upd hg) (.pure (.tup (SqT.of upd_same) ((h3.cut lo hi).mono (sub_upd hg))))
  · rename_i z e
    split at pp
    · rename_i hz
      cases view_str rd e
      exact sl_str pins s σ H _ v vl vu lo hi sa Q I rx hs pl pu ⟨z, rfl, by rw [← lim_line]; exact hz, pp.fin S (.pure (.str _))⟩
    · exact pp.elim
  · exact pp.elim
theorem je_slice {e : Expr} {lo hi : Option Expr} {me : Sl → Sto → R D} {ml mh : Sl → Sto → R (Option Int)} (hX : XU X U) (he : JE X U b W e me) (hl : JO X U b W lo ml) (hh : JO X U b W hi mh) :
    JE X U b W (.Subscript e (.Slice lo hi none p2) pos) fun sl μ => sliceR (me sl μ) (ml sl) (mh sl) := by
  refine PE.imp (pe_slice (slr_cut (b := b) (W := W) hX) he hl hh) fun σ H Q h => ?_
  obtain ⟨sl, μ, ρ, G, s, pp⟩ := h
  unfold sliceR at pp
  refine rd_step (α := Unit) s pp fun d μ1 v H1 ρ1 G1 s1 hr1 hg1 rv p1 => ?_
  refine ⟨sl, μ1, ρ1, G1, s1, ?_⟩
  cases e1 : ml sl μ1 with
  | no => rw [e1] at p1; exact p1
  | ex x μ2 => rw [e1] at p1; exact p1
  | ok l μ2 =>
    rw [e1] at p1
    intro H2 ρ2 G2 s2 hr2 hg2
    have p2 := PoE.mono hr2 hg2 p1
    refine ⟨sl, μ2, ρ2, G2, s2, ?_⟩
    dsimp only [R.bind] at p2
    cases e2 : mh sl μ2 with
    | no => rw [e2] at p2; exact p2
    | ex x μ3 => rw [e2] at p2; exact p2
    | ok u μ3 =>
      rw [e2] at p2
      intro H3 ρ3 G3 s3 hr3 hg3
      exact ⟨sl, μ3, ρ3, G3, σ, d, s3, (rv.mono hr2 hg2).mono hr3 hg3, PoE.mono hr3 hg3 p2⟩
/-! ### range -/
theorem rd_argsI {sl : Sl} {μ : Sto} {ρ : List Addr} {G H : Hp} {σ : St} {Q : It → Hp → Prop} {m : Sl → Sto → R (List D)} {k : List D → Sto → R (List D)} {C : List V → Hp → Prop} (s : SR U b sl μ ρ G σ H) (p : PoI U b W sl ρ G σ Q ((m sl μ).bind k))
    (h : ∀ ds μ1 vs H1 ρ1 G1, SR U b sl μ1 ρ1 G1 σ H1 → RVL U ρ1 G1 vs ds → PoI U b W sl ρ1 G1 σ Q (k ds μ1) → C vs H1) : RdA U b W m σ H C := by
  refine ⟨sl, μ, ρ, G, s, ?_⟩
  cases e : m sl μ with
  | ok ds μ1 =>
    rw [e] at p
    refine fun vs H1 ρ1 G1 s1 hr hg rv => h ds μ1 vs H1 ρ1 G1 s1 rv ?_
    cases q : k ds μ1 with
    | ok es μ2 => simp only [R.bind, q] at p; exact fun J H' ρ' G' s' h1 h2 => p J H' ρ' G' s' (hr.trans h1) (hg.trans h2)
    | ex x μ2 => simp only [R.bind, q] at p; exact fun cls dd H' ρ' G' s' h1 h2 => p cls dd H' ρ' G' s' (hr.trans h1) (hg.trans h2)
    | no => simp only [R.bind, q] at p; exact p
  | ex x μ1 => rw [e] at p; exact p
  | no => rw [e] at p; exact p
abbrev big : Int := 4611686018427387904
def rng1R (ds : List D) (μ : Sto) : R (List D) := match ds with
  | [.int j] => if -big ≤ j && j < big then .ok (rngD 0 j.toNat) μ else .no
  | _ => .no
def rng2R (ds : List D) (μ : Sto) : R (List D) := match ds with
  | [.int i, .int j] => if -big ≤ i && i < big && -big ≤ j && j < big then .ok (rngD i (j - i).toNat) μ else .no
  | _ => .no
theorem ji_range1 {tg a : Expr} {ms : Sl → Sto → R (List D)} (hg : Gl X "range") (hm : X.mg "range" = none) (ha : JA X U b W [a] ms) (hs : PySem.W.isStarred a = false) : JI X U b W tg (.Call (.Name "range" p) [a] [] pos) fun sl μ => (ms sl μ).bind rng1R := by
  refine PI.imp (pi_range1 hg hm ha (star_not hs [] X.env)) fun σ H Q h => ?_
  obtain ⟨sl, μ, ρ, G, s, pp⟩ := h
  refine rd_argsI s pp fun ds μ1 vs H1 ρ1 G1 s1 ra p1 => ?_
  unfold rng1R at p1
  split at p1
  · rename_i j
    split at p1
    · rename_i hz
      rw [Bool.and_eq_true, decide_eq_true_eq, decide_eq_true_eq] at hz
      cases ra with
      | cons r rn =>
        cases rn
        cases r.isP rfl
        exact ⟨j, rfl, hz.1, hz.2, p1 _ _ _ _ s1 (List.prefix_refl _) (Sub.refl _) walkD_rng⟩
    · exact p1.elim
  · exact p1.elim
theorem ji_range2 {tg a c : Expr} {ms : Sl → Sto → R (List D)} (hg : Gl X "range") (hm : X.mg "range" = none) (ha : JA X U b W [a, c] ms) (hs : PySem.W.isStarred a = false) (hs2 : PySem.W.isStarred c = false) : JI X U b W tg (.Call (.Name "range" p) [a, c] [] pos) fun sl μ => (ms sl μ).bind rng2R := by
  refine PI.imp (pi_range2 hg hm ha (by rw [star_not hs [c] X.env, star_not hs2 [] X.env]; rfl) (star_not hs2 [] X.env)) fun σ H Q h => ?_
  obtain ⟨sl, μ, ρ, G, s, pp⟩ := h
  refine rd_argsI s pp fun ds μ1 vs H1 ρ1 G1 s1 ra p1 => ?_
  unfold rng2R at p1
  split at p1
  · rename_i i j
    split at p1
    · rename_i hz
      simp only [Bool.and_eq_true, decide_eq_true_eq] at hz
      cases ra with
      | cons r rn =>
        cases rn with
        | cons r2 rn =>
          cases rn
          cases r.isP rfl
          cases r2.isP rfl
          exact ⟨i, j, rfl, ⟨hz.1.1.1, hz.1.1.2, hz.1.2, hz.2⟩, p1 _ _ _ _ s1 (List.prefix_refl _) (Sub.refl _) walkD_rng⟩
    · exact p1.elim
  · exact p1.elim
end
end Q
/-! Q32: zip of two things of any kind, enumerate. -/
namespace Q
open PySem PySem.Spec PyProof.Rows L2
/-- what zip walks: a list, a tuple, a text -/
inductive Sk where
  | lst (a : Addr) | tup (a : Addr) | str (x : Str) (t : Tok)
def Sk.val : Sk → Value
  | .lst a => .ref a | .tup a => .ref a | .str x t => .str x t
def Sk.ob : Sk → Obj
  | .lst a => { cls := .type "list_iterator", data := .fields #[.ref a, .int 0 0] }
  | .tup a => { cls := .type "tuple_iterator", data := .fields #[.ref a, .int 0 0] }
  | .str x t => { cls := .type (strIterType x), data := .fields #[.str x t, .int 0 0] }
def Sk.it : Sk → Addr → Nat → Heap → Prop
  | .lst a, it, i, h => h.IsListIter it a i
  | .tup a, it, i, h => h.IsTupleIter it a i
  | .str x t, it, i, h => h.IsStrIter it (strIterType x) x t i
def Sk.seq : Sk → List Value → Heap → Prop
  | .lst a, us, h => h.IsList a us.toArray
  | .tup a, us, h => h.IsTuple a us.toArray
  | .str _ _, _, _ => True
def Sk.ad : Sk → List Addr
  | .lst a => [a] | .tup a => [a] | .str _ _ => []
def Sk.P : Sk → List Value → Nat → Value → Prop
  | .lst _, us, i, v => us.toArray[i]? = some v
  | .tup _, us, i, v => us.toArray[i]? = some v
  | .str x _, _, i, v => ∃ c u, x.cps[i]? = some c ∧ v = .str ⟨#[c]⟩ u
def Sk.n : Sk → List Value → Nat
  | .lst _, us => us.toArray.size
  | .tup _, us => us.toArray.size
  | .str x _, _ => x.cps.size
def Sk.at (K : PySem.W.Frag) : Sk → Hp → List V → Prop
  | .lst a, H, xs => SqL K H a xs
  | .tup a, H, xs => SqT K H a xs
  | .str x _, _, xs => xs = x.cps.toList.map fun c => V.str ⟨#[c]⟩
theorem vals_back : ∀ {xs : List V} {us : List Value} {i : Nat} {u : Value}, Vals xs us → us[i]? = some u → ∃ x, xs[i]? = some x ∧ RelV x u
  | _, _, _, _, .nil, e => by simp at e
  | _, _, 0, _, .cons r _, e => by simp at e; subst e; exact ⟨_, rfl, r⟩
  | _, _, i + 1, u, .cons _ t, e => by
    obtain ⟨x, h1, h2⟩ := vals_back (i := i) (u := u) t (by simpa using e)
    exact ⟨x, by simpa using h1, h2⟩
theorem sk_ok {X : Cx} {pins : List (Addr × Obj)} {σ : St} {H : Hp} {s : Shared} {k : Sk} {xs : List V} (I : Inv X pins σ H s) (h : k.at X.K H xs) :
    ∃ us, k.seq us s.heap ∧ (∀ i v, k.P us i v → ∃ w, xs[i]? = some w ∧ RelV w v) ∧ k.n us = xs.length ∧ ∀ a ∈ k.ad, a < s.heap.objs.size := by
  cases k with
  | lst a =>
    obtain ⟨its, r, p, _⟩ := I.list h
    refine ⟨its, p.isList, fun i v e => ?_, by show its.toArray.size = _; rw [List.size_toArray, r.length], fun b hb => ?_⟩
    · obtain ⟨w, h1, h2⟩ := vals_back r (i := i) (u := v) (by simpa [Sk.P] using e)
      exact ⟨w, h1, h2⟩
    · have : b = a := by simpa [Sk.ad] using hb
      rw [this]; exact p.lt
  | tup a =>
    obtain ⟨its, r, p, _⟩ := I.tuple h
    refine ⟨its, p, fun i v e => ?_, by show its.toArray.size = _; rw [List.size_toArray, r.length], fun b hb => ?_⟩
    · obtain ⟨w, h1, h2⟩ := vals_back r (i := i) (u := v) (by simpa [Sk.P] using e)
      exact ⟨w, h1, h2⟩
    · have : b = a := by simpa [Sk.ad] using hb
      rw [this]; exact p.lt
  | str x t =>
    have h : xs = x.cps.toList.map fun c => V.str ⟨#[c]⟩ := h
    subst h
    refine ⟨[], trivial, fun i v ⟨c, u, e1, e2⟩ => ⟨.str ⟨#[c]⟩, by rw [List.getElem?_map, Array.getElem?_toList, e1]; rfl, u, e2⟩, by show x.cps.size = _; simp, fun b hb => by simp [Sk.ad] at hb⟩
theorem sk_draws {prog : Program} {w : World} {A : Around} {k : Sk} {us : List Value} {it : Addr} (hh : A.handled = none) (hn : it ∉ k.ad) : Draws prog w A it (it :: k.ad) (k.n us) (k.P us) (fun i h => k.it it i h ∧ k.seq us h) := by
  cases k with
  | lst a => exact Draws.list hh it a (fun z => hn (by simp [Sk.ad, z])) us.toArray
  | tup a => exact Draws.tuple hh it a (fun z => hn (by simp [Sk.ad, z])) us.toArray
  | str x t =>
    have d := Draws.text (prog := prog) (w := w) hh it x t
    exact ⟨fun i h st => d.live i h st.1, fun i h h' st k => ⟨d.frame i h h' st.1 k, trivial⟩, fun i s Q E hi st hQ => d.item i s Q E hi st.1 fun x h' tk h1 h2 => hQ x h' tk h1 ⟨h2, trivial⟩, fun s Q E st hE => d.done s Q E st.1 hE⟩
theorem sk_begins (k : Sk) (us : List Value) : Begins k.val k.ob (k.seq us) := by
  cases k with
  | lst a => exact begins_list a us.toArray
  | tup a => exact begins_tuple a us.toArray
  | str x t => exact begins_text x t
theorem sk_it0 {k : Sk} {h : Heap} {it : Addr} (e : h.get? it = some k.ob) : k.it it 0 h := by
  cases k with
  | lst a => exact ⟨_, e, rfl, rfl⟩
  | tup a => exact ⟨_, e, rfl, rfl⟩
  | str x t => exact ⟨_, e, rfl, rfl⟩
theorem sk_at {k : Sk} {h h' : Heap} {it : Addr} {i : Nat} (st : k.it it i h) (e : ∀ o, h.get? it = some o → h'.get? it = some o) : k.it it i h' := by
  cases k with
  | lst a => obtain ⟨o, ho, r⟩ := st; exact ⟨o, e o ho, r⟩
  | tup a => obtain ⟨o, ho, r⟩ := st; exact ⟨o, e o ho, r⟩
  | str x t => obtain ⟨o, ho, r⟩ := st; exact ⟨o, e o ho, r⟩
theorem sk_obj {k : Sk} {h : Heap} {it : Addr} {i : Nat} (st : k.it it i h) : ∃ o, h.get? it = some o ∧ ∀ v, o.data ≠ .cell v := by
  cases k with
  | lst a => obtain ⟨o, ho, _, d⟩ := st; exact ⟨o, ho, fun v z => by rw [d] at z; cases z⟩
  | tup a => obtain ⟨o, ho, _, d⟩ := st; exact ⟨o, ho, fun v z => by rw [d] at z; cases z⟩
  | str x t => obtain ⟨o, ho, _, d⟩ := st; exact ⟨o, ho, fun v z => by rw [d] at z; cases z⟩
/-- zip's walk over fixed items -/
def ItZ (K : PySem.W.Frag) (k1 k2 : Sk) (xs ys : List V) : It :=
  ⟨fun i H => k1.at K H xs ∧ k2.at K H ys ∧ i < min xs.length ys.length, fun i H v H' => ∃ T x y, v = .ref T ∧ H T = none ∧ H' = upd H T (.tup [x, y]) ∧ xs[i]? = some x ∧ ys[i]? = some y, fun i H => k1.at K H xs ∧ k2.at K H ys ∧ i = min xs.length ys.length⟩
structure ApZ (z TI TO i1 i2 : Addr) (k1 k2 : Sk) : Prop where
  TIz : TI ≠ z
  TOz : TO ≠ z
  TITO : TI ≠ TO
  TIi1 : TI ≠ i1
  TIi2 : TI ≠ i2
  i1z : i1 ≠ z
  i2z : i2 ≠ z
  i1TO : i1 ≠ TO
  i2TO : i2 ≠ TO
  i12 : i1 ≠ i2
  a1 : ∀ c ∈ k1.ad, c ≠ z ∧ c ≠ TI ∧ c ≠ TO ∧ c ≠ i1 ∧ c ≠ i2
  a2 : ∀ c ∈ k2.ad, c ≠ z ∧ c ≠ TI ∧ c ≠ TO ∧ c ≠ i1 ∧ c ≠ i2
theorem turnZ {P : Program} {w : World} {K : PySem.W.Frag} {elts : List Expr} {kk : Nat} {tpos : Pos} {z TI TO i1 i2 : Addr} {k1 k2 : Sk} {xs ys : List V} (D : ApZ z TI TO i1 i2 k1 k2) :
    Turn P w K (.Tuple elts kk tpos) (ItZ K k1 k2 xs ys) [z, TI, TO, i1, i2] z (fun i h => IsZip h z TI TO .none ∧ IsTupOf2 h TI (.ref i1) (.ref i2) ∧ (∃ u1 u2, IsTupOf2 h TO u1 u2) ∧ k1.it i1 i h ∧ k2.it i2 i h) := by
  have n1 : i1 ∉ k1.ad := fun m => (D.a1 _ m).2.2.2.1 rfl
  have n2 : i2 ∉ k2.ad := fun m => (D.a2 _ m).2.2.2.2 rfl
  have S : ZipSep2 z TI TO i1 i2 (i1 :: k1.ad) (i2 :: k2.ad) := by
    refine ⟨D.TIz, D.TOz, D.TITO, D.TIi1, List.mem_cons_self, ?_, ?_, D.TIi2, List.mem_cons_self, ?_, ?_, ?_, ?_⟩
    · exact fun m => (List.mem_cons.mp m).elim (fun q => D.i1z q.symm) fun q => (D.a1 _ q).1 rfl
    · exact fun m => (List.mem_cons.mp m).elim (fun q => D.i1TO q.symm) fun q => (D.a1 _ q).2.2.1 rfl
    · exact fun m => (List.mem_cons.mp m).elim (fun q => D.i2z q.symm) fun q => (D.a2 _ q).1 rfl
    · exact fun m => (List.mem_cons.mp m).elim (fun q => D.i2TO q.symm) fun q => (D.a2 _ q).2.2.1 rfl
    · exact fun m => (List.mem_cons.mp m).elim (fun q => D.i12 q) fun q => (D.a2 _ q).2.2.2.1 rfl
    · exact fun m => (List.mem_cons.mp m).elim (fun q => D.i12 q.symm) fun q => (D.a1 _ q).2.2.2.2 rfl
  refine ⟨by simp, fun i h st c hc => ?_, fun i h h' st k => ?_, ?_, ?_, fun A i s Q E st h => wpAny_pyIter_zip st.1 h⟩
  · obtain ⟨hz, hTI, ⟨u1, u2, hTO⟩, h1, h2⟩ := st
    have e' : c = z ∨ c = TI ∨ c = TO ∨ c = i1 ∨ c = i2 := by simpa using hc
    rcases e' with q | q | q | q | q
    · rw [q]; exact ⟨_, hz, fun v q => nomatch q⟩
    · rw [q]; exact ⟨_, hTI, fun v q => nomatch q⟩
    · rw [q]; exact ⟨_, hTO, fun v q => nomatch q⟩
    · rw [q]; exact sk_obj h1
    · rw [q]; exact sk_obj h2
  · obtain ⟨hz, hTI, ⟨u1, u2, hTO⟩, h1, h2⟩ := st
    exact ⟨k z (by simp) _ hz, k TI (by simp) _ hTI, ⟨u1, u2, k TO (by simp) _ hTO⟩, sk_at h1 fun o q => k i1 (by simp) o q, sk_at h2 fun o q => k i2 (by simp) o q⟩
  · intro X hP hw hK hc i pins s σ H E I hf st hg
    subst hP hw hK
    obtain ⟨g1, g2, hi⟩ := hg
    obtain ⟨us, q1, r1, l1, b1⟩ := sk_ok I g1
    obtain ⟨vs, q2, r2, l2, b2⟩ := sk_ok I g2
    obtain ⟨hz, hTI, hTO, h1, h2⟩ := st
    have G := GoesN.zip2 (prog := X.prog) (w := X.w) (A := X.A) (elts := elts) (x1 := kk) (pos := tpos) S (sk_draws (prog := X.prog) (w := X.w) (A := X.A.in1) (k := k1) (us := us) (I.ok.hd hc) n1) (sk_draws (prog := X.prog) (w := X.w) (A := X.A.in1) (k := k2) (us := vs) (I.ok.hd hc) n2)
    have lt : ∀ c ∈ [z, TI, TO, i1, i2], c < s.heap.objs.size := fun c hcm => by
      have e' : c = z ∨ c = TI ∨ c = TO ∨ c = i1 ∨ c = i2 := by simpa using hcm
      rcases e' with q | q | q | q | q
      · rw [q]; exact Heap.lt_size hz
      · rw [q]; exact Heap.lt_size hTI
      · rw [q]; obtain ⟨_, _, e⟩ := hTO; exact Heap.lt_size e
      · rw [q]; obtain ⟨_, e, _⟩ := sk_obj h1; exact Heap.lt_size e
      · rw [q]; obtain ⟨_, e, _⟩ := sk_obj h2; exact Heap.lt_size e
    refine G.goes i s _ E (by rw [l1, l2]; exact hi) ⟨hz, hTI, hTO, ⟨h1, q1⟩, ⟨h2, q2⟩⟩ fun v h' tk y st' kept _ => ?_
    obtain ⟨T, u1, u2, rfl, hT, p1, p2, tup⟩ := y
    obtain ⟨w1, e1, rr1⟩ := r1 i u1 p1
    obtain ⟨w2, e2, rr2⟩ := r2 i u2 p2
    obtain ⟨hz', hTI', hTO', h1', h2'⟩ := st'
    have I1 : Inv X pins σ (upd H T (.tup [w1, w2])) { s with heap := h', toks := tk } :=
      I.turnedNew (ch := [z, TI, TO, i1, i2]) (fun c o hb q => kept c o (fun m => hb (by
        have e' : c = z ∨ c = TO ∨ c = i1 ∨ c = i2 := by simpa using m
        rcases e' with q | q | q | q <;> rw [q] <;> simp)) q) hf hT ⟨by show 2 ≤ sizeLine; decide, [u1, u2], .cons rr1 (.cons rr2 .nil), tup⟩
    refine ⟨.ref T, _, I1, rfl, ⟨T, w1, w2, rfl, I.hok.fresh hT, rfl, e1, e2⟩, ⟨hz', hTI', hTO', h1'.1, h2'.1⟩, fun c hcm => ?_⟩
    rw [upd_ne (Nat.ne_of_lt (Nat.lt_of_lt_of_le (lt c hcm) hT))]
    exact (hf c hcm).1
  · intro X hP hw hK hc i pins s σ H E I hf st hg
    subst hP hw hK
    obtain ⟨g1, g2, hi⟩ := hg
    obtain ⟨us, q1, r1, l1, b1⟩ := sk_ok I g1
    obtain ⟨vs, q2, r2, l2, b2⟩ := sk_ok I g2
    obtain ⟨hz, hTI, hTO, h1, h2⟩ := st
    have G := GoesN.zip2 (prog := X.prog) (w := X.w) (A := X.A) (elts := elts) (x1 := kk) (pos := tpos) S (sk_draws (prog := X.prog) (w := X.w) (A := X.A.in1) (k := k1) (us := us) (I.ok.hd hc) n1) (sk_draws (prog := X.prog) (w := X.w) (A := X.A.in1) (k := k2) (us := vs) (I.ok.hd hc) n2)
    have hi' : min (k1.n us) (k2.n vs) = i := by rw [l1, l2]; exact hi.symm
    rw [hi'] at G
    refine G.stops s _ E ⟨hz, hTI, hTO, ⟨h1, q1⟩, ⟨h2, q2⟩⟩ fun h' tk kept _ => ?_
    exact I.turnedL (ch := [z, TI, TO, i1, i2]) (fun c o hb q => kept c o (fun m => hb (by
        have e' : c = z ∨ c = TO ∨ c = i1 ∨ c = i2 := by simpa using m
        rcases e' with q | q | q | q <;> rw [q] <;> simp)) q) hf
theorem zipD_len : ∀ {xs ys : List D}, (zipD xs ys).length = min xs.length ys.length
  | [], _ => by simp [zipD]
  | _ :: _, [] => by simp [zipD]
  | x :: xs, y :: ys => by
    show (zipD xs ys).length + 1 = _
    rw [zipD_len, List.length_cons, List.length_cons]
    omega
theorem zipD_get : ∀ {xs ys : List D} {i : Nat} {x y : D}, xs[i]? = some x → ys[i]? = some y → (zipD xs ys)[i]? = some (.tup [x, y])
  | x :: xs, y :: ys, 0, _, _, h1, h2 => by simp at h1 h2; subst h1; subst h2; rfl
  | x :: xs, y :: ys, i + 1, _, _, h1, h2 => by
    show (zipD xs ys)[i]? = _
    exact zipD_get (by simpa using h1) (by simpa using h2)
section
variable {X : Cx} {b : B0} {W : WX} {U : Wd} {pos p tpos : Pos}
theorem sk_of {ρ : List Addr} {G : Hp} {v : V} {d : D} {u : Value} {ds : List D} (r : RV U ρ G v d) (ru : RelV v u) (h : itemsF d = some ds) : ∃ (k : Sk) (xs : List V), k.val = u ∧ (∀ H', Sub G H' → k.at U.K H' xs) ∧ RepL U G xs ds := by
  cases d with
  | tup es =>
    cases h
    cases r.isP rfl with
    | tup ha l => exact ⟨.tup _, _, by cases ru; rfl, fun H' hs => hs.sqT ha, l⟩
  | lst es =>
    cases h
    cases r.isP rfl with
    | lst ha l => exact ⟨.lst _, _, by cases ru; rfl, fun H' hs => SqL.of (hs _ _ ha), l⟩
  | slst es =>
    cases h
    cases r.isP rfl with
    | slst ha l => exact ⟨.lst _, _, by cases ru; rfl, fun H' hs => hs.sqL ha, l⟩
  | str z =>
    cases h
    cases r.isP rfl
    obtain ⟨t, rfl⟩ := ru
    refine ⟨.str z t, _, rfl, fun H' hs => rfl, ?_⟩
    have : ∀ cs : List Nat, RepL U G (cs.map fun c => V.str ⟨#[c]⟩) (cs.map fun c => D.str ⟨#[c]⟩) := fun cs => by
      induction cs with
      | nil => exact .nil
      | cons c cs ih => exact .cons (.str _) ih
    exact this _
  | _ => cases h
theorem walkD_zip {k1 k2 : Sk} {xs ys : List V} {ds es : List D} {G0 : Hp} (h1 : ∀ H', Sub G0 H' → k1.at U.K H' xs) (h2 : ∀ H', Sub G0 H' → k2.at U.K H' ys) (l1 : RepL U G0 xs ds) (l2 : RepL U G0 ys es) : WalkD U G0 (ItZ U.K k1 k2 xs ys) (zipD ds es) := by
  have e1 := l1.length
  have e2 := l2.length
  refine ⟨fun i H hi hs => ⟨h1 H hs, h2 H hs, ?_⟩, fun H hs => ⟨h1 H hs, h2 H hs, ?_⟩, fun i H v H' hi hs y => ?_⟩
  · rw [zipD_len] at hi; omega
  · rw [zipD_len]; omega
  · obtain ⟨T, x, y, rfl, hT, rfl, q1, q2⟩ := y
    obtain ⟨d, f1, r1⟩ := l1.get' q1
    obtain ⟨e, f2, r2⟩ := l2.get' q2
    refine ⟨_, zipD_get f1 f2, .inr ⟨T, _, hT, (fun ps z => by cases z), rfl, fun G hg hGT => ?_⟩⟩
    exact .tup (SqT.of upd_same) (.cons (r1.mono (hg.trans (sub_upd hGT))) (.cons (r2.mono (hg.trans (sub_upd hGT))) .nil))
def zipR (ds : List D) (μ : Sto) : R (List D) := match ds with
  | [x, y] => (match itemsF x, itemsF y with
    | some xs, some ys => .ok (zipD xs ys) μ
    | _, _ => .no)
  | _ => .no
theorem ji_zip {e e2 : Expr} {elts : List Expr} {kk : Nat} {ms : Sl → Sto → R (List D)} (hX : XU X U) (hg : Gl X "zip") (hm : X.mg "zip" = none) (ha : JA X U b W [e, e2] ms) (hs : PySem.W.isStarred e = false) (hs2 : PySem.W.isStarred e2 = false) :
    JI X U b W (.Tuple elts kk tpos) (.Call (.Name "zip" p) [e, e2] [] pos) fun sl μ => (ms sl μ).bind zipR := by
  refine ⟨fun pins s σ H R I h => ?_⟩
  obtain ⟨sl, μ, ρ, G, S, pp⟩ := h
  have hpl : (backTo pos (starEach [e2] X.env)).any (·.1) = false := noStar_any pos X.env (by simp [noStar, hs2])
  refine Call_ (ld_blt I hg hm PyProof.Rows.boot_zip (PyProof.Rows.callWith_type1 (thn (ha.run pos pins s σ H (fun vs H1 => ∃ ds μ1 ρ1 G1, SR U b sl μ1 ρ1 G1 σ H1 ∧ RVL U ρ1 G1 vs ds ∧ PoI U b W sl ρ1 G1 σ R (zipR ds μ1)) I (rd_argsI S pp fun ds μ1 vs H1 ρ1 G1 s1 ra p1 => ⟨ds, μ1, ρ1, G1, s1, ra, p1⟩)) fun us s1 ⟨vs, H1, I1, rr, ds, μ1, ρ1, G1, S1, ra, p1⟩ => ?_) (star_not hs [e2] X.env) hpl))
  unfold zipR at p1
  split at p1
  · rename_i x y
    split at p1
    · rename_i xs ys ex ey
      cases ra with
      | cons r1 rn =>
      cases rn with
      | cons r2 rn =>
      cases rn
      obtain ⟨u1, u2, rfl, w1, w2⟩ := vals2 rr
      obtain ⟨k1, xs', ev1, at1, l1⟩ := sk_of r1 w1 ex
      obtain ⟨k2, ys', ev2, at2, l2⟩ := sk_of r2 w2 ey
      subst ev1
      subst ev2
      have A1 := at1 H1 S1.h.sub
      have A2 := at2 H1 S1.h.sub
      rw [← hX.K] at A1 A2
      obtain ⟨us1, q1, _, _, b1⟩ := sk_ok I1 A1
      obtain ⟨us2, q2, _, _, b2⟩ := sk_ok I1 A2
      refine zip_begins2 (sk_begins k1 us1) (sk_begins k2 us2) q1 q2 fun h' hz hTI hTO h1 h2 hsz hk => wpAny_pyIter_zip hz ?_
      have I2 : Inv X pins σ H1 { s1 with heap := h' } := I1.kept (t' := s1.toks) hk
      have fresh5 : ∀ c, c ∈ [s1.heap.objs.size + 4, s1.heap.objs.size + 2, s1.heap.objs.size + 3, s1.heap.objs.size, s1.heap.objs.size + 1] → FpOk X pins H1 c := fun c hcm => by
        have hle : s1.heap.objs.size ≤ c := by
          have e' : c = s1.heap.objs.size + 4 ∨ c = s1.heap.objs.size + 2 ∨ c = s1.heap.objs.size + 3 ∨ c = s1.heap.objs.size ∨ c = s1.heap.objs.size + 1 := by simpa using hcm
          rcases e' with q | q | q | q | q <;> rw [q] <;> first | exact Nat.le_refl _ | exact Nat.le_add_right _ _
        exact I1.fpOk hle (I1.hok.fresh hle)
      have ap : ApZ (s1.heap.objs.size + 4) (s1.heap.objs.size + 2) (s1.heap.objs.size + 3) s1.heap.objs.size (s1.heap.objs.size + 1) k1 k2 := by
        refine ⟨by simp, by simp, by simp, by simp, by simp, by simp, by simp, by simp, by simp, by simp, fun c hc => ?_, fun c hc => ?_⟩
        · have := b1 c hc
          exact ⟨Nat.ne_of_lt (Nat.lt_of_lt_of_le this (Nat.le_add_right _ _)), Nat.ne_of_lt (Nat.lt_of_lt_of_le this (Nat.le_add_right _ _)), Nat.ne_of_lt (Nat.lt_of_lt_of_le this (Nat.le_add_right _ _)), Nat.ne_of_lt this, Nat.ne_of_lt (Nat.lt_of_lt_of_le this (Nat.le_add_right _ _))⟩
        · have := b2 c hc
          exact ⟨Nat.ne_of_lt (Nat.lt_of_lt_of_le this (Nat.le_add_right _ _)), Nat.ne_of_lt (Nat.lt_of_lt_of_le this (Nat.le_add_right _ _)), Nat.ne_of_lt (Nat.lt_of_lt_of_le this (Nat.le_add_right _ _)), Nat.ne_of_lt this, Nat.ne_of_lt (Nat.lt_of_lt_of_le this (Nat.le_add_right _ _))⟩
      refine ⟨s1.heap.objs.size + 4, [s1.heap.objs.size + 4, s1.heap.objs.size + 2, s1.heap.objs.size + 3, s1.heap.objs.size, s1.heap.objs.size + 1], _, ItZ X.K k1 k2 xs' ys', H1, rfl, I2, turnZ ap, ⟨hz, hTI, ⟨_, _, hTO⟩, sk_it0 h1, sk_it0 h2⟩, fresh5, ?_⟩
      rw [hX.K]
      exact p1 _ _ _ _ S1 (List.prefix_refl _) (Sub.refl _) (walkD_zip at1 at2 l1 l2)
    · exact p1.elim
  · exact p1.elim
/-- enumerate(list) -/
def enuR (ds : List D) (μ : Sto) : R (List D) := match ds with
  | [.lst xs] => .ok (enuD 0 xs) μ
  | [.slst xs] => .ok (enuD 0 xs) μ
  | _ => .no
theorem enuD_len : ∀ {xs : List D} {n : Nat}, (enuD n xs).length = xs.length
  | [], _ => rfl
  | _ :: xs, n => by show (enuD (n + 1) xs).length + 1 = _; rw [enuD_len, List.length_cons]
theorem enuD_get : ∀ {xs : List D} {n i : Nat} {x : D}, xs[i]? = some x → (enuD n xs)[i]? = some (.tup [.int ((n + i : Nat) : Int), x])
  | x :: xs, n, 0, _, h => by simp at h; subst h; simp [enuD]
  | x :: xs, n, i + 1, y, h => by
    show (enuD (n + 1) xs)[i]? = _
    rw [enuD_get (by simpa using h)]
    congr 5
    omega
theorem walkD_enum {a : Addr} {xs : List V} {ds : List D} {G0 : Hp} (h : SqL U.K G0 a xs) (l : RepL U G0 xs ds) : WalkD U G0 (Ite U.K a) (enuD 0 ds) := by
  unfold WalkD
  rw [enuD_len, ← l.length]
  refine walk_enum.mono (fun H hs => hs.sqL h) fun i H v H' hi hs y => ?_
  obtain ⟨T, x, y, rfl, hT, rfl, q1, q2⟩ := y
  cases q1
  obtain ⟨d, f1, r1⟩ := l.get' q2
  refine ⟨_, enuD_get f1, .inr ⟨T, _, hT, (fun ps z => by cases z), rfl, fun G hg hGT => ?_⟩⟩
  rw [Nat.zero_add]
  exact .tup (SqT.of upd_same) (.cons (.int _) (.cons (r1.mono (hg.trans (sub_upd hGT))) .nil))
theorem ji_enum {e : Expr} {elts : List Expr} {kk : Nat} {ms : Sl → Sto → R (List D)} (hX : XU X U) (hg : Gl X "enumerate") (hm : X.mg "enumerate" = none) (ha : JA X U b W [e] ms) (hs : PySem.W.isStarred e = false) :
    JI X U b W (.Tuple elts kk tpos) (.Call (.Name "enumerate" p) [e] [] pos) fun sl μ => (ms sl μ).bind enuR := by
  refine PI.imp (pi_enum hg hm ha (star_not hs [] X.env)) fun σ H Q h => ?_
  obtain ⟨sl, μ, ρ, G, s, pp⟩ := h
  refine rd_argsI s pp fun ds μ1 vs H1 ρ1 G1 s1 ra p1 => ?_
  unfold enuR at p1
  split at p1
  · cases ra with
    | cons r rn =>
    cases rn
    cases r.isP rfl with
    | lst h1 l => exact ⟨_, _, rfl, SqL.of (s1.h.sub _ _ h1), by rw [hX.K]; exact p1 _ _ _ _ s1 (List.prefix_refl _) (Sub.refl _) (walkD_enum (SqL.of h1) l)⟩
  · cases ra with
    | cons r rn =>
    cases rn
    cases r.isP rfl with
    | slst h1 l => exact ⟨_, _, rfl, by rw [hX.K]; exact s1.h.sub.sqL h1, by rw [hX.K]; exact p1 _ _ _ _ s1 (List.prefix_refl _) (Sub.refl _) (walkD_enum h1 l)⟩
  · exact p1.elim
end
end Q
/-! Q33: more statements; tests by comparisons. -/
namespace Q
open PySem PySem.Spec PyProof.Rows L2
section
variable {X : Cx} {b : B0} {W : WX} {U : Wd} {pos px py pt pt2 : Pos}
/-- a comparison as a test -/
theorem jt_cmpJ' {a c : Expr} {op : CmpOp} {ma mc : Sl → Sto → R D} {ψ : D → D → Sto → R D} (hX : XU X U) (ho : OpJ X U b W (compareOp op) ψ) (ha : JE X U b W a ma) (hc : JE X U b W c mc) (hm : behindInMarks op c = false) :
    JT X U b W (.Compare a [op] [c] pos) fun sl μ => tst ((ma sl μ).bind fun d μ => (mc sl μ).bind fun e μ => ψ d e μ) := by
  refine ⟨fun pins s σ H Q I h => ?_⟩
  obtain ⟨sl, μ, ρ, G, S, p⟩ := h
  have conv : ∀ {r : R D} {ρ : List Addr} {G : Hp}, PoT U b W sl ρ G σ Q (tst r) → PoE U b W sl ρ G σ (fun v H' => ∃ k, TruV X.K v H' k ∧ Q k H') r := fun {r ρ G} p => by
    cases r with
    | no => exact p
    | ex x μ' => exact p
    | ok d μ' =>
      intro v H' ρ' G' s' h1 h2 rv
      obtain ⟨k, hk, pp⟩ := PoT.of (show PoT U b W sl ρ G σ Q (R.of (truth μ' d) μ') from p)
      exact ⟨k, tru_rep hX s' rv hk, pp H' ρ' G' s' h1 h2⟩
  have p := conv p
  refine wpAny_isTrue_Compare1 (thn (ha.run pins s σ H (fun x H1 => ∃ d μ1 ρ1 G1, SR U b sl μ1 ρ1 G1 σ H1 ∧ RV U ρ1 G1 x d ∧ PoE U b W sl ρ1 G1 σ (fun v H' => ∃ k, TruV X.K v H' k ∧ Q k H') ((mc sl μ1).bind fun e μ => ψ d e μ)) I (rd_step (α := Unit) S p fun d μ1 v H1 ρ1 G1 s1 _ _ rv p1 => ⟨d, μ1, ρ1, G1, s1, rv, p1⟩)) fun v s1 ⟨x, H1, I1, r1, d, μ1, ρ1, G1, S1, rv, p1⟩ => ?_) hm
  refine thn (hc.run pins s1 σ H1 (fun y H2 => ∃ e μ2 ρ2 G2, SR U b sl μ2 ρ2 G2 σ H2 ∧ RV U ρ2 G2 x d ∧ RV U ρ2 G2 y e ∧ PoE U b W sl ρ2 G2 σ (fun v H' => ∃ k, TruV X.K v H' k ∧ Q k H') (ψ d e μ2)) I1 (rd_step (α := Unit) S1 p1 fun e μ2 w H2 ρ2 G2 s2 hr hg rw p2 => ⟨e, μ2, ρ2, G2, s2, rv.mono hr hg, rw, p2⟩)) fun u s2 ⟨y, H2, I2, r2, e, μ2, ρ2, G2, S2, rv2, rw2, p2⟩ => ?_
  refine thn (ho pins s2 σ H2 x y v u _ sl μ2 ρ2 G2 d e I2 r1 r2 S2 rv2 rw2 p2) fun c s3 ⟨z, H3, I3, r3, k, tz, q3⟩ => ?_
  exact tru_ok pins s3 σ H3 z c Q I3 r3 ⟨k, tz, q3⟩
/-! ### while -/
theorem js_while {c : Expr} {body : List Stmt} {mt : Sl → Sto → R Bool} {mb : Sl → Sto → O} (n : Nat) (hp : PassesOwn (model X.prog X.w) X.A X.env X.xe) (hc : JT X U b W c mt) (hb : JSs X U b W body mb) : JS X U b W (.While c body [] pos) fun sl μ => whiO mt mb n sl μ := by
  refine PS.imp (ps_while hp hc hb) fun Dn σ H h => ?_
  obtain ⟨sl, μ, ρ, G, s, p⟩ := h
  refine ⟨fun m σ H => ∃ sl μ ρ G, SR U b sl μ ρ G σ H ∧ PoS U b W ρ G Dn (whiO mt mb m sl μ), ⟨n, sl, μ, ρ, G, s, p⟩, ?_⟩
  rintro m σ H ⟨sl, μ, ρ, G, s, p⟩
  cases m with
  | zero => exact p.elim
  | succ m =>
    unfold whiO at p
    refine rd_testS s p fun k μ1 H1 ρ1 G1 s1 hr hg p1 => ?_
    cases k with
    | false => rw [if_neg Bool.false_ne_true] at p1 ⊢; exact PoS.nx p1 s1
    | true =>
      rw [if_pos rfl] at p1 ⊢
      refine ⟨fun σ' H' => ∃ sl μ ρ G, SR U b sl μ ρ G σ' H' ∧ PoS U b W ρ G Dn (whiO mt mb m sl μ), fun σ' H' h => ⟨m, Nat.lt_succ_self _, h⟩, sl, μ1, ρ1, G1, s1, ?_⟩
      cases eb : mb sl μ1 with
      | nx sl2 μ2 => simp only [eb] at p1; exact fun σ' H' ρ' G'' s3 h1 h2 => ⟨sl2, μ2, ρ', G'', s3, PoS.mono h1 h2 p1⟩
      | ct sl2 μ2 => simp only [eb] at p1; exact fun σ' H' ρ' G'' s3 h1 h2 => ⟨sl2, μ2, ρ', G'', s3, PoS.mono h1 h2 p1⟩
      | bk sl2 μ2 => simp only [eb] at p1; exact p1
      | rt d μ2 => simp only [eb] at p1; exact p1
      | ex x sl2 μ2 => simp only [eb] at p1; exact p1
      | no => simp only [eb] at p1; exact p1
/-! ### a, b = x, y -/
def parOk (sc : Scope) (x y : Str) (px py : Pos) (a c : Expr) : Bool := decide (sc.kind = .function) && decide (sc.names.lookup x = some .local) && decide (sc.names.lookup y = some .local) && py.line == px.line && !(x == y) && !PySem.W.isStarred a && !PySem.W.isStarred c && !([a, c].all (foldedForSure 8)) && !([a, c].all (constantsAlone 8))
def parO (i j : Nat) (sl : Sl) (ds : List D) (μ : Sto) : O := match ds with
  | [d, e] => .nx ((sl.set i (some d)).set j (some e)) μ
  | _ => .no
theorem sw_par {x y : Str} {a c : Expr} {kt k2 : Nat} {env : Env} (h : parOk env.scope x y px py a c = true) : swappedStores [.Tuple [.Name x px, .Name y py] kt pt] (.Tuple [a, c] k2 pt2) env = pure (some [x, y]) := by
  unfold parOk at h
  simp only [Bool.and_eq_true, decide_eq_true_eq, Bool.not_eq_true', beq_iff_eq, beq_eq_false_iff_ne] at h
  obtain ⟨⟨⟨⟨⟨⟨⟨⟨h1, h2⟩, h3⟩, h4⟩, h5⟩, h6⟩, h7⟩, h8⟩, h9⟩ := h
  have hb : env.blockKind = .function := by unfold Env.blockKind; rw [h1]; rfl
  have st : ∀ {e : Expr}, PySem.W.isStarred e = false → (match e with | .Starred .. => true | _ => false) = false := fun {e} z => by cases e <;> first | rfl | cases z
  have k1 : env.kindOf x = some .local := h2
  have k2 : env.kindOf y = some .local := h3
  have e1 : ([a, c].any fun | .Starred .. => true | _ => false) = false := by
    show (PySem.W.isStarred a || (PySem.W.isStarred c || false)) = false
    rw [h6, h7]; rfl
  have e2 : (([.Name x px, .Name y py] : List Expr).filterMap fun | .Name id pos => if env.kindOf id == some .local && pos.line == px.line then some id else none | _ => none) = [x, y] := by
    simp [k1, k2, h4]
  have e3 : ([x, y].eraseDups).length = 2 := by
    have hn : (y == x) = false := by simpa using fun z => h5 z.symm
    simp [List.eraseDups_cons, hn]
  unfold swappedStores
  refine (if_neg (by rw [hb]; exact Bool.false_ne_true)).trans ?_
  refine (if_neg (fun z => Bool.false_ne_true (e1.symm.trans z))).trans ?_
  have key : ∀ names : List Str, names = [x, y] → (if (names.length != 2 || names.eraseDups.length != names.length) = true then (pure none : Sem (Option (List Str))) else if [a, c].all (foldedForSure 8) = true then pure none else if [a, c].all (constantsAlone 8) = true then unsupported "assign.tuple-of-constant-expressions:order-of-the-stores" else pure (some names)) = pure (some [x, y]) := fun names hn => by
    subst hn
    rw [if_neg (by rw [e3]; exact Bool.false_ne_true), if_neg (by rw [h8]; exact Bool.false_ne_true), if_neg (by rw [h9]; exact Bool.false_ne_true)]
  exact key _ e2
theorem js_par {i j : Nat} {x y : Str} {a c : Expr} {kt k2 : Nat} {ms : Sl → Sto → R (List D)} (hc : X.calm = true) (hN : X.N.Nodup) (hi : X.N[i]? = some x) (hj : X.N[j]? = some y) (h : parOk X.env.scope x y px py a c = true) (ha : JA X U b W [a, c] ms) :
    JS X U b W (.Assign [.Tuple [.Name x px, .Name y py] kt pt] (.Tuple [a, c] k2 pt2) pos) fun sl μ => seqO (ms sl μ) sl fun ds μ => parO i j sl ds μ := by
  have h' := h
  unfold parOk at h'
  simp only [Bool.and_eq_true, decide_eq_true_eq, Bool.not_eq_true', beq_iff_eq, beq_eq_false_iff_ne] at h'
  obtain ⟨⟨⟨⟨⟨⟨⟨⟨h1, h2⟩, h3⟩, h4⟩, h5⟩, h6⟩, h7⟩, h8⟩, h9⟩ := h'
  have hij : i ≠ j := fun z => by subst z; rw [hi] at hj; exact h5 (Option.some.inj hj)
  refine PS.imp (ps_par hc hN hi hj hij h2 h3 ha (sw_par h)) fun Dn σ H h => ?_
  obtain ⟨sl, μ, ρ, G, s, p⟩ := h
  refine rd_argsS s p fun ds μ1 vs H1 ρ1 G1 s1 hr hg ra p1 => ?_
  unfold parO at p1
  split at p1
  · cases ra with
    | cons r1 rn =>
    cases rn with
    | cons r2 rn =>
    cases rn
    exact ⟨_, _, rfl, PoS.nx p1 ((s1.set r1).set r2)⟩
  · exact p1.elim
/-- name = [elt for ..] -/
theorem js_setLc {i : Nat} {y : Str} {elt tg iter : Expr} {ifs : List Expr} {scope : Scope} {own : List (Str × Nat)} {t : T} {mi : Sl → Sto → R (List D)} {mt : Sl → Sto → R Bool} {me : Sl → Sto → R D} (hc : X.calm = true) (hN : X.N.Nodup) (hy : X.N[i]? = some y) (hyl : X.env.scope.names.lookup y = some .local) (hk : X.env.scope.kind = .function)
    (hl : (py.line == pt.line) = true) (hany : (scope.names.any fun (n, k) => n == y && (k == .local || k == .cell)) = false) (hi : JI X U b W tg iter mi) (ok : BlkOk X.N X.env.scope scope own)
    (hg : ∀ (s : Shared) (H : Hp) (C : Addr) (cl : List (Str × Addr)) (fp : List Addr), JG (X.blk s H scope (compEnvC scope cl C X.env) fp) U tg t) (ht : ∀ b (s : Shared) (H : Hp) (C : Addr) (cl : List (Str × Addr)) (fp : List Addr), JTs (X.blk s H scope (compEnvC scope cl C X.env) fp) U b W0 ifs mt)
    (he : ∀ b (s : Shared) (H : Hp) (C : Addr) (cl : List (Str × Addr)) (fp : List Addr), JE (X.blk s H scope (compEnvC scope cl C X.env) fp) U b W0 elt me) (hs : ∀ x, foldedSetIterable iter X.env x = pure x) (hv : ∀ i ∈ t.slots, i ∈ own.map (·.2)) :
    JS X U b W (.Assign [.Name y py] (.ListComp elt [⟨tg, iter, ifs, 0⟩] scope pt) pos) fun sl μ => seqO (lcR t (own.map (·.2)) (mi sl μ) mt me sl) sl fun d μ => .nx (sl.set i (some d)) μ := by
  refine PS.imp (ps_setLc (tt := fun σ H Q => ∃ b, RdT U b W0 mt σ H Q) (te := fun σ H Q => ∃ b, RdE U b W0 me σ H Q) hc hN hy hyl (sw_true hk hyl hl hany) hi ok hg (fun s H C cl fp => ⟨fun pins s' σ H' Q I ⟨b, q⟩ => (ht b s H C cl fp).run pins s' σ H' Q I q⟩) (fun s H C cl fp => ⟨fun pins s' σ H' Q I ⟨b, q⟩ => (he b s H C cl fp).run pins s' σ H' Q I q⟩) hs) fun Dn σ H h => ?_
  obtain ⟨sl, μ, ρ, G, s, p⟩ := h
  refine lc_read (W := W) (U := U) (b := b) hv (fun b σ H Q q => ⟨b, q⟩) (fun b σ H Q q => ⟨b, q⟩) ?_
  exact rd_stepS (m := fun sl μ => lcR t (own.map (·.2)) (mi sl μ) mt me sl) s p fun d μ1 v H1 ρ1 G1 s1 hr hg rv p1 => p1.nx (s1.set rv)
/-- (targets) = value -/
theorem js_unp {tg e : Expr} {t : T} {m : Sl → Sto → R D} (he : JE X U b W e m) (hg : JG X U tg t) (hc : isComp e = false) (hw : swappedStores [tg] e X.env = pure none) (h1 : (assignEach [tg] X.env).map (·.2) = [assign tg X.env]) :
    JS X U b W (.Assign [tg] e pos) fun sl μ => seqO (m sl μ) sl fun d μ => match setT t [d] sl with | some sl' => .nx sl' μ | none => .no := by
  refine PS.imp (ps_asg he hg (swaps_no hc _ _ _) hw h1) fun Dn σ H h => ?_
  obtain ⟨sl, μ, ρ, G, s, p⟩ := h
  refine rd_stepS s p fun d μ1 v H1 ρ1 G1 s1 hr hg rv p1 => ?_
  cases et : setT t [d] sl with
  | none => rw [et] at p1; exact p1.elim
  | some sl' => rw [et] at p1; exact ⟨b, sl, μ1, ρ1, G1, d, sl', s1, rv, et, fun σ2 s2 _ => PoS.nx p1 s2⟩
end
end Q
/-! Q34: sets of ints: a comprehension, set(list), sorted(set). -/
namespace Q
open PySem PySem.Spec PyProof.Rows L2
/-! ### the comprehension, whatever is gathered -/
/-- what a set under way holds: kd tells the thing at an address, st how an item changes it -/
structure Gat (X : Cx) (α : Type) where
  kd : Addr → α → HO
  z : α
  st : α → V → α → Prop
  new : ∀ (H : Hp) (h : Heap), ObjOk X.prog X.w H (h.push { cls := .type "set", dict := none, data := .set #[] 0 (.fresh 0 0 (!X.w.params.followText "set-order")) }) h.objs.size (kd h.objs.size z)
  add : ∀ (Y : Cx) (pins : List (Addr × Obj)) (σ : L2.St) (H : Hp) (s : Shared) (E : Value → Shared → Prop) (p : Addr) (a a' : α) (y : V) (v : Value) (Q : Value → Shared → Prop), Y.prog = X.prog → Y.w = X.w → Inv Y pins σ H s → H p = some (kd p a) → RelV y v → st a y a' → (∀ s', Inv Y pins σ (upd H p (kd p a')) s' → Q .none s') →
    wpAny (model Y.prog Y.w) Y.A (call (.builtin "set.add") [.ref p, v]) Q E s
section
variable {X : Cx} {α : Type}
def tGa (k : Gat X α) (wi : TI) (g : TG) (tt : TT) (te : TE) (vs : List Nat) : TE := fun σ H Q => wi σ H fun J H1 => ∀ p, H1 p = none → ∃ W : Nat → Nat → Hp → Prop, (∃ m, W 0 m (upd H1 p (k.kd p k.z))) ∧ ∀ i m H, W i m H →
  (J.stop i H ∧ Q (.ref p) H) ∨ (J.go i H ∧ ∃ Nx : Hp → Prop, (∀ H', Nx H' → ∃ m', m' < m ∧ W (i + 1) m' H') ∧ ∀ x H', J.yld i H x H' → g x (L2.wipe σ vs) H' fun σ2 H2 => L2.wipe σ2 vs = L2.wipe σ vs ∧ tt σ2 H2 fun b H3 =>
    if b = true then te σ2 H3 fun y H4 => ∃ a a', H4 p = some (k.kd p a) ∧ k.st a y a' ∧ Nx (upd H4 p (k.kd p a')) else Nx H3)
theorem pe_gat (k : Gat X α) {elt tg iter : Expr} {ifs : List Expr} {scope : Scope} {own : List (PySem.Str × Nat)} {pos : Pos} {wi : TI} {g : TG} {tt : TT} {te : TE} (hc : X.calm = true) (hN : X.N.Nodup) (hi : PI X tg iter wi) (ok : BlkOk X.N X.env.scope scope own)
    (hg : ∀ (s : Shared) (H : Hp) (C : Addr) (cl : List (PySem.Str × Addr)) (fp : List Addr), PG (X.blk s H scope (compEnvC scope cl C X.env) fp) tg g) (ht : ∀ (s : Shared) (H : Hp) (C : Addr) (cl : List (PySem.Str × Addr)) (fp : List Addr), PTs (X.blk s H scope (compEnvC scope cl C X.env) fp) ifs tt)
    (he : ∀ (s : Shared) (H : Hp) (C : Addr) (cl : List (PySem.Str × Addr)) (fp : List Addr), PE (X.blk s H scope (compEnvC scope cl C X.env) fp) elt te) (hs : ∀ x, foldedSetIterable iter X.env x = pure x) :
    PE X (.SetComp elt [⟨tg, iter, ifs, 0⟩] scope pos) (tGa k wi g tt te (own.map (·.2))) := by
  refine ⟨fun pins s σ H Q I h => ?_⟩
  have hfree : ∀ y ∈ scope.names, y.2 = .free → ∃ c, X.env.cells.lookup y.1 = some c := fun y hy e => (ok.free y hy e).elim (fun z => I.ok.has _ (.inl z)) fun z => I.ok.has _ (.inr z)
  rw [PpSet.eval_SetComp]
  refine wpAny_comprehension_free (use := none) rfl hs (closure_ok hfree) ok.kind (fun y hy e => by rw [ok.uniq y hy, e])
    (thn (hi.run pins s σ H _ I h) fun xv s1 hx => thn hx fun itv s2 h2 => ?_)
  obtain ⟨it, fp, tn, J, H2, e, I2, T, st2, f2, q⟩ := h2
  subst e
  refine PpSet.newSet_ok (newEnv_comp ?_)
  generalize hp : s2.heap.objs.size = p
  have pn : H2 p = none := I2.hok.fresh (Nat.le_of_eq hp)
  obtain ⟨W, ⟨m0, w0⟩, turn⟩ := q p pn
  generalize hs3 : ({ s2 with heap := s2.heap.push { cls := .type "set", dict := none, data := .set #[] 0 (.fresh 0 0 (!X.w.params.followText "set-order")) } } : Shared) = s3
  have h3 : s3.heap = s2.heap.push { cls := .type "set", dict := none, data := .set #[] 0 (.fresh 0 0 (!X.w.params.followText "set-order")) } := by rw [← hs3]
  have I3 : Inv X pins σ (upd H2 p (k.kd p k.z)) s3 := by
    rw [← hs3]
    refine I2.laid (t' := s2.toks) (fun b o e => Heap.get?_push_of_some _ e) (Nat.le_of_eq hp) ?_
    rw [← hp]
    exact k.new _ _
  have lt2 : ∀ b ∈ fp, b < s2.heap.objs.size := fun b hb => let ⟨o, e, _⟩ := T.obj _ _ st2 b hb; Heap.lt_size e
  have f3 : ∀ b ∈ fp, FpOk X pins (upd H2 p (k.kd p k.z)) b ∧ b < s3.heap.objs.size := fun b hb =>
    ⟨⟨by rw [upd_ne (by rw [← hp]; exact Nat.ne_of_lt (lt2 b hb))]; exact (f2 b hb).1, (f2 b hb).2⟩, by rw [h3, Heap.size_push]; exact Nat.lt_succ_of_lt (lt2 b hb)⟩
  have st3 : tn 0 s3.heap := T.keep _ _ _ st2 fun b _ o e => by rw [h3]; exact Heap.get?_push_of_some _ e
  have I4 := block_start I3 ok hN f3
  generalize hH3 : upd H2 p (k.kd p k.z) = H3 at I3 I4 w0 f3
  generalize hcc : cellsFrom (s3.heap.objs.size + 1) scope.names (cloFrom X.env.cells scope.names []) = cc at I4 ⊢
  have pg := hg s3 H3 s3.heap.objs.size cc fp
  have pt := ht s3 H3 s3.heap.objs.size cc fp
  have pe := he s3 H3 s3.heap.objs.size cc fp
  show codeAny _ _ (.compStart (.SetComp elt [⟨tg, iter, ifs, 0⟩] scope pos) 0 (.ref it) (.ref p) (compEnvC scope cc s3.heap.objs.size X.env)) (compPost (model X.prog X.w) X.A X.xe none _ (.ref p) s3.heap.objs.size) { s3 with heap := pushCells (s3.heap.push { cls := .type "dict", data := .dict #[] }) scope.names }
  generalize hce : compEnvC scope cc s3.heap.objs.size X.env = ce at I4 pg pt pe ⊢
  have cL : ce.locals = s3.heap.objs.size := by subst hce; rfl
  generalize hs4 : ({ s3 with heap := pushCells (s3.heap.push { cls := .type "dict", data := .dict #[] }) scope.names } : Shared) = s4 at I4 ⊢
  have st4 : tn 0 s4.heap := T.keep _ _ _ st3 fun b _ o e => by rw [← hs4]; exact pushCells_keeps _ _ _ _ (Heap.get?_push_of_some _ e)
  have stat : ∀ {σ' : L2.St} {H' : Hp} {s' : Shared}, Inv (X.blk s3 H3 scope ce fp) [] σ' H' s' → (∀ b ∈ fp, H' b = none) → ∀ b ∈ fp, FpOk (X.blk s3 H3 scope ce fp) [] H' b := fun I' hn b hb =>
    ⟨hn b hb, (I'.ok.exf b hb).1, I'.ok.exfs b hb, .inl hb, fun x c e => (I'.ok.exf b hb).2 x c e, fun z hz => absurd (show z ∈ ([] : List (Addr × Obj)) ++ [] from hz) (by simp)⟩
  have loop : codeAny (model X.prog X.w) X.A (.compLoop (.SetComp elt [⟨tg, iter, ifs, 0⟩] scope pos) 0 (.ref it) (.ref p) ce) (compPost (model X.prog X.w) X.A X.xe none (EP X pins σ Q) (.ref p) s3.heap.objs.size) s4 := by
    refine PpSet.compLoopS_any (fun n s' => ∃ i H', Inv (X.blk s3 H3 scope ce fp) [] (L2.wipe σ (own.map (·.2))) H' s' ∧ tn i s'.heap ∧ (∀ b ∈ fp, H' b = none) ∧ W i n H') ?_ m0 ⟨0, H3, I4, st4, fun b hb => (f3 b hb).1.1, w0⟩
    rintro n s5 ⟨i, H5, I5, st5, n5, w5⟩
    rcases turn i n H5 w5 with ⟨stop, qq⟩ | ⟨go, Nx, hNx, step⟩
    · refine thnF (T.done (X.blk s3 H3 scope ce fp) rfl rfl rfl hc i [] s5 _ H5 (fun _ _ => False) I5 (stat I5 n5) st5 stop) fun r s6 ⟨hr, I6⟩ => ?_
      subst hr
      have I7 : Inv X pins σ H5 s6 := I3.call' (ch := fp) I6.os I6.base I6.hok I6.bare fun b hb => ⟨(f3 b hb).1.2.2.2.1, (f3 b hb).1.2.1, (f3 b hb).1.2.2.2.2.1, (f3 b hb).1.2.2.2.2.2⟩
      have nC : H5 s3.heap.objs.size = none := cL ▸ (show H5 ce.locals = none from I6.free)
      obtain ⟨m, hn, _⟩ := I6.loc
      have hn : s6.heap.Ns s3.heap.objs.size m := cL ▸ (show s6.heap.Ns ce.locals m from hn)
      obtain ⟨g0, g1, g2, g3, g4, g5⟩ := I3.fpOk (Nat.le_refl _) nC
      exact ⟨m, hn, fun h'' sb => ⟨.ref p, H5, I7.turned (t' := s6.toks) (fun b o hb e => (sb.2 b hb).trans e) g0 g1 g3 g4 g5, rfl, qq⟩⟩
    · refine thnF (T.item (X.blk s3 H3 scope ce fp) rfl rfl rfl hc i [] s5 _ H5 (fun _ _ => False) I5 (stat I5 n5) st5 go) fun r s6 ⟨u, hr, h6⟩ => ?_
      subst hr
      refine thnF h6 fun _ s7 ⟨x, H7, I7, r7, y7, st7, n7⟩ => ?_
      refine thnF (pg.run _ s7 _ H7 x u _ (I7.pinned (stat I7 n7) (T.obj _ _ st7)) r7 (step x H7 y7)) fun _ s8 ⟨σ8, H8, I8, hw8, q8⟩ => ?_
      refine thnF (pt.run _ s8 σ8 H8 _ I8 q8) fun b s9 ⟨H9, I9, q9⟩ => ?_
      have fin : ∀ {s' : Shared} {H' : Hp}, Inv (X.blk s3 H3 scope ce fp) ([] ++ pinsAt fp s7.heap) σ8 H' s' → Nx H' → ∃ m, m < n ∧ ∃ i H', Inv (X.blk s3 H3 scope ce fp) [] (L2.wipe σ (own.map (·.2))) H' s' ∧ tn i s'.heap ∧ (∀ b ∈ fp, H' b = none) ∧ W i m H' := fun {s' H'} I' nx => by
        obtain ⟨m', hm, w'⟩ := hNx H' nx
        have pin' : ∀ b ∈ fp, ∀ o, s7.heap.get? b = some o → s'.heap.get? b = some o ∧ H' b = none := fun b hb o e =>
          let z := I'.pin (b, o) (List.mem_append_right _ (List.mem_append_right _ (mem_pinsAt hb e)))
          ⟨z.1, z.2.1⟩
        refine ⟨m', hm, i + 1, H', (I'.unpinned (pins := [])).weak (by rw [← hw8, L2.wipe_length]) (fun j v e => ?_), T.keep _ _ _ st7 fun b hb o e => (pin' b hb o e).1, fun b hb => ?_, w'⟩
        · rw [← hw8] at e
          exact (wipe_some e).1
        · obtain ⟨o, e, _⟩ := T.obj _ _ st7 b hb
          exact (pin' b hb o e).2
      cases b with
      | false =>
        simp only [Bool.false_eq_true, if_false] at q9 ⊢
        exact fin I9 q9
      | true =>
        simp only [if_true] at q9 ⊢
        exact thnF (pe.run _ s9 σ8 H9 _ I9 q9) fun z s10 ⟨yv, H10, I10, r10, a, a', ha, hst, nx⟩ => k.add (X.blk s3 H3 scope ce fp) _ _ _ _ _ p a a' yv z _ rfl rfl I10 ha r10 hst fun s11 I11 => fin I11 nx
  exact PpSet.codeAny_compStart_set loop (T.self X.A 0 _ _ _ st4 loop)
end
end Q
/-! Q36: sets of ints, read. -/
namespace Q
open PySem PySem.Spec PyProof.Rows L2
def putI (is : List Int) (k : Int) : List Int := if k ∈ is then is else is ++ [k]
def setI : List Int → List Int → List Int
  | acc, [] => acc
  | acc, k :: ks => setI (putI acc k) ks
abbrev sB : Nat := 4096
theorem putI_mem {is : List Int} {k j : Int} : j ∈ putI is k ↔ j ∈ is ∨ j = k := by
  unfold putI
  split
  · exact ⟨.inl, fun h => h.elim id fun e => by rw [e]; assumption⟩
  · simp
theorem putI_nd {is : List Int} {k : Int} (h : is.Nodup) : (putI is k).Nodup := by
  unfold putI
  split
  · exact h
  · rename_i hk
    rw [List.nodup_append]
    exact ⟨h, by simp, fun a ha c hc z => by simp at hc; subst hc; subst z; exact hk ha⟩
theorem putI_len {is : List Int} {k : Int} : (putI is k).length = if decide (k ∈ is) = true then is.length else is.length + 1 := by
  unfold putI
  by_cases h : k ∈ is <;> simp [h]
theorem setI_mem : ∀ {ks acc : List Int} {j : Int}, j ∈ setI acc ks ↔ j ∈ acc ∨ j ∈ ks
  | [], _, _ => by simp [setI]
  | k :: ks, acc, j => by
    unfold setI
    rw [setI_mem, putI_mem, List.mem_cons, or_assoc]
theorem setI_nd : ∀ {ks acc : List Int}, acc.Nodup → (setI acc ks).Nodup
  | [], _, h => h
  | k :: ks, acc, h => setI_nd (ks := ks) (putI_nd h)
abbrev kdI (w : World) (a : Addr) (is : List Int) : HO := SetO w a (fun j => decide (j ∈ is)) is.length
theorem kdI_put {w : World} {a : Addr} {is : List Int} {k : Int} : kdI w a (putI is k) = SetO w a (fun j => decide (j ∈ is) || decide (j = k)) (if decide (k ∈ is) = true then is.length else is.length + 1) := by
  unfold kdI
  rw [putI_len]
  congr 1
  funext j
  rw [Bool.eq_iff_iff]
  simp [putI_mem]
def gatI (X : Cx) : Gat X (List Int) where
  kd := kdI X.w
  z := []
  st := fun is y is' => ∃ k, y = .int k ∧ is.length + 1 < sB ∧ is' = putI is k
  new := fun H h => by
    have e : kdI X.w h.objs.size [] = SetO X.w h.objs.size (fun _ => false) 0 := by unfold kdI; simp
    rw [e]
    exact setO_new (setR_fresh X.w)
  add := fun Y pins σ H s E p a a' y v Q hP hw I hp r hst h => by
    obtain ⟨k, rfl, hl, rfl⟩ := hst
    obtain ⟨t, rfl⟩ := r
    rw [← hw] at hp h
    have R := setO_get I hp
    refine setR_add R hl fun h' sb new => ?_
    have he : ∃ u, h'.get? p = some u := by
      have ⟨o, _, _, _, ho, _⟩ := new
      exact ⟨o, ho⟩
    rw [kdI_put] at h
    exact h _ (I.write (e := p) (t' := s.toks + 1) (by rw [hp]; trivial) (.inl rfl) (fun b u hb hu => (sb.2 b hb).trans hu) he (setO_new new))
theorem setO_code {w : World} {a c : Addr} {S : Int → Bool} {n : Nat} {q : Str} : SetO w a S n ≠ LamX.CodeO c q := fun z => by
  unfold SetO LamX.CodeO at z
  let oc : Obj := { cls := .none, dict := none, data := .fields #[.none, .str q 0] }
  have e : ∀ d, d < a + c + 1 → ({ objs := Array.replicate (a + c + 1) oc } : Heap).get? d = some oc := fun d hd => by
    unfold Heap.get?
    simp [oc, hd]
  have z := congrFun (HO.ext.inj z) ({ objs := Array.replicate (a + c + 1) oc } : Heap)
  have z2 : SetR w ({ objs := Array.replicate (a + c + 1) oc } : Heap) a S n := by rw [z]; exact ⟨oc, _, _, e c (Nat.lt_succ_of_le (Nat.le_add_left c a)), rfl, rfl⟩
  obtain ⟨o, es, ep, t, h1, h2, h3, _⟩ := z2
  rw [e a (Nat.lt_succ_of_le (Nat.le_add_right a c))] at h1; cases h1; cases h3
theorem setO_tbl {w : World} {a : Addr} {S : Int → Bool} {n : Nat} (ps : Array Value) : SetO w a S n ≠ .tbl ps := fun z => by unfold SetO at z; cases z
theorem intsOf_cons {y : D} {ys : List D} {is : List Int} (h : intsOf (y :: ys) = some is) : ∃ k ks, y = .int k ∧ intsOf ys = some ks ∧ is = k :: ks := by
  cases y with
  | int k => obtain ⟨ks, h1, h2⟩ := Option.map_eq_some_iff.mp (show (intsOf ys).map (k :: ·) = some is from h); exact ⟨k, ks, rfl, h1, h2.symm⟩
  | _ => cases h
theorem setI_snoc : ∀ {ks acc : List Int} {k : Int}, setI acc (ks ++ [k]) = putI (setI acc ks) k
  | [], _, _ => rfl
  | _ :: ks, acc, k => by
    rw [List.cons_append]
    unfold setI
    exact setI_snoc (ks := ks)
theorem setI_len : ∀ {ks acc : List Int}, (setI acc ks).length ≤ acc.length + ks.length
  | [], _ => by simp [setI]
  | k :: ks, acc => by
    have h := setI_len (ks := ks) (acc := putI acc k)
    have h2 : (putI acc k).length ≤ acc.length + 1 := by rw [putI_len]; split <;> omega
    unfold setI
    simp only [List.length_cons]
    omega
def setR (ys : List D) (μ : Sto) : R D := match intsOf ys with
  | some is => if is.length + 1 < sB then .ok (.set ((setI [] is).map .int)) μ else .no
  | none => .no
def scR (t : T) (vs : List Nat) (ri : R (List D)) (test : Sl → Sto → R Bool) (elt : Sl → Sto → R D) (sl : Sl) : R D := ri.bind fun ds μ => noEx ((lcL t test elt (wipeS sl vs) ds μ).bind setR)
theorem setR_ok {ys : List D} {μ μ' : Sto} {d : D} (h : setR ys μ = .ok d μ') : ∃ is, intsOf ys = some is ∧ is.length + 1 < sB ∧ d = .set ((setI [] is).map .int) ∧ μ = μ' := by
  unfold setR at h
  split at h
  · rename_i is e
    split at h
    · rename_i hz
      cases h
      exact ⟨is, e, hz, rfl, rfl⟩
    · cases h
  · cases h
theorem rep_setI {U : Wd} {G : Hp} {p : Addr} {is : List Int} (h : G p = some (kdI U.w p is)) (nd : is.Nodup) : Rep U G (.ref p) (.set (is.map .int)) := .set h (fun _ => rfl) nd rfl
section
variable {X : Cx} {U : Wd} {b : B0} {W : WX} {pos : Pos}
theorem sc_read (hw : X.w = U.w) {t : T} {vs : List Nat} {mt : Sl → Sto → R Bool} {me : Sl → Sto → R D} {σ : St} {H : Hp} {Q : VK} {mi : Sl → Sto → R (List D)} {tt : TT} {te : TE} (hs : ∀ i ∈ t.slots, i ∈ vs)
    (htt : ∀ b σ H Q, RdT U b W0 mt σ H Q → tt σ H Q) (hte : ∀ b σ H Q, RdE U b W0 me σ H Q → te σ H Q)
    (h : RdE U b W (fun sl μ => scR t vs (mi sl μ) mt me sl) σ H Q) : tGa (gatI X) (RdI U b W mi) (RdG U t) tt te vs σ H Q := by
  obtain ⟨sl, μ, ρ, G, s, p⟩ := h
  refine ⟨sl, μ, ρ, G, s, ?_⟩
  dsimp only [scR] at p
  cases em : mi sl μ with
  | no => rw [em] at p; exact p.elim
  | ex x μ1 => rw [em] at p; exact p
  | ok ds μ1 =>
    rw [em] at p
    dsimp only [R.bind] at p
    intro J H1 ρ1 G1 s1 hr1 hg1 wk D hD
    have p := PoE.mono hr1 hg1 p
    cases el : lcL t mt me (wipeS sl vs) ds μ1 with
    | no => rw [el] at p; exact p.elim
    | ex x μ2 => rw [el] at p; exact p.elim
    | ok ys μ2 =>
      rw [el] at p
      dsimp only at p
      cases er : setR ys μ2 with
      | no => rw [er] at p; exact p.elim
      | ex x μ3 => rw [er] at p; exact p.elim
      | ok d μ3 =>
        rw [er] at p
        obtain ⟨is, hi, hl, rfl, rfl⟩ := setR_ok er
        have p : PoE U b W sl ρ1 G1 σ Q (.ok (.set ((setI [] is).map .int)) μ2) := p
        have hb1 : b.H D = none := s1.h.dom D hD
        let Pv : Nat → Hp → Prop := fun i H => ∃ μ ρ G done rest ks, SR U b (wipeS sl vs) μ ρ G (L2.wipe σ vs) H ∧ ρ1 <+: ρ ∧ Sub G1 G ∧ H D = some (kdI X.w D (setI [] done)) ∧ G D = none ∧ D ∉ ρ ∧ lcL t mt me (wipeS sl vs) (ds.drop i) μ = .ok rest μ2 ∧ intsOf rest = some ks ∧ done ++ ks = is
        have tabD : ∀ {μ ρ G H} (s : SH U b μ ρ G H) {o : HO}, H D = some o → (∀ ps, o ≠ .tbl ps) → ∀ q ∈ U.T, q.1 ≠ D := fun s o h ho q hq e => by
          obtain ⟨ps, e1, _⟩ := s.tabs q hq
          rw [e, h] at e1; exact ho _ (Option.some.inj e1)
        have h0 : Pv 0 (upd H1 D ((gatI X).kd D (gatI X).z)) := by
          refine ⟨μ1, ρ1, G1, [], ys, is, ?_, List.prefix_refl _, Sub.refl _, upd_same, s1.h.gfree hD, fun z => s1.h.rsome z hD, el, hi, rfl⟩
          have a1 := (s1.wipe vs).alloc (o := kdI X.w D []) hD (setO_tbl ·)
          have gD := s1.h.gfree hD
          refine ⟨⟨fun a u e => ?_, s1.h.ntb, s1.h.len, s1.h.nd, s1.h.ap, fun i q u h1 h2 => ?_, s1.h.pre, a1.h.ext, a1.h.dom, s1.h.gnew, s1.h.gsub, s1.h.rnew, a1.h.tabs, s1.h.b0⟩, (s1.wipe vs).sl, (s1.wipe vs).ln⟩
          · rw [upd_ne (ne_of_none e gD)]; exact s1.h.sub a u e
          · have hq : q ∈ ρ1 := List.mem_of_getElem? h1
            exact (s1.h.sto i q u h1 h2).mono (List.prefix_refl _) (Sub.refl _) (upd_ne (show q ≠ D from fun z => s1.h.rsome (z ▸ hq) hD))
        have hend : ∀ H2, Pv ds.length H2 → Q (.ref D) H2 := by
          rintro H2 ⟨μ', ρ', G', done, rest, ks, s', hr', hg', hDl, gD, rD, hl', hk, hys⟩
          rw [List.drop_length] at hl'
          unfold lcL at hl'
          cases hl'
          cases hk
          rw [List.append_nil] at hys
          subst hys
          have S' : SR U b sl μ2 ρ' G' σ H2 := ⟨s'.h, fun i d e => let ⟨v, h1, h2⟩ := s1.sl i d e; ⟨v, h1, h2.mono hr' hg'⟩, s1.ln⟩
          exact p _ _ _ _ (S'.freeze hDl hb1 gD rD (setO_tbl ·)) hr' (hg'.trans (sub_upd gD)) (.pure (rep_setI (by rw [hw]; exact upd_same) (setI_nd .nil)))
        have hturn : ∀ i x H H', i < ds.length → Pv i H → YD U G1 ds i H x H' → RdG U t x (L2.wipe σ vs) H' fun σ2 H2 => L2.wipe σ2 vs = L2.wipe σ vs ∧ tt σ2 H2 fun b_1 H3 =>
              if b_1 = true then te σ2 H3 fun y H4 => ∃ a a', H4 D = some ((gatI X).kd D a) ∧ (gatI X).st a y a' ∧ Pv (i + 1) (upd H4 D ((gatI X).kd D a')) else Pv (i + 1) H3 := by
          rintro i x H H' hi ⟨μ, ρ, G, done, rest, ks, s, hr, hg, hDl, gD, rD, hl', hk, hys⟩ ⟨d, hd, y⟩
          have hdrop : ds.drop i = d :: ds.drop (i + 1) := by
            obtain ⟨h1, h2⟩ := List.getElem?_eq_some_iff.mp hd
            rw [List.drop_eq_getElem_cons h1, h2]
          rw [hdrop] at hl'
          obtain ⟨sl1, k, μ3, e1, e2, e3⟩ := lcL_ok hl'
          have key : ∀ {G' : Hp}, SR U b (wipeS sl vs) μ ρ G' (L2.wipe σ vs) H' → Sub G G' → G' D = none → H' D = some (kdI X.w D (setI [] done)) → Rep U G' x d → RdG U t x (L2.wipe σ vs) H' fun σ2 H2 => L2.wipe σ2 vs = L2.wipe σ vs ∧ tt σ2 H2 fun b_1 H3 =>
              if b_1 = true then te σ2 H3 fun y H4 => ∃ a a', H4 D = some ((gatI X).kd D a) ∧ (gatI X).st a y a' ∧ Pv (i + 1) (upd H4 D ((gatI X).kd D a')) else Pv (i + 1) H3 := by
            intro G' s' hg' gD' hD' rx
            refine ⟨b, _, μ, ρ, G', d, sl1, s', .pure rx, e1, fun σ2 s2 o2 => ⟨wipe_eq o2 hs, htt ⟨H', ρ, G'⟩ _ _ _ ⟨sl1, μ, ρ, G', s2.here, ?_⟩⟩⟩
            rw [e2]
            intro H3 ρ3 G3 s3 hr3 hg3
            have stay : ∀ {bb : B0} {μ4 : Sto} {ρ4 : List Addr} {G4 H4 : Hp} {sl4 : Sl} {σ4 : St}, SR U bb sl4 μ4 ρ4 G4 σ4 H4 → bb.H D = some (kdI X.w D (setI [] done)) → bb.G D = none → D ∉ bb.ρ → H4 D = some (kdI X.w D (setI [] done)) ∧ G4 D = none ∧ D ∉ ρ4 := fun {bb μ4 ρ4 G4 H4 sl4 σ4} s4 q1 q2 q3 => by
              have D4 := s4.h.ext D _ q1 (setO_tbl ·) q3
              refine ⟨D4, ?_, fun z => ?_⟩
              · cases q : G4 D with
                | none => rfl
                | some u =>
                  rcases s4.h.gnew D (by rw [q]; simp) with z | z | ⟨c0, z⟩ | z
                  · exact absurd q2 z
                  · rw [q1] at z; cases z
                  · have z' := s4.h.sub _ _ z; rw [D4] at z'; exact absurd (Option.some.inj z') setO_code
                  · exact absurd z q3
              · rcases s4.h.rnew D z with q | q
                · exact q3 q
                · rw [q1] at q; cases q
            obtain ⟨D3, gD3, rD3⟩ := stay s3 hD' gD' rD
            have S3 : SR U b (wipeS sl vs) μ3 ρ3 G3 (L2.wipe σ vs) H3 := s'.on s3.h
            rcases e3 with ⟨rfl, y, μ4, zs, h1, h2, h3⟩ | ⟨rfl, h1⟩
            · rw [if_pos rfl]
              refine hte ⟨H3, ρ3, G3⟩ _ _ _ ⟨sl1, μ3, ρ3, G3, s3.here, ?_⟩
              rw [h1]
              intro v4 H4 ρ4 G4 s4 hr4 hg4 rv4
              obtain ⟨D4, gD4, rD4⟩ := stay s4 D3 gD3 rD3
              have S4 : SR U b (wipeS sl vs) μ4 ρ4 G4 (L2.wipe σ vs) H4 := S3.on s4.h
              subst h3
              obtain ⟨k, ks', rfl, hk2, rfl⟩ := intsOf_cons hk
              cases rv4.isP rfl
              have hlen : (setI [] done).length + 1 < sB := by
                have h5 := setI_len (ks := done) (acc := [])
                have h6 : done.length + (ks'.length + 1) = is.length := by rw [← hys]; simp
                simp only [List.length_nil] at h5
                omega
              refine ⟨setI [] done, putI (setI [] done) k, D4, ⟨k, rfl, hlen, rfl⟩, μ4, ρ4, G4, done ++ [k], zs, ks', ?_, (hr.trans hr3).trans hr4, ((hg.trans hg').trans hg3).trans hg4, ?_, gD4, rD4, h2, hk2, by rw [← hys]; simp⟩
              · exact ⟨S4.h.write (by rw [D4]; simp) hb1 gD4 rD4 (tabD S4.h D4 (setO_tbl ·)) (fun c q z => by rw [D4] at z; exact setO_code (Option.some.inj z)), S4.sl, S4.ln⟩
              · rw [setI_snoc]; exact upd_same
            · rw [if_neg Bool.false_ne_true]
              exact ⟨μ3, ρ3, G3, done, rest, ks, S3, hr.trans hr3, (hg.trans hg').trans hg3, D3, gD3, rD3, h1, hk, hys⟩
          rcases y with ⟨rfl, rx⟩ | ⟨T, o, hT, ho, rfl, rx⟩
          · exact key s (Sub.refl _) gD hDl (rx.mono hg)
          · have nT : D ≠ T := ne_of_none hDl hT
            exact key (s.alloc hT ho) (sub_upd (s.h.gfree hT)) (by rw [upd_ne nT]; exact gD) (by rw [upd_ne nT]; exact hDl) (rx G hg (s.h.gfree hT))
        refine ⟨fun i m H => m = ds.length - i ∧ i ≤ ds.length ∧ Pv i H, ⟨ds.length, by simp, Nat.zero_le _, h0⟩, ?_⟩
        rintro i m H ⟨rfl, hi, q⟩
        have hG : Sub G1 H := let ⟨_, _, _, _, _, _, s, _, hg, _⟩ := q; hg.trans s.h.sub
        by_cases hlt : i < ds.length
        · exact .inr ⟨wk.goes i H hlt hG, Pv (i + 1), fun H' p' => ⟨ds.length - (i + 1), by omega, rfl, hlt, p'⟩, fun x H' y => hturn i x H H' hlt q (wk.yields i H x H' hlt hG y)⟩
        · obtain rfl : i = ds.length := by omega
          exact .inl ⟨wk.stops H hG, hend H q⟩
end
end Q
/-! Q37: set comprehensions as expressions; set(list of ints), sorted(set of ints). -/
namespace Q
open PySem PySem.Spec PyProof.Rows L2
section
variable {X : Cx} {U : Wd} {b : B0} {W : WX} {pos : Pos}
theorem je_sc (hX : XU X U) {elt tg iter : Expr} {ifs : List Expr} {scope : Scope} {own : List (Str × Nat)} {t : T} {mi : Sl → Sto → R (List D)} {mt : Sl → Sto → R Bool} {me : Sl → Sto → R D} (hc : X.calm = true) (hN : X.N.Nodup) (hi : JI X U b W tg iter mi) (ok : BlkOk X.N X.env.scope scope own)
    (hg : ∀ (s : Shared) (H : Hp) (C : Addr) (cl : List (Str × Addr)) (fp : List Addr), JG (X.blk s H scope (compEnvC scope cl C X.env) fp) U tg t) (ht : ∀ b (s : Shared) (H : Hp) (C : Addr) (cl : List (Str × Addr)) (fp : List Addr), JTs (X.blk s H scope (compEnvC scope cl C X.env) fp) U b W0 ifs mt)
    (he : ∀ b (s : Shared) (H : Hp) (C : Addr) (cl : List (Str × Addr)) (fp : List Addr), JE (X.blk s H scope (compEnvC scope cl C X.env) fp) U b W0 elt me) (hs : ∀ x, foldedSetIterable iter X.env x = pure x) (hv : ∀ i ∈ t.slots, i ∈ own.map (·.2)) :
    JE X U b W (.SetComp elt [⟨tg, iter, ifs, 0⟩] scope pos) fun sl μ => scR t (own.map (·.2)) (mi sl μ) mt me sl := by
  refine PE.imp (pe_gat (gatI X) (tt := fun σ H Q => ∃ b, RdT U b W0 mt σ H Q) (te := fun σ H Q => ∃ b, RdE U b W0 me σ H Q) hc hN hi ok hg (fun s H C cl fp => ⟨fun pins s' σ H' Q I ⟨b, q⟩ => (ht b s H C cl fp).run pins s' σ H' Q I q⟩) (fun s H C cl fp => ⟨fun pins s' σ H' Q I ⟨b, q⟩ => (he b s H C cl fp).run pins s' σ H' Q I q⟩) hs)
    fun σ H Q h => sc_read hX.w hv (fun b σ H Q q => ⟨b, q⟩) (fun b σ H Q q => ⟨b, q⟩) h
end
/-- the object of a new set -/
abbrev eS (w : World) : Obj := { cls := .type "set", dict := none, data := .set #[] 0 (.fresh 0 0 (!w.params.followText "set-order")) }
section
variable {P : Program} {w : World} {A : Around} {E : Value → Shared → Prop} {s : Shared}
theorem set_of_list {l : Addr} {items : Array Value} (ns : List Int) {Q : Value → Shared → Prop} (hh : A.handled = none) (hl : s.heap.IsList l items) (hit : IntsAre items.toList ns) (hb : ns.length + 1 < scanBound)
    (h : ∀ (h' : Heap) (tk c : Nat), SetR w h' s.heap.objs.size (fun j => decide (j ∈ ns)) c → (∀ b o, s.heap.get? b = some o → h'.get? b = some o) → Q (.ref s.heap.objs.size) { s with heap := h', toks := tk }) :
    wpAny (model P w) A (call (.type "set") [.ref l]) Q E s := by
  have isz : items.size = ns.length := (Array.length_toList ▸ IntsAre.length hit : items.size = ns.length)
  obtain ⟨c, tl, hmro⟩ := F.called_set.mro
  have q1 := F.called_set.made
  have q2 := F.called_set.sub
  refine wpAny_call (codeAny_of_tree ?_)
  show wpAny _ _ (callAny (.type "set") _) _ _ _
  refine wpAny_pure ⟨Code.quiet_builtin _ (by decide +kernel), codeAny_builtin F.entry_type_call ?_⟩
  rw [Around.under_plain (weight_type_call_type "set" [.ref l] []) rfl]
  have q3 := F.called_set.notType
  have q4 := F.called_set.canCreate
  have q5 := F.typeCall_set_1 (.ref l)
  repeat (any_goals (first | assumption | wp_step))
  refine codeAny_mono (code_set_led1 (.ref l) (E := E) (Q₁ := fun ob s1 => ob = .ref s.heap.objs.size ∧ s1 = { s with heap := s.heap.push (eS w) }) ⟨rfl, rfl⟩) fun r s1 hr => ?_
  cases r with
  | error e => exact hr
  | ok fl =>
    cases fl with
    | ret ob =>
      obtain ⟨rfl, rfl⟩ := hr
      have new : (s.heap.push (eS w)).get? s.heap.objs.size = some (eS w) := Heap.get?_push_size _ rfl
      have hT : Shared.TypeIs { s with heap := s.heap.push (eS w) } (.ref s.heap.objs.size) "set" := ⟨_, new, rfl⟩
      have q6 := F.called_set.init.lookup
      have q7 := F.called_set.init.bind (.ref s.heap.objs.size)
      repeat (any_goals (first | assumption | wp_step))
      refine codeAny_mono (codeAny_call_builtin (R := wants (fun r s2 => r = .none ∧ ∃ h' tk c, s2 = { s with heap := h', toks := tk } ∧ SetR w h' s.heap.objs.size (fun j => decide (j ∈ ns)) c ∧ (∀ b o, s.heap.get? b = some o → h'.get? b = some o)) E) F.called_set.init.plain F.entry_set_init (check_set_init_1 hT ?_)) fun r2 s2 hr2 => ?_
      · obtain ⟨ol, hol, hcl, nl, hdl⟩ := hl
        obtain ⟨ocls, odict, odata, oslots⟩ := ol
        simp only at hcl hdl
        subst hcl; subst hdl
        have lt : l < s.heap.objs.size := Heap.lt_size hol
        have hol' : (s.heap.push (eS w)).get? l = some { cls := .type "list", dict := odict, data := .seq items nl, slots := oslots } := Heap.get?_push_of_some _ hol
        have z1 := F.sub_list_set
        have z2 := F.sub_list_frozenset
        have z3 : (Value.type "list" == Value.type "dict") = false := by decide
        have hl1 : (s.heap.push (eS w)).IsList l items := ⟨_, hol', rfl, nl, rfl⟩
        unfold Builtin.«set.__init__» noKeywords Builtin.Frozenset.updateFrom
        generalize hPI : pyIter = PI
        wp_walk
        subst hPI
        refine wpAny_pyIter_list hl1 (wpAny_bind (wpAny_runValue ?_))
        have ne1 : l ≠ (s.heap.push (eS w)).objs.size := by rw [Heap.size_push]; exact Nat.ne_of_lt (Nat.lt_succ_of_lt lt)
        have ne2 : s.heap.objs.size ∉ [(s.heap.push (eS w)).objs.size, l] := by
          rw [Heap.size_push]
          simp only [List.mem_cons, List.mem_singleton, List.not_mem_nil, or_false, not_or]
          exact ⟨Nat.ne_of_lt (Nat.lt_succ_self _), Nat.ne_of_gt lt⟩
        have val : ∀ (i : Nat) (v : Value), items[i]? = some v → ∃ k t, ns[i]? = some k ∧ v = .int k t := fun i v hv => by
          have hi : i < ns.length := by rw [← isz]; exact (Array.getElem?_eq_some_iff.mp hv).1
          obtain ⟨t, e⟩ := PyProof.Rows.IntsAre.int_at hit i v (by rw [Array.getElem?_toList]; exact hv)
          refine ⟨ns[i], t, List.getElem?_eq_getElem hi, ?_⟩
          rw [e, List.getD_eq_getElem?_getD, List.getElem?_eq_getElem hi]
          rfl
        refine set_update_ints ((Walks.list (by simp [hh]) _ l ne1 items).toS) s.heap.objs.size ne2 ns isz hb val (items.size - 0) 0 _ (by omega) (Nat.zero_le _) ⟨⟨_, Heap.get?_push_size _ rfl, rfl, rfl⟩, (hl1.push _)⟩ ⟨0, Nat.le_refl 0, setR_new_at (Heap.get?_push_of_some _ new)⟩ fun s' c' hm _ hS' => ?_
        obtain ⟨h', g2, d', tk', os'⟩ := s'
        obtain rfl : g2 = s.gens := hm.gens
        obtain rfl : d' = s.drawn := hm.drawn
        obtain rfl : os' = s.os := hm.os
        show wpAny _ _ _ _ _ _
        refine wpAny_pure ?_
        show wpAny _ _ (ret Value.none) _ _ _
        refine wpAny_pure ⟨rfl, h', tk', c', rfl, hS', fun b o e => ?_⟩
        have hb0 : b < s.heap.objs.size := Heap.lt_size e
        have hb2 : b ≠ (s.heap.push (eS w)).objs.size := by rw [Heap.size_push]; exact Nat.ne_of_lt (Nat.lt_succ_of_lt hb0)
        exact hm.heap b o (by simp only [List.mem_cons, List.mem_singleton, List.not_mem_nil, or_false, not_or]; exact ⟨Nat.ne_of_lt hb0, hb2⟩) (Heap.get?_push_of_some _ (Heap.get?_push_of_some _ e))
      · cases r2 with
        | error e => exact hr2
        | ok fl2 =>
          cases fl2 with
          | ret r =>
            obtain ⟨rfl, h', tk, c', rfl, hS', hk'⟩ := hr2
            repeat (any_goals (first | assumption | wp_step))
            exact h _ _ _ hS' hk'
          | _ => exact hr2.elim
    | _ => exact hr.elim
end
end Q
/-! Q38: set(..) and sorted(..) as calls. -/
namespace Q
open PySem PySem.Spec PyProof.Rows L2
inductive Fc where
  | set | sorted
def Fc.val : Fc → Value
  | .set => .type "set" | .sorted => .builtin "sorted"
def setOfR (μ : Sto) (d : D) : R D := match lstItems μ d with
  | some xs => setR xs μ
  | none => .no
def sortSR (xs : List D) (μ : Sto) : R D := match intsOf xs with
  | some is => if is.length < 64 then .ok (.lst ((sortI is).map .int)) μ else .no
  | none => .no
def fcR : Fc → List D → Sto → R D
  | .set, [d], μ => setOfR μ d
  | .sorted, [d], μ => (match d with
    | .set xs => sortSR xs μ
    | d => fbR .sorted [d] μ)
  | _, _, _ => .no
section
variable {X : Cx} {b : B0} {W : WX} {U : Wd}
theorem setR_kd {w : World} {h : Heap} {a : Addr} {ns : List Int} {c : Nat} (R : SetR w h a (fun j => decide (j ∈ ns)) c) : SetR w h a (fun j => decide (j ∈ setI [] ns)) (setI [] ns).length := by
  have hc : c = (setI [] ns).length := by
    obtain ⟨o, es, ep, t, h1, h2, h3, h4, h5, h6, h7, h8, h9, _⟩ := R
    have p := (List.perm_ext_iff_of_nodup h5 (setI_nd (ks := ns) (acc := []) .nil)).mpr fun j => by
      rw [← h6 j, setI_mem]
      simp
    rw [← p.length_eq, List.length_map, Array.length_toList, h9]
  rw [← hc]
  exact R.congr fun j => by
    rw [Bool.eq_iff_iff]
    simp [setI_mem]
theorem lt_le : ∀ {l : List Int}, l.Pairwise (· < ·) → l.Pairwise (· ≤ ·) := fun h => h.imp fun h => Int.le_of_lt h
theorem fc_call (hX : XU X U) (hc : X.calm = true) (f : Fc) : CallJ X U b W f.val (fcR f) := by
  intro pins s σ H vs us Q sl μ ρ G ds I r S ra p
  unfold fcR at p
  split at p
  · cases ra with
    | cons rd rn =>
    cases rn
    unfold setOfR at p
    split at p
    · rename_i xs h1
      obtain ⟨a, ys, rfl, h3, h4⟩ := lst_at S rd h1
      cases er : setR xs μ with
      | no => rw [er] at p; exact p.elim
      | ex x μ3 =>
        unfold setR at er
        split at er
        · split at er <;> cases er
        · cases er
      | ok d μ3 =>
        rw [er] at p
        obtain ⟨is, hi, hl, rfl, rfl⟩ := setR_ok er
        cases intsOf_rep h4 hi
        obtain ⟨its, o, n, e1, e2, e3, e4⟩ := sqL_at I.hok I.kIn (by rw [hX.K]; exact h3)
        rw [Vals.ref1 r]
        show wpAny _ _ (call (.type "set") _) _ _ _
        refine set_of_list is (I.ok.hd hc) (items := its.toArray) ⟨o, e2, e3, n, e4⟩ (by simpa using intsAre_of e1) (by have : scanBound = sB := rfl; omega) fun h' tk c R k => ?_
        have hp : H s.heap.objs.size = none := I.hok.fresh (Nat.le_refl _)
        refine ⟨.ref _, upd H s.heap.objs.size (kdI X.w s.heap.objs.size (setI [] is)), I.laid (t' := tk) k (Nat.le_refl _) (setO_new (setR_kd R)), rfl, ?_⟩
        have hg := S.h.gfree hp
        exact p _ _ ρ _ (S.alloc hp (setO_tbl ·)) (List.prefix_refl _) (sub_upd hg) (.pure (rep_setI (by rw [hX.w]; exact upd_same) (setI_nd .nil)))
    · exact p.elim
  · cases ra with
    | cons rd rn =>
    cases rn
    split at p
    · rename_i xs
      unfold sortSR at p
      split at p
      · rename_i is hi
        split at p
        · rename_i h64
          cases rd with
          | pure rd =>
          cases rd with
          | @set a T n js h1 h2 h3 h4 =>
            have e : js = is := by
              have : ∀ (l : List Int), intsOf (l.map .int) = some l := fun l => by
                induction l with
                | nil => rfl
                | cons a l ih => show (intsOf (l.map .int)).map (a :: ·) = _; rw [ih]; rfl
              rw [this] at hi
              exact Option.some.inj hi
            subst e
            refine cr_sortedSet hc pins s σ H _ us Q I r ⟨a, T, n, rfl, by rw [hX.w]; exact S.h.sub _ _ h1, by omega, fun ns q hs hm hl hq => ?_⟩
            have hg := S.h.gfree hq
            have nd : ns.Nodup := hs.imp fun h => Int.ne_of_lt h
            have pm : ns.Perm js := (List.perm_ext_iff_of_nodup nd h3).mpr fun k => by
              rw [hm k, h2 k]
              simp
            have e : ns = sortI js := sorted_uniq (lt_le hs) (sortI_sorted js) (pm.trans (sortI_perm js).symm)
            subst e
            exact p _ _ ρ _ (S.alloc hq (fun _ z => by cases z)) (List.prefix_refl _) (sub_upd hg) (.pure (.lst upd_same (ints_rep _)))
        · exact p.elim
      · exact p.elim
    · exact fb_call hX hc .sorted pins s σ H _ us Q sl μ ρ G _ I r S (.cons rd .nil) p
  · exact p.elim
end
end Q
/-! Q39: the small language and its evaluator. -/
namespace Q
open PySem
/-- methods of built-in types -/
inductive Bm where
  | append | extend | pop
/-- expressions, lists of them, what is walked -/
inductive E where
  | var (i : Nat) | lit (d : D) | glb (j : Nat) | gcl (c : Nat) | ty (t : Ty)
  | tup (es : E) | lst (es : E) | mlst (es : E) | frz (e : E)
  | nil | cons (e es : E)
  | bin (op : Operator) (a c : E) | cmp (op : CmpOp) (a c : E) | chn (a c e : E) | isin (neg : Bool) (a c : E)
  | sub (a c : E) | slc (a lo hi : E)
  | not (a : E) | and (a c : E) | or (a c : E) | ife (t a c : E) | neg (a : E)
  | call (k : Nat) (es : E) | calC (nj : List (Nat × List Nat)) (k : Nat) (es : E) | mk (c : Nat) (es : E) | met (m : Nat) (o es : E) | att (a : Nat) (o : E) | calV (i : Nat) (es : E) | lam (k : Nat)
  | fb (f : Fb) (es : E) | fc (f : Fc) (es : E) | len (es : E) | isi (es : E) | bm (m : Bm) (o es : E)
  | lc (t : T) (vs : List Nat) (it c elt : E) | lc0 (t : T) (vs : List Nat) (it elt : E) | sc (t : T) (vs : List Nat) (it c elt : E) | sc0 (t : T) (vs : List Nat) (it elt : E)
  | rng1 (es : E) | rng2 (es : E) | zip (es : E) | enu (es : E) | seq (e : E) | bad
/-- statements -/
inductive S where
  | nil | cons (s ss : S) | frz (i : Nat) (ss : S)
  | expr (e : E) | ret (e : E) | retN | pass | brk | cont
  | iff (t : E) (a c : S) | set (i : Nat) (e : E) | par (i j : Nat) (es : E) | unp (t : T) (e : E)
  | for (t : T) (it : E) (body : S) | whi (n : Nat) (t : E) (body : S)
  | fld (a : Nat) (o e : E) | rse (c : Nat) | tri (c : Nat) (body suite : S) | ndef (k i : Nat) | bad
/-- what is fixed: how defs, closures and classes answer -/
structure Gm where
  Φ : Nat → List D → Sto → R D
  Ψ : Nat → List D → Sto → R D
  gl : Nat → D
  ini : Nat → Option (Nat × Nat)
  fw : Operator → Nat → Option Nat
  rv : Operator → Nat → Option Nat
  eq : Nat → Option Nat
  cn : Nat → Option Nat
  ln : Nat → Option Nat
  ng : Nat → Option Nat
  ix : Nat → Nat → Option Nat
  pr : Nat → Nat → Option Nat
  mt : Nat → Nat → Option Nat
  cm : Nat → Nat → Option (Bool × Nat)
  isc : Nat → Nat → Option Bool
  exi : Nat → Nat → Option Bool
/-! what was made within a call and is not handed back is forgotten -/
def fitD (n : Nat) : D → Bool
  | .ref i => decide (i < n)
  | _ => true
def fitL (n : Nat) : List D → Bool
  | [] => true
  | d :: ds => fitD n d && fitL n ds
def fitM (n : Nat) : MO → Bool
  | .ins _ ds => fitL n ds
  | _ => true
def fitS (n : Nat) : Sto → Bool
  | [] => true
  | o :: os => fitM n o && fitS n os
def trimR (n : Nat) (r : R D) : R D := match r with
  | .ok d μ => if fitD n d && fitS n (μ.take n) then .ok d (μ.take n) else .ok d μ
  | .ex x μ => if fitS n (μ.take n) then .ex x (μ.take n) else .ex x μ
  | .no => .no
def mkT (c n : Nat) (φ : List D → Sto → R D) (ds : List D) (μ : Sto) : R D := trimR μ.length (mkR c n φ ds μ)
def Gm.mk' (g : Gm) (c : Nat) : Option (List D → Sto → R D) := (g.ini c).map fun p => mkT c p.2 (g.Φ p.1)
def mkO (o : Option (List D → Sto → R D)) (ds : List D) (μ : Sto) : R D := match o with
  | some φ => φ ds μ
  | none => .no
def bmX : Bm → D → List D → Sto → R D
  | .append => appR
  | .extend => extR
  | .pop => popR
/-- an empty part of a slice -/
def isNil : E → Bool
  | .nil => true
  | _ => false
def leR (μ : Sto) (x y : D) : R D := R.of ((cmpD .LtE μ x y).map .bl) μ
/-- a slot's list of the store stands still from now on -/
def frzS (i : Nat) (sl : Sl) (μ : Sto) (k : Sl → Sto → O) : O := match getS sl i with
  | some (.ref j) => (match μ[j]? with
    | some (.lst xs) => k (sl.set i (some (.lst xs))) (μ.set j .gone)
    | _ => .no)
  | _ => .no
mutual
def evE (g : Gm) : E → Sl → Sto → R D
  | .var i, sl, μ => R.of (getS sl i) μ
  | .lit d, _, μ => .ok d μ
  | .glb j, _, μ => .ok (g.gl j) μ
  | .gcl c, _, μ => .ok (.cls c) μ
  | .ty t, _, μ => .ok (.ty t) μ
  | .tup es, sl, μ => (evL g es sl μ).bind tupR
  | .lst es, sl, μ => (evL g es sl μ).bind lstR
  | .mlst es, sl, μ => (evL g es sl μ).bind mlstR
  | .frz e, sl, μ => (evE g e sl μ).bind frzR
  | .bin op a c, sl, μ => (evE g a sl μ).bind fun d μ => (evE g c sl μ).bind fun e μ => binR op (g.fw op) (g.rv op) g.Φ d e μ
  | .cmp op a c, sl, μ => (evE g a sl μ).bind fun d μ => (evE g c sl μ).bind fun e μ => cmpR op g.eq g.Φ d e μ
  | .chn a c e, sl, μ => chnR (evE g a sl μ) (evE g c sl) (evE g e sl) leR leR
  | .isin neg a c, sl, μ => (evE g a sl μ).bind fun d μ => (evE g c sl μ).bind fun e μ => inR neg g.cn g.Φ d e μ
  | .sub a c, sl, μ => (evE g a sl μ).bind fun x μ => (evE g c sl μ).bind fun y μ => R.of (subD μ x y) μ
  | .slc a lo hi, sl, μ => sliceR (evE g a sl μ) (fun μ => if isNil lo then .ok none μ else partR (evE g lo sl μ)) (fun μ => if isNil hi then .ok none μ else partR (evE g hi sl μ))
  | .not a, sl, μ => (evE g a sl μ).bind fun d μ => R.of ((truth μ d).map fun k => D.bl !k) μ
  | .and a c, sl, μ => andR (evE g a sl μ) (evE g c sl)
  | .or a c, sl, μ => orR (evE g a sl μ) (evE g c sl)
  | .ife t a c, sl, μ => ifR (tst (evE g t sl μ)) (evE g a sl) (evE g c sl)
  | .neg a, sl, μ => (evE g a sl μ).bind (negR g.ng g.Φ)
  | .call k es, sl, μ => (evL g es sl μ).bind (callA (g.Φ k))
  | .calC nj k es, sl, μ => (evL g es sl μ).bind (callC (fun j => nj.lookup j) sl (g.Φ k))
  | .mk c es, sl, μ => (evL g es sl μ).bind (mkO (g.mk' c))
  | .met m o es, sl, μ => (evE g o sl μ).bind (methR (g.mt m) (g.cm m) g.Φ (evL g es sl))
  | .att a o, sl, μ => (evE g o sl μ).bind (attR (g.ix a) (g.pr a) g.Φ)
  | .calV i es, sl, μ => calV g.mk' g.Ψ (evL g es sl) (getS sl i) μ
  | .lam k, _, μ => .ok (.nfn k) μ
  | .fb f es, sl, μ => (evL g es sl μ).bind (fbR f)
  | .fc f es, sl, μ => (evL g es sl μ).bind (fcR f)
  | .len es, sl, μ => (evL g es sl μ).bind (lenR g.ln g.Φ)
  | .isi es, sl, μ => (evL g es sl μ).bind (isiR g.isc)
  | .bm m o es, sl, μ => (evE g o sl μ).bind (bmR isML (bmX m) (evL g es sl))
  | .lc t vs it c elt, sl, μ => lcR t vs (evI g it sl μ) (fun sl μ => tst (evE g c sl μ)) (evE g elt) sl
  | .lc0 t vs it elt, sl, μ => lcR t vs (evI g it sl μ) (fun _ μ => .ok true μ) (evE g elt) sl
  | .sc t vs it c elt, sl, μ => scR t vs (evI g it sl μ) (fun sl μ => tst (evE g c sl μ)) (evE g elt) sl
  | .sc0 t vs it elt, sl, μ => scR t vs (evI g it sl μ) (fun _ μ => .ok true μ) (evE g elt) sl
  | _, _, _ => .no
def evL (g : Gm) : E → Sl → Sto → R (List D)
  | .nil, _, μ => .ok [] μ
  | .cons e es, sl, μ => (evE g e sl μ).bind fun d μ => (evL g es sl μ).bind fun ds μ => .ok (d :: ds) μ
  | _, _, _ => .no
def evI (g : Gm) : E → Sl → Sto → R (List D)
  | .rng1 es, sl, μ => (evL g es sl μ).bind rng1R
  | .rng2 es, sl, μ => (evL g es sl μ).bind rng2R
  | .zip es, sl, μ => (evL g es sl μ).bind zipR
  | .enu es, sl, μ => (evL g es sl μ).bind enuR
  | .seq e, sl, μ => itR (evE g e sl μ)
  | _, _, _ => .no
end
def unpO (t : T) (sl : Sl) (d : D) (μ : Sto) : O := match setT t [d] sl with
  | some sl' => .nx sl' μ
  | none => .no
def fldO (ix : Nat → Option Nat) (sl : Sl) (y x : D) (μ : Sto) : O := match setF ix y x μ with
  | some μ => .nx sl μ
  | none => .no
def evS (g : Gm) : S → Sl → Sto → O
  | .nil, sl, μ => .nx sl μ
  | .cons s ss, sl, μ => thenO (evS g s sl μ) (evS g ss)
  | .frz i ss, sl, μ => frzS i sl μ (evS g ss)
  | .expr e, sl, μ => seqO (evE g e sl μ) sl fun _ μ => .nx sl μ
  | .ret e, sl, μ => seqO (evE g e sl μ) sl fun d μ => .rt d μ
  | .retN, _, μ => .rt .non μ
  | .pass, sl, μ => .nx sl μ
  | .brk, sl, μ => .bk sl μ
  | .cont, sl, μ => .ct sl μ
  | .iff t a c, sl, μ => seqO (tst (evE g t sl μ)) sl fun k μ => if k then evS g a sl μ else evS g c sl μ
  | .set i e, sl, μ => seqO (evE g e sl μ) sl fun d μ => .nx (sl.set i (some d)) μ
  | .par i j es, sl, μ => seqO (evL g es sl μ) sl fun ds μ => parO i j sl ds μ
  | .unp t e, sl, μ => seqO (evE g e sl μ) sl fun d μ => unpO t sl d μ
  | .for t it body, sl, μ => seqO (evI g it sl μ) sl fun ds μ => forO t (evS g body) ds sl μ
  | .whi n t body, sl, μ => whiO (fun sl μ => tst (evE g t sl μ)) (evS g body) n sl μ
  | .fld a o e, sl, μ => seqO (evE g e sl μ) sl fun y μ => seqO (evE g o sl μ) sl fun x μ => fldO (g.ix a) sl y x μ
  | .rse c, sl, μ => .ex ⟨c, none⟩ sl μ
  | .tri c body su, sl, μ => tryO (evS g body sl μ) (fun k => g.exi k c) (evS g su)
  | .ndef k i, sl, μ => .nx (sl.set i (some (.nfn k))) μ
  | .bad, _, _ => .no
end Q
/-! Q40: a text of the small language is that of the Python text: the look, the frame, what is known. -/
namespace Q
open PySem PySem.Spec PyProof.Rows L2
/-- where a text stands -/
structure Cf where
  N : List Str
  sc : Scope
  fn : Bool
  own : Bool
  calm : Bool
  tab : Option Nat
  qual : Str
def Cf.blk (cf : Cf) (scope : Scope) : Cf := { cf with sc := relS scope cf.sc, fn := false, own := false, tab := none }
def Cf.hot (cf : Cf) : Cf := { cf with calm := false, own := false, tab := none }
/-- the names that texts lean on -/
structure Tb where
  free : List Str
  gln : List Str
  cln : List Str
  fnn : List Str
  anm : List Str
  nm : Nat → Nat → Nat → Str
  nf : Nat → NFi
  exc : List Nat
/-! ### looks -/
def visB (sc : Scope) (x : Str) : Bool := match sc.names.lookup x with
  | some .local => true
  | some .cell => true
  | some .free => true
  | _ => false
def glB (sc : Scope) (x : Str) : Bool := decide (sc.names.lookup x = some .globalImplicit) && !(x == ("__debug__" : Str))
def stoB (cf : Cf) (x : Str) : Bool := match cf.sc.names.lookup x with
  | some .local => true
  | some .cell => cf.fn
  | _ => false
def litB : D → Const → Bool
  | .int i, .int j => decide (i = j)
  | .str x, .str y => decide (x = y)
  | .bl x, .bool y => x == y
  | .non, .none => true
  | _, _ => false
def notSet : Expr → Bool
  | .Set _ _ _ => false
  | _ => true
def isTupT : Expr → Bool
  | .Tuple _ _ _ => true
  | _ => false
def freB (T : Tb) (cf : Cf) (x y : Str) : Bool := x == y && glB cf.sc y && T.free.contains y && !(y == ("__name__" : Str))
def Fb.nm : Fb → String
  | .len => "len" | .int => "int" | .sum => "sum" | .any => "any" | .all => "all" | .abs => "abs" | .tuple => "tuple" | .list => "list" | .mlist => "list"
  | .sorted => "sorted" | .max2 => "max" | .min2 => "min" | .str => "str" | .bool => "bool"
def Fc.nm : Fc → String
  | .set => "set" | .sorted => "sorted"
def Bm.nm : Bm → String
  | .append => "append" | .extend => "extend" | .pop => "pop"
def bmN : Bm → List Expr → Bool
  | .pop, as => as.isEmpty
  | _, as => !as.isEmpty
def freC (T : Tb) (cf : Cf) (x y : Str) (as : List Expr) : Bool := cf.calm && freB T cf x y && noStar as && !as.isEmpty
def ixOk : Expr → Bool
  | .Constant _ _ _ => true
  | .Name _ _ => true
  | .BinOp _ _ _ _ => true
  | .UnaryOp _ _ _ => true
  | .Call _ _ _ _ => true
  | .Subscript _ _ _ => true
  | .Attribute _ _ _ => true
  | .Tuple _ _ _ => false
  | _ => false
def lnB (apos pos : Pos) : Bool := apos.endLine == pos.line
def ownOf (N : List Str) (vs : List Nat) : List (Str × Nat) := vs.map fun i => (N.getD i "", i)
def freeB (sc scope : Scope) : Bool := scope.names.all fun y => !decide (y.2 = .free) || decide (sc.names.lookup y.1 = some .cell) || decide (sc.names.lookup y.1 = some .free)
def frOf (scope : Scope) : List Str := (scope.names.filter fun y => decide (y.2 = .free)).map (·.1)
def capB (cf : Cf) (n : NFi) (js : List Nat) : Bool := freeB cf.sc n.scope && decide (n.fr = frOf n.scope) && decide (js.map (fun j => cf.N[j]?) = n.fr.map some)
def plainArgs (a : Arguments) : Bool := a.defaults.isEmpty && a.kw_defaults.isEmpty
mutual
def chkG : T → Cf → Expr → Bool
  | .nm i, cf, .Name x _ => decide (cf.N[i]? = some x) && stoB cf x
  | .tp ts, cf, .Tuple es _ _ => cf.calm && chkGs ts cf es && es.all (fun e => !PySem.W.isStarred e) && ts.len == es.length
  | _, _, _ => false
def chkGs : T → Cf → List Expr → Bool
  | .nil, _, [] => true
  | .cons t ts, cf, e :: es => chkG t cf e && chkGs ts cf es && !PySem.W.isStarred e
  | _, _, _ => false
end
/-- one clause, with a test or none -/
def gen1 : List Comprehension → Option (Expr × Expr × Expr)
  | [⟨tg, it, [i], a⟩] => if a = 0 then some (tg, it, i) else none
  | _ => none
def gen0 : List Comprehension → Option (Expr × Expr)
  | [⟨tg, it, [], a⟩] => if a = 0 then some (tg, it) else none
  | _ => none
/-- a comprehension's block -/
def blkB (cf : Cf) (scope : Scope) (t : T) (vs : List Nat) : Bool := cf.calm && blkC cf.N cf.sc scope (ownOf cf.N vs) && t.slots.all fun i => vs.contains i
/-- forms whose test is looked at -/
def tstOk : E → Bool
  | .chn _ _ _ => false
  | .ife _ _ _ => false
  | .and a c => tstOk a && tstOk c
  | .or a c => tstOk a && tstOk c
  | .not a => tstOk a
  | .frz _ => false
  | _ => true
mutual
def chkE (T : Tb) : E → Cf → Expr → Bool
  | .bad, _, _ => true
  | .var i, cf, .Name x _ => decide (cf.N[i]? = some x) && visB cf.sc x && !(x == ("__debug__" : Str)) && !(x == ("__classdict__" : Str))
  | .lit d, _, .Constant c _ _ => litB d c
  | .glb j, cf, .Name x _ => decide (T.gln[j]? = some x) && glB cf.sc x
  | .gcl c, cf, .Name x _ => decide (T.cln[c]? = some x) && glB cf.sc x
  | .ty t, cf, .Name x _ => freB T cf x (Str.ofString t.name) && !decide (t = .none)
  | .tup es, cf, .Tuple as _ _ => chkL T es cf as
  | .lst es, cf, .List as _ => chkL T es cf as
  | .mlst es, cf, .List as _ => chkL T es cf as
  | .frz e, cf, a => chkE T e cf a
  | .bin op a c, cf, .BinOp x op' y _ => cf.calm && decide (op = op') && chkE T a cf x && chkE T c cf y
  | .cmp op a c, cf, .Compare x [op'] [y] _ => cf.calm && decide (op = op') && !behindInMarks op y && chkE T a cf x && chkE T c cf y
  | .chn a c e, cf, .Compare x [.LtE, .LtE] [y, z] _ => cf.calm && !lastMarks [.LtE, .LtE] [y, z] && chkE T a cf x && chkE T c cf y && chkE T e cf z
  | .isin neg a c, cf, .Compare x [op'] [y] _ => cf.calm && decide (op' = if neg then .NotIn else .In) && !behindInMarks op' y && chkE T a cf x && chkE T c cf y
  | .sub a c, cf, .Subscript x y _ => ixOk y && chkE T a cf x && chkE T c cf y
  | .slc a lo hi, cf, .Subscript x (.Slice l h none _) _ => chkE T a cf x && (match l with
    | none => isNil lo
    | some l => !isNil lo && chkE T lo cf l) && (match h with
    | none => isNil hi
    | some h => !isNil hi && chkE T hi cf h)
  | .not a, cf, .UnaryOp .Not x _ => chkE T a cf x
  | .and a c, cf, .BoolOp .And (x :: y :: r) p => chkE T a cf x && (if r.isEmpty then chkE T c cf y else chkE T c cf (.BoolOp .And (y :: r) p))
  | .or a c, cf, .BoolOp .Or (x :: y :: r) p => chkE T a cf x && (if r.isEmpty then chkE T c cf y else chkE T c cf (.BoolOp .Or (y :: r) p))
  | .ife t a c, cf, .IfExp w x y _ => tstOk t && chkE T t cf w && chkE T a cf x && chkE T c cf y
  | .neg a, cf, .UnaryOp .USub x _ => cf.calm && chkE T a cf x
  | .call k es, cf, .Call (.Name x _) as [] _ => cf.calm && decide (T.fnn[k]? = some x) && glB cf.sc x && noStar as && chkL T es cf as
  | .calC nj k es, cf, .Call (.Name x _) as [] _ => cf.calm && cf.fn && cf.tab.isSome && decide (T.fnn[k]? = some x) && glB cf.sc x && noStar as && nj.all (fun q => capB cf (T.nf q.1) q.2) && chkL T es cf as
  | .mk c es, cf, .Call (.Name x _) as [] _ => cf.calm && decide (T.cln[c]? = some x) && glB cf.sc x && noStar as && chkL T es cf as
  | .met m o es, cf, .Call (.Attribute x f ap) as [] p => cf.calm && decide (T.anm[m]? = some f) && attrOk x && noStar as && decide (as.length < 30) && lnB ap p && chkE T o cf x && chkL T es cf as
  | .att a o, cf, .Attribute x f _ => cf.calm && decide (T.anm[a]? = some f) && attrOk x && chkE T o cf x
  | .calV i es, cf, .Call (.Name x _) as [] _ => cf.calm && decide (cf.N[i]? = some x) && visB cf.sc x && !(x == ("__debug__" : Str)) && !(x == ("__classdict__" : Str)) && noStar as && chkL T es cf as
  | .lam _, cf, .Lambda ps _ scope p => (match cf.tab with
    | some j => decide (T.nm j p.line p.col = cf.qual ++ "<lambda>") && freeB cf.sc scope && plainArgs ps
    | none => false)
  | .fb f es, cf, .Call (.Name x _) as [] _ => freC T cf x (Str.ofString f.nm) as && chkL T es cf as
  | .fc f es, cf, .Call (.Name x _) as [] _ => freC T cf x (Str.ofString f.nm) as && chkL T es cf as
  | .len es, cf, .Call (.Name x _) as [] _ => freC T cf x "len" as && chkL T es cf as
  | .isi es, cf, .Call (.Name x _) as [] _ => freC T cf x "isinstance" as && chkL T es cf as
  | .bm m o es, cf, .Call (.Attribute x f ap) as [] p => decide (f = Str.ofString m.nm) && attrOk x && noStar as && decide (as.length < 30) && lnB ap p && bmN m as && chkE T o cf x && chkL T es cf as
  | .lc t vs it c elt, cf, .ListComp e gs scope _ => (match gen1 gs with
    | some (tg, iter, i) => blkB cf scope t vs && notSet iter && tstOk c && chkG t (cf.blk scope) tg && chkI T it cf tg iter && chkE T c (cf.blk scope) i && chkE T elt (cf.blk scope) e
    | none => false)
  | .lc0 t vs it elt, cf, .ListComp e gs scope _ => (match gen0 gs with
    | some (tg, iter) => blkB cf scope t vs && notSet iter && chkG t (cf.blk scope) tg && chkI T it cf tg iter && chkE T elt (cf.blk scope) e
    | none => false)
  | .sc t vs it c elt, cf, .SetComp e gs scope _ => (match gen1 gs with
    | some (tg, iter, i) => blkB cf scope t vs && notSet iter && tstOk c && chkG t (cf.blk scope) tg && chkI T it cf tg iter && chkE T c (cf.blk scope) i && chkE T elt (cf.blk scope) e
    | none => false)
  | .sc0 t vs it elt, cf, .SetComp e gs scope _ => (match gen0 gs with
    | some (tg, iter) => blkB cf scope t vs && notSet iter && chkG t (cf.blk scope) tg && chkI T it cf tg iter && chkE T elt (cf.blk scope) e
    | none => false)
  | _, _, _ => false
def chkL (T : Tb) : E → Cf → List Expr → Bool
  | .nil, _, [] => true
  | .cons e es, cf, a :: as => chkE T e cf a && chkL T es cf as && !PySem.W.isStarred a
  | _, _, _ => false
def chkI (T : Tb) : E → Cf → Expr → Expr → Bool
  | .rng1 es, cf, _, .Call (.Name x _) [a] [] _ => freB T cf x "range" && !PySem.W.isStarred a && chkL T es cf [a]
  | .rng2 es, cf, _, .Call (.Name x _) [a, c] [] _ => freB T cf x "range" && !PySem.W.isStarred a && !PySem.W.isStarred c && chkL T es cf [a, c]
  | .zip es, cf, tg, .Call (.Name x _) [a, c] [] _ => freB T cf x "zip" && isTupT tg && !PySem.W.isStarred a && !PySem.W.isStarred c && chkL T es cf [a, c]
  | .enu es, cf, tg, .Call (.Name x _) [a] [] _ => freB T cf x "enumerate" && isTupT tg && !PySem.W.isStarred a && chkL T es cf [a]
  | .seq e, cf, _, a => chkE T e cf a
  | _, _, _, _ => false
end
/-! ### functions made on the way, as they stand in a text -/
abbrev Nfs := List (Nat × NFi)
mutual
def nfE : E → Str → Expr → Nfs
  | .lam k, q, .Lambda ps b scope _ => [(k, ⟨"<lambda>", q ++ "<lambda>", ps, .expr b, scope, frOf scope⟩)]
  | .tup es, q, .Tuple as _ _ => nfL es q as
  | .lst es, q, .List as _ => nfL es q as
  | .mlst es, q, .List as _ => nfL es q as
  | .frz e, q, a => nfE e q a
  | .bin _ a c, q, .BinOp x _ y _ => nfE a q x ++ nfE c q y
  | .cmp _ a c, q, .Compare x [_] [y] _ => nfE a q x ++ nfE c q y
  | .chn a c e, q, .Compare x [.LtE, .LtE] [y, z] _ => nfE a q x ++ (nfE c q y ++ nfE e q z)
  | .isin _ a c, q, .Compare x [_] [y] _ => nfE a q x ++ nfE c q y
  | .sub a c, q, .Subscript x y _ => nfE a q x ++ nfE c q y
  | .slc a lo hi, q, .Subscript x (.Slice l h none _) _ => nfE a q x ++ ((match l with
    | none => []
    | some l => nfE lo q l) ++ (match h with
    | none => []
    | some h => nfE hi q h))
  | .not a, q, .UnaryOp .Not x _ => nfE a q x
  | .and a c, q, .BoolOp .And (x :: y :: r) p => nfE a q x ++ (if r.isEmpty then nfE c q y else nfE c q (.BoolOp .And (y :: r) p))
  | .or a c, q, .BoolOp .Or (x :: y :: r) p => nfE a q x ++ (if r.isEmpty then nfE c q y else nfE c q (.BoolOp .Or (y :: r) p))
  | .ife t a c, q, .IfExp w x y _ => nfE t q w ++ (nfE a q x ++ nfE c q y)
  | .neg a, q, .UnaryOp .USub x _ => nfE a q x
  | .call _ es, q, .Call (.Name _ _) as [] _ => nfL es q as
  | .calC _ _ es, q, .Call (.Name _ _) as [] _ => nfL es q as
  | .mk _ es, q, .Call (.Name _ _) as [] _ => nfL es q as
  | .met _ o es, q, .Call (.Attribute x _ _) as [] _ => nfE o q x ++ nfL es q as
  | .att _ o, q, .Attribute x _ _ => nfE o q x
  | .calV _ es, q, .Call (.Name _ _) as [] _ => nfL es q as
  | .fb _ es, q, .Call (.Name _ _) as [] _ => nfL es q as
  | .fc _ es, q, .Call (.Name _ _) as [] _ => nfL es q as
  | .len es, q, .Call (.Name _ _) as [] _ => nfL es q as
  | .isi es, q, .Call (.Name _ _) as [] _ => nfL es q as
  | .bm _ o es, q, .Call (.Attribute x _ _) as [] _ => nfE o q x ++ nfL es q as
  | .lc _ _ it c elt, q, .ListComp x gs _ _ => (match gen1 gs with
    | some (_, iter, i) => nfI it q iter ++ (nfE c q i ++ nfE elt q x)
    | none => [])
  | .lc0 _ _ it elt, q, .ListComp x gs _ _ => (match gen0 gs with
    | some (_, iter) => nfI it q iter ++ nfE elt q x
    | none => [])
  | .sc _ _ it c elt, q, .SetComp x gs _ _ => (match gen1 gs with
    | some (_, iter, i) => nfI it q iter ++ (nfE c q i ++ nfE elt q x)
    | none => [])
  | .sc0 _ _ it elt, q, .SetComp x gs _ _ => (match gen0 gs with
    | some (_, iter) => nfI it q iter ++ nfE elt q x
    | none => [])
  | _, _, _ => []
def nfL : E → Str → List Expr → Nfs
  | .cons e es, q, a :: as => nfE e q a ++ nfL es q as
  | _, _, _ => []
def nfI : E → Str → Expr → Nfs
  | .rng1 es, q, .Call (.Name _ _) as [] _ => nfL es q as
  | .rng2 es, q, .Call (.Name _ _) as [] _ => nfL es q as
  | .zip es, q, .Call (.Name _ _) as [] _ => nfL es q as
  | .enu es, q, .Call (.Name _ _) as [] _ => nfL es q as
  | .seq e, q, a => nfE e q a
  | _, _, _ => []
end
/-! ### the frame -/
structure Fr (T : Tb) (U : Wd) (lv : Nat) (cl : List (Str × Addr)) (cf : Cf) (X : Cx) (W : WX) : Prop where
  hX : XU X U
  N : X.N = cf.N
  nd : cf.N.Nodup
  sc : X.env.scope = cf.sc
  calm : cf.calm = true → X.calm = true ∧ Room (lv + 1) X.A ∧ Takes X W ∧ PassesOwn (model X.prog X.w) X.A X.env X.xe
  fn : cf.fn = true → ∀ x, X.fn x = true
  own : cf.own = true → X.stack = X.env :: X.outer ∧ X.env.frame = some X.env.locals
  tab : ∀ j, cf.tab = some j → cl = X.env.cells ∧ X.env.qual = cf.qual ∧ ∃ c P, LamX.TabB X.base X.mg c P ∧ X.env.code = .ref c ∧ (P, T.nm j) ∈ U.T ∧ ∀ p ∈ U.T, p.1 = P → p.2 = T.nm j
theorem XU.fr {X : Cx} {U : Wd} (h : XU X U) (cl : List (Str × Addr)) : XU X (U.fr cl) := ⟨h.P, h.w, h.K, h.mg, h.base⟩
section
variable {T : Tb} {U : Wd} {lv : Nat} {cl : List (Str × Addr)} {cf : Cf} {X : Cx} {W : WX}
theorem Fr.blk (F : Fr T U lv cl cf X W) (scope : Scope) (s : Shared) (H : Hp) (C : Addr) (cl' : List (Str × Addr)) (fp : List Addr) : Fr T U lv cl (cf.blk scope) (X.blk s H scope (compEnvC scope cl' C X.env) fp) W0 :=
  ⟨⟨F.hX.P, F.hX.w, F.hX.K, F.hX.mg, F.hX.base⟩, F.N, F.nd, by show relS scope X.env.scope = relS scope cf.sc; rw [F.sc], fun h => ⟨(F.calm h).1, (F.calm h).2.1, takes0, PassesOwn.never⟩, fun h => Bool.noConfusion h, fun h => Bool.noConfusion h, fun j h => by cases h⟩
theorem Fr.tr (F : Fr T U lv cl cf X W) {W' : WX} {pn : List (Addr × Obj)} {xe : Value → Shared → Prop} (tk : Takes (X.tr pn xe) W') (po : PassesOwn (model X.prog X.w) X.A X.env xe) : Fr T U lv cl cf (X.tr pn xe) W' :=
  ⟨⟨F.hX.P, F.hX.w, F.hX.K, F.hX.mg, F.hX.base⟩, F.N, F.nd, F.sc, fun h => ⟨(F.calm h).1, (F.calm h).2.1, tk, po⟩, F.fn, F.own, F.tab⟩
theorem Fr.hot (F : Fr T U lv cl cf X W) (a : Addr) (pn : List (Addr × Obj)) (W' : WX) : Fr T U lv cl cf.hot (X.suite a pn) W' :=
  ⟨⟨F.hX.P, F.hX.w, F.hX.K, F.hX.mg, F.hX.base⟩, F.N, F.nd, F.sc, fun h => Bool.noConfusion h, F.fn, fun h => Bool.noConfusion h, fun j h => by cases h⟩
end
/-! ### what is known of the world -/
structure WOk (T : Tb) (U : Wd) (lv : Nat) (g : Gm) : Prop where
  fre : ∀ x ∈ T.free, U.mg x = none
  gln : ∀ (j : Nat) x, T.gln[j]? = some x → ∃ v u, U.mg x = some u ∧ RelV v u ∧ ∀ G, Rep U G v (g.gl j)
  cln : ∀ (c : Nat) x, T.cln[c]? = some x → U.mg x = some (.ref (U.cA c)) ∧ PySem.W.keepIn U.K (.ref (U.cA c)) = true
  fnn : ∀ (k : Nat) x, T.fnn[k]? = some x → U.mg x = some (.ref (U.fA k)) ∧ PySem.W.keepIn U.K (.ref (U.fA k)) = true ∧ FnR U.P U.w U.K U.mg U.base (L2.CX U.P U.w) lv (U.fA k) (spF U (g.Φ k))
  bk : ∀ k, Backs (g.Φ k)
  bkC : ∀ k, Backs (g.Ψ k)
  ini : ∀ c k n, g.ini c = some (k, n) → PySem.W.keepIn U.K (.ref (U.cA c)) = true ∧ (U.cF c).length = n ∧ ∃ f, Mk U.K (U.cA c) f ∧ FnR U.P U.w U.K U.mg U.base (L2.CX U.P U.w) lv f (spF U (g.Φ k))
  opB : ∀ op, OwnB U lv g.Φ op (g.fw op) (g.rv op)
  opC : OwnC U lv g.Φ g.eq g.cn g.ln g.ng
  att : ∀ (a : Nat) f, T.anm[a]? = some f → AttOk U lv g.Φ f (g.ix a) (g.pr a)
  few : ∀ c, (U.cF c).length < 1000
  met : ∀ (m : Nat) f, T.anm[m]? = some f → MethOk U lv g.Φ f (g.mt m) (g.cm m)
  isi : IsiOk U g.isc
  clo : ∀ k, CloOk U lv k (g.Ψ k)
  exc : ∀ c ∈ T.exc, PySem.W.excIn U.K (U.cA c) [.type "ValueError", .type "Exception", .type "BaseException", .type "object"] "ValueError.__new__" = true ∧ PySem.W.subIn U.K (.ref (U.cA c)) (.type "BaseException") = some true ∧ PySem.W.typeIn U.K (.ref (U.cA c)) = some (.type "type")
  exi : ∀ k c z, g.exi k c = some z → PySem.W.exmOne U.K (.ref (U.cA k)) (.ref (U.cA c)) = some z
  nf : ∀ k, U.nf k = T.nf k
end Q
/-! Q41: a text that the look takes comes to its evaluation: expressions. -/
namespace Q
open PySem PySem.Spec PyProof.Rows L2
theorem vis_of {sc : Scope} {x : Str} (h : visB sc x = true) : Vis sc x := by
  unfold visB at h
  split at h
  · exact .inl (by assumption)
  · exact .inr (.inl (by assumption))
  · exact .inr (.inr (by assumption))
  · cases h
theorem sto_of {cf : Cf} {x : Str} (h : stoB cf x = true) : Loc cf.sc x ∧ (cf.fn = true ∨ cf.sc.names.lookup x = some .local) := by
  unfold stoB at h
  split at h
  · rename_i e; exact ⟨.inl e, .inr e⟩
  · rename_i e; exact ⟨.inr e, .inl h⟩
  · cases h
theorem fsi_of {e : Expr} (h : notSet e = true) (env : Env) : ∀ x, foldedSetIterable e env x = pure x := by
  intro x
  cases e <;> first | rfl | cases h
theorem ix_of {e : Expr} (h : ixOk e = true) : PlainIx e := by
  intro o i
  cases e <;> first | rfl | cases h
theorem own_map (N : List Str) (vs : List Nat) : (ownOf N vs).map (·.2) = vs := by
  unfold ownOf
  rw [List.map_map]
  exact List.map_id _
theorem ty_boot (t : Ty) (h : t ≠ .none) : bootBuiltins (Str.ofString t.name) = some (.type t.name) := by
  cases t <;> first | exact absurd rfl h | decide +kernel
theorem fb_boot (f : Fb) : bootBuiltins (Str.ofString f.nm) = some f.val := by cases f <;> decide +kernel
theorem fc_boot (f : Fc) : bootBuiltins (Str.ofString f.nm) = some f.val := by cases f <;> decide +kernel
theorem len_boot : bootBuiltins "len" = some (.builtin "len") := by decide +kernel
theorem isi_boot : bootBuiltins "isinstance" = some (.builtin "isinstance") := by decide +kernel
section
variable {T : Tb} {U : Wd} {lv : Nat} {g : Gm} {cl : List (Str × Addr)} {cf : Cf} {X : Cx} {b : B0} {W : WX}
theorem Fr.gl (F : Fr T U lv cl cf X W) {x : Str} (h : glB cf.sc x = true) : Gl X x ∧ (x == ("__debug__" : Str)) = false := by
  unfold glB at h
  rw [Bool.and_eq_true, decide_eq_true_eq, Bool.not_eq_true'] at h
  refine ⟨?_, h.2⟩
  show X.env.scope.names.lookup x = _
  rw [F.sc]
  exact h.1
theorem Fr.fre (F : Fr T U lv cl cf X W) (O : WOk T U lv g) {x y : Str} (h : freB T cf x y = true) : x = y ∧ Gl X y ∧ X.mg y = none ∧ y ≠ "__name__" ∧ (y == ("__debug__" : Str)) = false := by
  unfold freB at h
  rw [Bool.and_eq_true, Bool.and_eq_true, Bool.and_eq_true, Bool.not_eq_true', beq_iff_eq, List.contains_iff_mem, beq_eq_false_iff_ne] at h
  obtain ⟨⟨⟨h1, h2⟩, h3⟩, h4⟩ := h
  exact ⟨h1, (F.gl h2).1, by rw [F.hX.mg]; exact O.fre _ h3, h4, (F.gl h2).2⟩
theorem sndG : ∀ (t : Q.T), (∀ (X : Cx) (W : WX) (cf : Cf), Fr T U lv cl cf X W → ∀ e, chkG t cf e = true → JG X (U.fr cl) e t) ∧ (∀ (X : Cx) (W : WX) (cf : Cf), Fr T U lv cl cf X W → ∀ es, chkGs t cf es = true → JGs X (U.fr cl) es t) := by
  intro t
  induction t with
  | nm i =>
    refine ⟨fun X W cf F e h => ?_, fun X W cf F es h => by simp [chkGs] at h⟩
    cases e with
    | Name x p =>
      simp only [chkG, Bool.and_eq_true, decide_eq_true_eq] at h
      obtain ⟨h1, h2⟩ := sto_of h.2
      exact jg_name (by rw [F.N]; exact F.nd) (by rw [F.N]; exact h.1) (by rw [F.sc]; exact h1) (h2.imp (fun z => F.fn z _) fun z => by rw [F.sc]; exact z)
    | _ => simp [chkG] at h
  | tp ts ih =>
    refine ⟨fun X W cf F e h => ?_, fun X W cf F es h => by simp [chkGs] at h⟩
    cases e with
    | Tuple es k p =>
      simp only [chkG, Bool.and_eq_true, beq_iff_eq] at h
      obtain ⟨⟨⟨h1, h2⟩, h3⟩, h4⟩ := h
      exact jg_tup (F.hX.fr cl) (F.calm h1).1 (ih.2 X W cf F es h2) h3 h4
    | _ => simp [chkG] at h
  | nil =>
    refine ⟨fun X W cf F e h => by simp [chkG] at h, fun X W cf F es h => ?_⟩
    cases es with
    | nil => exact jgs_nil
    | cons a as => simp [chkGs] at h
  | cons t ts ih1 ih2 =>
    refine ⟨fun X W cf F e h => by simp [chkG] at h, fun X W cf F es h => ?_⟩
    cases es with
    | nil => simp [chkGs] at h
    | cons e es =>
      simp only [chkGs, Bool.and_eq_true, Bool.not_eq_true'] at h
      obtain ⟨⟨h1, h2⟩, h3⟩ := h
      exact jgs_cons (ih1.1 X W cf F e h1) (ih2.2 X W cf F es h2) h3
/-- a call by a name that the module does not bind -/
theorem je_free {x : Str} {p pos : Pos} {e : Expr} {es : List Expr} {ms : Sl → Sto → R (List D)} {φ : List D → Sto → R D} {v : Value} (hv : (∃ id, v = .builtin id) ∨ ∃ n, v = .type n) (hc : CallJ X U b W v φ) (hg : Gl X x) (hm : X.mg x = none) (hb : bootBuiltins x = some v) (ha : JA X U b W (e :: es) ms) (hs : noStar (e :: es) = true) (hn : x ≠ "__name__") (hd : (x == ("__debug__" : Str)) = false) :
    JE X U b W (.Call (.Name x p) (e :: es) [] pos) fun sl μ => (ms sl μ).bind φ := by
  rcases hv with ⟨id, rfl⟩ | ⟨n, rfl⟩
  · exact je_callB hc hg hm hb ha hs hn hd
  · exact je_callTy hc hg hm hb ha hs hn hd
/-- a call of a thing of the written part, by its name -/
theorem je_glob {x : Str} {p pos : Pos} {as : List Expr} {ms : Sl → Sto → R (List D)} {φ : List D → Sto → R D} {f : Value} (hc : CallJ X U b W f φ) (hg : Gl X x) (hm : X.mg x = some f) (hk : PySem.W.keepIn X.K f = true) (ha : JA X U b W as ms) (hs : noStar as = true) (hd : (x == ("__debug__" : Str)) = false) (h0 : as = [] → ∀ sl μ, ms sl μ = .ok [] μ) :
    JE X U b W (.Call (.Name x p) as [] pos) fun sl μ => (ms sl μ).bind φ := by
  cases as with
  | nil =>
    have e : (fun sl μ => (ms sl μ).bind φ) = fun _ μ => φ [] μ := by
      funext sl μ
      rw [h0 rfl sl μ]
      rfl
    rw [e]
    exact je_callK0 hc hg hm hk hd
  | cons a as => exact je_callK hc hg hm hk ha hs hd
theorem fitL_mem : ∀ {n : Nat} {ds : List D} {d : D}, fitL n ds = true → d ∈ ds → fitD n d = true
  | _, [], _, _, h => by cases h
  | n, e :: ds, d, h, hm => by
    unfold fitL at h
    rw [Bool.and_eq_true] at h
    rcases List.mem_cons.mp hm with z | z
    · subst z; exact h.1
    · exact fitL_mem h.2 z
theorem fitS_at : ∀ {n : Nat} {μ : Sto} {i : Nat} {o : MO}, fitS n μ = true → μ[i]? = some o → fitM n o = true
  | _, [], _, _, _, h => by simp at h
  | n, e :: μ, 0, o, h, h1 => by
    unfold fitS at h
    rw [Bool.and_eq_true] at h
    simp at h1
    subst h1
    exact h.1
  | n, e :: μ, i + 1, o, h, h1 => by
    unfold fitS at h
    rw [Bool.and_eq_true] at h
    exact fitS_at h.2 (by simpa using h1)
theorem RV.fit {U : Wd} {ρ : List Addr} {G : Hp} {n : Nat} {v : V} {d : D} (h : fitD n d = true) (r : RV U ρ G v d) : RV U (ρ.take n) G v d := by
  cases r with
  | ref e =>
    have h : decide (_ < n) = true := h
    rw [decide_eq_true_eq] at h
    exact .ref (by rw [List.getElem?_take_of_lt h]; exact e)
  | pure r => exact .pure r
  | nfn a b => exact .nfn a b
  | clo h1 h2 h3 h4 h5 h6 h7 => exact .clo h1 h2 h3 h4 h5 h6 h7
theorem RVL.fit {U : Wd} {ρ : List Addr} {G : Hp} {n : Nat} : ∀ {vs : List V} {ds : List D}, fitL n ds = true → RVL U ρ G vs ds → RVL U (ρ.take n) G vs ds
  | _, _, _, .nil => .nil
  | _, _, h, .cons r t => by
    unfold fitL at h
    rw [Bool.and_eq_true] at h
    exact .cons (r.fit h.1) (RVL.fit h.2 t)
theorem take_some {α : Type} {l : List α} {n i : Nat} {a : α} (h : (l.take n)[i]? = some a) : l[i]? = some a ∧ i < n := by
  by_cases hi : i < n
  · rw [List.getElem?_take_of_lt hi] at h; exact ⟨h, hi⟩
  · rw [List.getElem?_eq_none (by rw [List.length_take]; omega)] at h; cases h
theorem SH.take {U : Wd} {b : B0} {μ : Sto} {ρ : List Addr} {G H : Hp} {n : Nat} (s : SH U b μ ρ G H) (hn : b.ρ.length ≤ n) (hf : fitS n (μ.take n) = true) : SH U b (μ.take n) (ρ.take n) G H := by
  refine ⟨s.sub, s.ntb, by rw [List.length_take, List.length_take, s.len], s.nd.sublist (List.take_sublist _ _), fun i p o h1 h2 h3 => s.ap i p o (take_some h1).1 (take_some h2).1 h3, fun i p o h1 h2 => ?_, ?_, s.ext, s.dom, s.gnew, s.gsub, fun p hp => s.rnew p (List.mem_of_mem_take hp), s.tabs, s.b0⟩
  · have m := s.sto i p o (take_some h1).1 (take_some h2).1
    have f := fitS_at hf h2
    cases o with
    | lst ds => exact m
    | ins c ds => obtain ⟨dx, fs, e, nn, l, z⟩ := m; exact ⟨dx, fs, e, nn, l.fit f, z⟩
    | set _ => exact m
    | dct _ => exact m
    | gone => exact m
  · obtain ⟨t, ht⟩ := s.pre
    refine ⟨(ρ.take n).drop b.ρ.length, ?_⟩
    have e : (ρ.take n).take b.ρ.length = b.ρ := by
      rw [List.take_take, Nat.min_eq_left hn, ← ht, List.take_left]
    conv => lhs; lhs; rw [← e]
    exact List.take_append_drop _ _
/-- behind a call: what was made within is forgotten -/
theorem PoE.trim {sl : Sl} {μ : Sto} {ρ : List Addr} {G H : Hp} {σ : St} {Q : VK} {r : R D} (s : SR U b sl μ ρ G σ H) (p : PoE U b W sl ρ G σ Q (trimR μ.length r)) : PoE U b W sl ρ G σ Q r := by
  have hl : ρ.length = μ.length := s.h.len
  have cut : ∀ {μ' : Sto} {ρ' : List Addr} {G' H' : Hp}, SR U b sl μ' ρ' G' σ H' → ρ <+: ρ' → Sub G G' → fitS μ.length (μ'.take μ.length) = true → SR U b sl (μ'.take μ.length) (ρ'.take μ.length) G' σ H' ∧ ρ <+: ρ'.take μ.length := fun {μ' ρ' G' H'} s' hr hg hf => by
    obtain ⟨t, ht⟩ := hr
    have e : ρ'.take μ.length = ρ := by rw [← ht, ← hl, List.take_left]
    refine ⟨⟨s'.h.take ?_ hf, fun i d q => ?_, s'.ln⟩, by rw [e]; exact List.prefix_refl _⟩
    · obtain ⟨u, hu⟩ := s.h.pre
      rw [← hl, ← hu, List.length_append]
      omega
    · obtain ⟨v, h1, h2⟩ := s.sl i d q
      refine ⟨v, h1, ?_⟩
      rw [e]
      exact h2.mono (List.prefix_refl _) hg
  cases r with
  | no => exact p
  | ok d μ' =>
    intro v H' ρ' G' s' hr hg rv
    have p : PoE U b W sl ρ G σ Q (if (fitD μ.length d && fitS μ.length (μ'.take μ.length)) = true then .ok d (μ'.take μ.length) else .ok d μ') := p
    by_cases z : (fitD μ.length d && fitS μ.length (μ'.take μ.length)) = true
    · rw [if_pos z] at p
      rw [Bool.and_eq_true] at z
      obtain ⟨s2, h2⟩ := cut s' hr hg z.2
      exact p v H' _ G' s2 h2 hg (rv.fit z.1)
    · rw [if_neg z] at p
      exact p v H' ρ' G' s' hr hg rv
  | ex x μ' =>
    intro cls dd H' ρ' G' s' hr hg hx
    have p : PoE U b W sl ρ G σ Q (if fitS μ.length (μ'.take μ.length) = true then .ex x (μ'.take μ.length) else .ex x μ') := p
    by_cases z : fitS μ.length (μ'.take μ.length) = true
    · rw [if_pos z] at p
      obtain ⟨s2, h2⟩ := cut s' hr hg z
      exact p cls dd H' _ G' s2 h2 hg hx
    · rw [if_neg z] at p
      exact p cls dd H' ρ' G' s' hr hg hx
theorem callJ_trim {f : Value} {φ : List D → Sto → R D} (h : CallJ X U b W f φ) : CallJ X U b W f fun ds μ => trimR μ.length (φ ds μ) :=
  fun pins s σ H vs us Q sl μ ρ G ds I r S ra p => h pins s σ H vs us Q sl μ ρ G ds I r S ra (PoE.trim S p)
/-- a def's promise, trimmed -/
theorem PoF.trim {μ : Sto} {ρ : List Addr} {G H : Hp} {Q : VK} {E : XK} {r : R D} (hl : ρ.length = μ.length) (p : PoF U ⟨H, ρ, G⟩ Q E (trimR μ.length r)) : PoF U ⟨H, ρ, G⟩ Q E r := by
  cases r with
  | no => exact p
  | ok d μ' =>
    intro v H' ρ' G' s' rv
    have p : PoF U ⟨H, ρ, G⟩ Q E (if (fitD μ.length d && fitS μ.length (μ'.take μ.length)) = true then .ok d (μ'.take μ.length) else .ok d μ') := p
    by_cases z : (fitD μ.length d && fitS μ.length (μ'.take μ.length)) = true
    · rw [if_pos z] at p
      rw [Bool.and_eq_true] at z
      exact p v H' _ G' (s'.take (Nat.le_of_eq hl) z.2) (rv.fit z.1)
    · rw [if_neg z] at p
      exact p v H' ρ' G' s' rv
  | ex x μ' =>
    intro cls dd H' ρ' G' s' hx
    have p : PoF U ⟨H, ρ, G⟩ Q E (if fitS μ.length (μ'.take μ.length) = true then .ex x (μ'.take μ.length) else .ex x μ') := p
    by_cases z : fitS μ.length (μ'.take μ.length) = true
    · rw [if_pos z] at p
      exact p cls dd H' _ G' (s'.take (Nat.le_of_eq hl) z) hx
    · rw [if_neg z] at p
      exact p cls dd H' ρ' G' s' hx
theorem spF_trim {φ : List D → Sto → R D} {vs : List V} {H : Hp} {Q : VK} {E : XK} (h : spF U (fun ds μ => trimR μ.length (φ ds μ)) vs H Q E) : spF U φ vs H Q E := by
  obtain ⟨ds, μ, ρ, G, h1, h2, h3, h4⟩ := h
  exact ⟨ds, μ, ρ, G, h1, h2, h3, PoF.trim h2.len h4⟩
theorem spC_trim {φ : List D → Sto → R D} {n : Nat} {ws : List (Option V)} {vs : List V} {H : Hp} {Q : VK} {E : XK} (h : spC U (fun ds μ => trimR μ.length (φ ds μ)) n ws vs H Q E) : spC U φ n ws vs H Q E := by
  obtain ⟨ds, cs, μ, ρ, G, ws', h1, h2, h3, h4, h5, h6, h7⟩ := h
  exact ⟨ds, cs, μ, ρ, G, ws', h1, h2, h3, h4, h5, h6, PoF.trim h2.len h7⟩
theorem je_bad {a : Expr} : JE X U b W a fun _ _ => .no := ⟨fun pins s σ H Q I h => by obtain ⟨sl, μ, ρ, G, S, p⟩ := h; exact p.elim⟩
theorem jt_bad {a : Expr} : JT X U b W a fun _ _ => .no := ⟨fun pins s σ H Q I h => by obtain ⟨sl, μ, ρ, G, S, p⟩ := h; exact p.elim⟩
theorem jw_bad {a : Expr} : JW X U b W a fun _ _ => .no := ⟨fun wh pins s σ H Q I h => by obtain ⟨sl, μ, ρ, G, S, p⟩ := h; exact p.elim⟩
theorem js_bad {a : Stmt} : JS X U b W a fun _ _ => .no := ⟨fun pins s σ H Q I h => by obtain ⟨sl, μ, ρ, G, S, p⟩ := h; exact p.elim⟩
theorem jss_bad {a : List Stmt} : JSs X U b W a fun _ _ => .no := ⟨fun pins s σ H Q I h => by obtain ⟨sl, μ, ρ, G, S, p⟩ := h; exact p.elim⟩
theorem callJ_mk (F : Fr T U lv cl cf X W) (O : WOk T U lv g) (hc : cf.calm = true) {c : Nat} {φ : List D → Sto → R D} (h : g.mk' c = some φ) : CallJ X (U.fr cl) b W (.ref (U.cA c)) φ := by
  unfold Gm.mk' at h
  obtain ⟨⟨k, n⟩, h1, rfl⟩ := Option.map_eq_some_iff.mp h
  obtain ⟨h2, h3, f, h4, h5⟩ := O.ini c k n h1
  exact callJ_trim (callJ_make F.hX h4 h5 (F.calm hc).2.1 (F.calm hc).2.2.1 h3)
theorem callJ_mkO (F : Fr T U lv cl cf X W) (O : WOk T U lv g) (hc : cf.calm = true) {c : Nat} : CallJ X (U.fr cl) b W (.ref (U.cA c)) (mkO (g.mk' c)) := by
  cases h : g.mk' c with
  | none => intro pins s σ H vs us Q sl μ ρ G ds I r S ra p; exact p.elim
  | some φ => exact callJ_mk F O hc h
theorem evL_nil (es : Q.E) {T : Tb} {cf : Cf} {as : List Expr} (h : chkL T es cf as = true) (e : as = []) : ∀ sl μ, evL g es sl μ = .ok [] μ := by
  subst e
  cases es with
  | nil => intro sl μ; rfl
  | _ => simp [chkL] at h
end
end Q
/-! Q42: a text that the look takes comes to its evaluation: expressions, all forms. -/
namespace Q
open PySem PySem.Spec PyProof.Rows L2
def SndE (T : Tb) (U : Wd) (lv : Nat) (g : Gm) (cl : List (Str × Addr)) (e : E) : Prop := ∀ (X : Cx) (b : B0) (W : WX) (cf : Cf), Fr T U lv cl cf X W → ∀ a, chkE T e cf a = true → (∀ x ∈ nfE e cf.qual a, T.nf x.1 = x.2) →
  JE X (U.fr cl) b W a (evE g e) ∧ (tstOk e = true → JT X (U.fr cl) b W a (fun sl μ => tst (evE g e sl μ)) ∧ ∀ op vs p, a = .BoolOp op vs p → JW X (U.fr cl) b W a fun sl μ => tst (evE g e sl μ))
def SndL (T : Tb) (U : Wd) (lv : Nat) (g : Gm) (cl : List (Str × Addr)) (e : E) : Prop := ∀ (X : Cx) (b : B0) (W : WX) (cf : Cf), Fr T U lv cl cf X W → ∀ as, chkL T e cf as = true → (∀ x ∈ nfL e cf.qual as, T.nf x.1 = x.2) → JA X (U.fr cl) b W as (evL g e)
def SndI (T : Tb) (U : Wd) (lv : Nat) (g : Gm) (cl : List (Str × Addr)) (e : E) : Prop := ∀ (X : Cx) (b : B0) (W : WX) (cf : Cf), Fr T U lv cl cf X W → ∀ tg a, chkI T e cf tg a = true → (∀ x ∈ nfI e cf.qual a, T.nf x.1 = x.2) → JI X (U.fr cl) b W tg a (evI g e)
def Snd (T : Tb) (U : Wd) (lv : Nat) (g : Gm) (cl : List (Str × Addr)) (e : E) : Prop := SndE T U lv g cl e ∧ SndL T U lv g cl e ∧ SndI T U lv g cl e
section
variable {T : Tb} {U : Wd} {lv : Nat} {g : Gm} {cl : List (Str × Addr)} {cf : Cf} {X : Cx} {b : B0} {W : WX}
/-- the test is the value's truth -/
theorem both (hX : XU X U) {a : Expr} {e : Q.E} (h : JE X U b W a (evE g e)) (hp : plainTest a = true) : JE X U b W a (evE g e) ∧ (tstOk e = true → JT X U b W a (fun sl μ => tst (evE g e sl μ)) ∧ ∀ op vs p, a = .BoolOp op vs p → JW X U b W a fun sl μ => tst (evE g e sl μ)) :=
  ⟨h, fun _ => ⟨jt_val hX h hp, fun op vs p e => by subst e; cases hp⟩⟩
theorem noL {e : Q.E} (h : ∀ cf as, chkL T e cf as = false) : SndL T U lv g cl e := fun X b W cf F as z => by rw [h] at z; cases z
theorem noI {e : Q.E} (h : ∀ cf tg a, chkI T e cf tg a = false) : SndI T U lv g cl e := fun X b W cf F tg a z => by rw [h] at z; cases z
theorem noE {e : Q.E} (h : ∀ cf a, chkE T e cf a = false) : SndE T U lv g cl e := fun X b W cf F a z => by rw [h] at z; cases z
theorem mem_l {x : Nat × NFi} {l m : Nfs} (h : x ∈ l) : x ∈ l ++ m := List.mem_append_left _ h
theorem mem_r {x : Nat × NFi} {l m : Nfs} (h : x ∈ m) : x ∈ l ++ m := List.mem_append_right _ h
theorem snd_var (i : Nat) : SndE T U lv g cl (.var i) := by
  intro X b W cf F a h hn
  cases a with
  | Name x p =>
    simp only [chkE, Bool.and_eq_true, decide_eq_true_eq, Bool.not_eq_true'] at h
    obtain ⟨⟨⟨h1, h2⟩, h3⟩, h4⟩ := h
    exact both (F.hX.fr cl) (je_var (by rw [F.N]; exact h1) (by rw [F.sc]; exact vis_of h2) h3 h4) rfl
  | _ => exact absurd h Bool.false_ne_true
theorem snd_lit (d : D) : SndE T U lv g cl (.lit d) := by
  intro X b W cf F a h hn
  cases a with
  | Constant c j p =>
    have h : litB d c = true := h
    refine both (F.hX.fr cl) ?_ rfl
    cases d <;> cases c <;> first | (simp [litB] at h; done) | skip
    all_goals (simp only [litB, decide_eq_true_eq, beq_iff_eq] at h)
    · exact je_non
    · subst h; exact je_bl
    · subst h; exact je_int
    · subst h; exact je_str
  | _ => exact absurd h Bool.false_ne_true
theorem snd_glb (O : WOk T U lv g) (j : Nat) : SndE T U lv g cl (.glb j) := by
  intro X b W cf F a h hn
  cases a with
  | Name x p =>
    simp only [chkE, Bool.and_eq_true, decide_eq_true_eq] at h
    obtain ⟨v, u, h1, h2, h3⟩ := O.gln j x h.1
    exact both (F.hX.fr cl) (je_glb (F.gl h.2).1 (by rw [F.hX.mg]; exact h1) h2 (F.gl h.2).2 fun G => (h3 G).fr cl) rfl
  | _ => exact absurd h Bool.false_ne_true
theorem snd_gcl (O : WOk T U lv g) (j : Nat) : SndE T U lv g cl (.gcl j) := by
  intro X b W cf F a h hn
  cases a with
  | Name x p =>
    simp only [chkE, Bool.and_eq_true, decide_eq_true_eq] at h
    exact both (F.hX.fr cl) (je_glb (v := .ref (U.cA j)) (F.gl h.2).1 (by rw [F.hX.mg]; exact (O.cln j x h.1).1) rfl (F.gl h.2).2 fun G => .cls (U := U.fr cl) j) rfl
  | _ => exact absurd h Bool.false_ne_true
theorem snd_ty (O : WOk T U lv g) (t : Ty) : SndE T U lv g cl (.ty t) := by
  intro X b W cf F a h hn
  cases a with
  | Name x p =>
    simp only [chkE, Bool.and_eq_true, Bool.not_eq_true', decide_eq_false_iff_not] at h
    obtain ⟨rfl, h1, h2, h3, h4⟩ := F.fre O h.1
    exact both (F.hX.fr cl) (je_ty h1 h2 (ty_boot t h.2) h3 h4) rfl
  | _ => exact absurd h Bool.false_ne_true
theorem snd_tup {es : Q.E} (ih : SndL T U lv g cl es) : SndE T U lv g cl (.tup es) := by
  intro X b W cf F a h hn
  cases a with
  | Tuple as k p => exact both (F.hX.fr cl) (je_tup (ih X b W cf F as h hn)) rfl
  | _ => exact absurd h Bool.false_ne_true
theorem snd_lst {es : Q.E} (ih : SndL T U lv g cl es) : SndE T U lv g cl (.lst es) := by
  intro X b W cf F a h hn
  cases a with
  | List as p => exact both (F.hX.fr cl) (je_lst (ih X b W cf F as h hn)) rfl
  | _ => exact absurd h Bool.false_ne_true
theorem snd_mlst {es : Q.E} (ih : SndL T U lv g cl es) : SndE T U lv g cl (.mlst es) := by
  intro X b W cf F a h hn
  cases a with
  | List as p => exact both (F.hX.fr cl) (je_mlst (ih X b W cf F as h hn)) rfl
  | _ => exact absurd h Bool.false_ne_true
theorem snd_frz {e : Q.E} (ih : SndE T U lv g cl e) : SndE T U lv g cl (.frz e) := by
  intro X b W cf F a h hn
  have h : chkE T e cf a = true := by unfold chkE at h; exact h
  have hn : ∀ x ∈ nfE e cf.qual a, T.nf x.1 = x.2 := by unfold nfE at hn; exact hn
  exact ⟨je_frz (ih X b W cf F a h hn).1, fun z => by cases z⟩
theorem snd_bin (O : WOk T U lv g) {op : Operator} {a c : Q.E} (i1 : SndE T U lv g cl a) (i2 : SndE T U lv g cl c) : SndE T U lv g cl (.bin op a c) := by
  intro X b W cf F e h hn
  cases e with
  | BinOp x op' y p =>
    simp only [chkE, Bool.and_eq_true, decide_eq_true_eq] at h
    obtain ⟨⟨⟨h0, rfl⟩, h1⟩, h2⟩ := h
    obtain ⟨_, hr, tk, _⟩ := F.calm h0
    exact both (F.hX.fr cl) (je_binJ (opJ_bin F.hX (O.opB op) (hr.mono (Nat.le_succ _)) tk) (i1 X b W cf F x h1 fun z hz => hn z (mem_l hz)).1 (i2 X b W cf F y h2 fun z hz => hn z (mem_r hz)).1) rfl
  | _ => exact absurd h Bool.false_ne_true
theorem inv_cmp {op : CmpOp} {a c : Q.E} {e : Expr} (h : chkE T (.cmp op a c) cf e = true) : ∃ x y p, e = .Compare x [op] [y] p ∧ cf.calm = true ∧ behindInMarks op y = false ∧ chkE T a cf x = true ∧ chkE T c cf y = true := by
  cases e with
  | Compare x ops ys p =>
    rcases ops with _ | ⟨o, _ | ⟨o', os⟩⟩ <;> rcases ys with _ | ⟨y, _ | ⟨z, ys⟩⟩ <;> first | exact absurd h Bool.false_ne_true | skip
    simp only [chkE, Bool.and_eq_true, decide_eq_true_eq, Bool.not_eq_true'] at h
    obtain ⟨⟨⟨⟨h0, rfl⟩, h3⟩, h1⟩, h2⟩ := h
    exact ⟨x, y, p, rfl, h0, h3, h1, h2⟩
  | _ => exact absurd h Bool.false_ne_true
theorem inv_in {neg : Bool} {a c : Q.E} {e : Expr} (h : chkE T (.isin neg a c) cf e = true) : ∃ x y p, e = .Compare x [if neg then .NotIn else .In] [y] p ∧ cf.calm = true ∧ behindInMarks (if neg then .NotIn else .In) y = false ∧ chkE T a cf x = true ∧ chkE T c cf y = true := by
  cases e with
  | Compare x ops ys p =>
    rcases ops with _ | ⟨o, _ | ⟨o', os⟩⟩ <;> rcases ys with _ | ⟨y, _ | ⟨z, ys⟩⟩ <;> first | exact absurd h Bool.false_ne_true | skip
    simp only [chkE, Bool.and_eq_true, decide_eq_true_eq, Bool.not_eq_true'] at h
    obtain ⟨⟨⟨⟨h0, rfl⟩, h3⟩, h1⟩, h2⟩ := h
    exact ⟨x, y, p, rfl, h0, h3, h1, h2⟩
  | _ => exact absurd h Bool.false_ne_true
theorem inv_chn {a c e : Q.E} {w : Expr} (h : chkE T (.chn a c e) cf w = true) : ∃ x y z p, w = .Compare x [.LtE, .LtE] [y, z] p ∧ cf.calm = true ∧ lastMarks [.LtE, .LtE] [y, z] = false ∧ chkE T a cf x = true ∧ chkE T c cf y = true ∧ chkE T e cf z = true := by
  unfold chkE at h
  split at h <;> first | contradiction | skip
  all_goals (first | (rename_i e1; cases e1; done) | skip)
  rename_i e1
  cases e1
  simp only [Bool.and_eq_true, Bool.not_eq_true'] at h
  obtain ⟨⟨⟨⟨h0, h4⟩, h1⟩, h2⟩, h3⟩ := h
  exact ⟨_, _, _, _, rfl, h0, h4, h1, h2, h3⟩
theorem snd_cmp (O : WOk T U lv g) {op : CmpOp} {a c : Q.E} (i1 : SndE T U lv g cl a) (i2 : SndE T U lv g cl c) : SndE T U lv g cl (.cmp op a c) := by
  intro X b W cf F e h hn
  obtain ⟨x, y, p, rfl, h0, h3, h1, h2⟩ := inv_cmp h
  obtain ⟨_, hr, tk, _⟩ := F.calm h0
  have oj := opJ_cmp (cl := cl) (b := b) (op := op) F.hX O.opC hr tk
  have j1 := (i1 X b W cf F _ h1 fun z hz => hn z (mem_l hz)).1
  have j2 := (i2 X b W cf F _ h2 fun z hz => hn z (mem_r hz)).1
  exact ⟨je_cmpJ oj j1 j2 h3, fun _ => ⟨jt_cmpJ' (F.hX.fr cl) oj j1 j2 h3, fun _ _ _ z => by cases z⟩⟩
theorem snd_in (O : WOk T U lv g) {neg : Bool} {a c : Q.E} (i1 : SndE T U lv g cl a) (i2 : SndE T U lv g cl c) : SndE T U lv g cl (.isin neg a c) := by
  intro X b W cf F e h hn
  obtain ⟨x, y, p, rfl, h0, h3, h1, h2⟩ := inv_in h
  obtain ⟨_, hr, tk, _⟩ := F.calm h0
  have oj := opJ_in (cl := cl) (b := b) neg F.hX O.opC hr tk
  have j1 := (i1 X b W cf F _ h1 fun z hz => hn z (mem_l hz)).1
  have j2 := (i2 X b W cf F _ h2 fun z hz => hn z (mem_r hz)).1
  exact ⟨je_cmpJ oj j1 j2 h3, fun _ => ⟨jt_cmpJ' (F.hX.fr cl) oj j1 j2 h3, fun _ _ _ z => by cases z⟩⟩
theorem snd_chn {a c e : Q.E} (i1 : SndE T U lv g cl a) (i2 : SndE T U lv g cl c) (i3 : SndE T U lv g cl e) : SndE T U lv g cl (.chn a c e) := by
  intro X b W cf F w h hn
  obtain ⟨x, y, z, p, rfl, h0, h4, h1, h2, h3⟩ := inv_chn h
  obtain ⟨_, hr, _⟩ := F.calm h0
  have o := opr_cmp (b := b) (W := W) (F.hX.fr cl) hr.units .LtE
  exact ⟨je_chn (f := leR) (g := leR) o o (i1 X b W cf F _ h1 fun z hz => hn z (mem_l hz)).1 (i2 X b W cf F _ h2 fun z hz => hn z (mem_r (mem_l hz))).1 (i3 X b W cf F _ h3 fun z hz => hn z (mem_r (mem_r hz))).1 h4, fun z => by cases z⟩
theorem snd_sub {a c : Q.E} (i1 : SndE T U lv g cl a) (i2 : SndE T U lv g cl c) : SndE T U lv g cl (.sub a c) := by
  intro X b W cf F e h hn
  cases e with
  | Subscript x y p =>
    simp only [chkE, Bool.and_eq_true] at h
    obtain ⟨⟨h0, h1⟩, h2⟩ := h
    exact both (F.hX.fr cl) (je_sub (F.hX.fr cl) (i1 X b W cf F x h1 fun z hz => hn z (mem_l hz)).1 (i2 X b W cf F y h2 fun z hz => hn z (mem_r hz)).1 (ix_of h0)) rfl
  | _ => exact absurd h Bool.false_ne_true
theorem jo_part {o : Option Expr} {e : Q.E} (F : Fr T U lv cl cf X W) (i : SndE T U lv g cl e) (h : (match o with | none => isNil e | some l => !isNil e && chkE T e cf l) = true) (hn : ∀ x ∈ (match o with | none => [] | some l => nfE e cf.qual l), T.nf x.1 = x.2) :
    JO X (U.fr cl) b W o fun sl μ => if isNil e then .ok none μ else partR (evE g e sl μ) := by
  cases o with
  | none =>
    have h : isNil e = true := h
    simp only [h, if_true]
    exact jo_none
  | some l =>
    have h : (!isNil e && chkE T e cf l) = true := h
    rw [Bool.and_eq_true, Bool.not_eq_true'] at h
    simp only [h.1, Bool.false_eq_true, if_false]
    exact jo_some (i X b W cf F l h.2 hn).1
theorem snd_slc {a lo hi : Q.E} (i1 : SndE T U lv g cl a) (i2 : SndE T U lv g cl lo) (i3 : SndE T U lv g cl hi) : SndE T U lv g cl (.slc a lo hi) := by
  intro X b W cf F e h hn
  cases e with
  | Subscript x y p =>
    cases y with
    | Slice l k st q =>
      cases st with
      | none =>
        simp only [chkE, Bool.and_eq_true] at h
        obtain ⟨⟨h1, h2⟩, h3⟩ := h
        exact both (F.hX.fr cl) (je_slice (F.hX.fr cl) (i1 X b W cf F x h1 fun z hz => hn z (mem_l hz)).1 (jo_part F i2 h2 fun z hz => hn z (mem_r (mem_l hz))) (jo_part F i3 h3 fun z hz => hn z (mem_r (mem_r hz)))) rfl
      | some _ => simp [chkE] at h
    | _ => exact absurd h Bool.false_ne_true
  | _ => exact absurd h Bool.false_ne_true
theorem snd_not {a : Q.E} (i1 : SndE T U lv g cl a) : SndE T U lv g cl (.not a) := by
  intro X b W cf F e h hn
  cases e with
  | UnaryOp op x p =>
    cases op with
    | Not =>
      have j := i1 X b W cf F x h hn
      exact ⟨je_not (F.hX.fr cl) j.1, fun z => ⟨jt_not (j.2 z).1, fun _ _ _ z => by cases z⟩⟩
    | _ => exact absurd h Bool.false_ne_true
  | _ => exact absurd h Bool.false_ne_true
theorem snd_neg (O : WOk T U lv g) {a : Q.E} (i1 : SndE T U lv g cl a) : SndE T U lv g cl (.neg a) := by
  intro X b W cf F e h hn
  cases e with
  | UnaryOp op x p =>
    cases op with
    | USub =>
      simp only [chkE, Bool.and_eq_true] at h
      obtain ⟨_, hr, tk, _⟩ := F.calm h.1
      exact both (F.hX.fr cl) (je_neg F.hX O.opC hr tk (i1 X b W cf F x h.2 hn).1) rfl
    | _ => exact absurd h Bool.false_ne_true
  | _ => exact absurd h Bool.false_ne_true
/-- the rest of a chain of and, or -/
theorem rest_of {op : BoolOp} {c : Q.E} {y : Expr} {r : List Expr} {p : Pos} (F : Fr T U lv cl cf X W) (i2 : SndE T U lv g cl c) (h : (if r.isEmpty then chkE T c cf y else chkE T c cf (.BoolOp op (y :: r) p)) = true) (hn : ∀ x ∈ (if r.isEmpty then nfE c cf.qual y else nfE c cf.qual (.BoolOp op (y :: r) p)), T.nf x.1 = x.2) (hop : op = .And ∨ op = .Or) :
    JE X (U.fr cl) b W (.BoolOp op (y :: r) p) (evE g c) ∧ (tstOk c = true → JW X (U.fr cl) b W (.BoolOp op (y :: r) p) fun sl μ => tst (evE g c sl μ)) := by
  cases r with
  | nil =>
    have j := i2 X b W cf F y h hn
    refine ⟨je_one j.1, fun z => ?_⟩
    rcases hop with rfl | rfl
    · exact jw_and1 (j.2 z).1
    · exact jw_or1 (j.2 z).1
  | cons z zs =>
    have j := i2 X b W cf F _ h hn
    exact ⟨j.1, fun q => (j.2 q).2 _ _ _ rfl⟩
theorem snd_and {a c : Q.E} (i1 : SndE T U lv g cl a) (i2 : SndE T U lv g cl c) : SndE T U lv g cl (.and a c) := by
  intro X b W cf F e h hn
  cases e with
  | BoolOp op vs p =>
    cases op with
    | And =>
      rcases vs with _ | ⟨x, _ | ⟨y, r⟩⟩ <;> first | exact absurd h Bool.false_ne_true | skip
      simp only [chkE, Bool.and_eq_true] at h
      have j1 := i1 X b W cf F x h.1 fun z hz => hn z (mem_l hz)
      have j2 := rest_of (b := b) (op := .And) F i2 h.2 (fun z hz => hn z (mem_r hz)) (.inl rfl)
      refine ⟨je_and (F.hX.fr cl) j1.1 j2.1, fun z => ?_⟩
      have z : (tstOk a && tstOk c) = true := z
      rw [Bool.and_eq_true] at z
      have jw := jw_and (j1.2 z.1).1 (j2.2 z.2)
      exact ⟨PW.pt jw, fun _ _ _ _ => jw⟩
    | Or => simp [chkE] at h
  | _ => exact absurd h Bool.false_ne_true
theorem snd_or {a c : Q.E} (i1 : SndE T U lv g cl a) (i2 : SndE T U lv g cl c) : SndE T U lv g cl (.or a c) := by
  intro X b W cf F e h hn
  cases e with
  | BoolOp op vs p =>
    cases op with
    | Or =>
      rcases vs with _ | ⟨x, _ | ⟨y, r⟩⟩ <;> first | exact absurd h Bool.false_ne_true | skip
      simp only [chkE, Bool.and_eq_true] at h
      have j1 := i1 X b W cf F x h.1 fun z hz => hn z (mem_l hz)
      have j2 := rest_of (b := b) (op := .Or) F i2 h.2 (fun z hz => hn z (mem_r hz)) (.inr rfl)
      refine ⟨je_or (F.hX.fr cl) j1.1 j2.1, fun z => ?_⟩
      have z : (tstOk a && tstOk c) = true := z
      rw [Bool.and_eq_true] at z
      have jw := jw_or (j1.2 z.1).1 (j2.2 z.2)
      exact ⟨PW.pt jw, fun _ _ _ _ => jw⟩
    | And => simp [chkE] at h
  | _ => exact absurd h Bool.false_ne_true
theorem snd_ife {t a c : Q.E} (i0 : SndE T U lv g cl t) (i1 : SndE T U lv g cl a) (i2 : SndE T U lv g cl c) : SndE T U lv g cl (.ife t a c) := by
  intro X b W cf F e h hn
  cases e with
  | IfExp w x y p =>
    simp only [chkE, Bool.and_eq_true] at h
    obtain ⟨⟨⟨h0, h1⟩, h2⟩, h3⟩ := h
    exact ⟨je_ife ((i0 X b W cf F w h1 fun z hz => hn z (mem_l hz)).2 h0).1 (i1 X b W cf F x h2 fun z hz => hn z (mem_r (mem_l hz))).1 (i2 X b W cf F y h3 fun z hz => hn z (mem_r (mem_r hz))).1, fun z => by cases z⟩
  | _ => exact absurd h Bool.false_ne_true
end
end Q
/-! Q43: calls, comprehensions, lists, what is walked. -/
namespace Q
open PySem PySem.Spec PyProof.Rows L2
/-- a call by a name -/
def isCallN : Expr → Bool
  | .Call (.Name _ _) _ [] _ => true
  | _ => false
def isCallA : Expr → Bool
  | .Call (.Attribute _ _ _) _ [] _ => true
  | _ => false
theorem callN_of {e : Expr} (h : isCallN e = true) : ∃ x p as q, e = .Call (.Name x p) as [] q := by
  unfold isCallN at h
  split at h
  · exact ⟨_, _, _, _, rfl⟩
  · cases h
theorem callA_of {e : Expr} (h : isCallA e = true) : ∃ o f p as q, e = .Call (.Attribute o f p) as [] q := by
  unfold isCallA at h
  split at h
  · exact ⟨_, _, _, _, _, rfl⟩
  · cases h
section
variable {T : Tb} {U : Wd} {lv : Nat} {g : Gm} {cl : List (Str × Addr)} {cf : Cf} {X : Cx} {b : B0} {W : WX}
/-- the look takes a call by a name alone -/
theorem isN {f : Expr → Bool} {e : Expr} (h : f e = true) (h0 : ∀ e, isCallN e = false → f e = false) : ∃ x p as q, e = .Call (.Name x p) as [] q := by
  cases z : isCallN e with
  | true => exact callN_of z
  | false => rw [h0 e z] at h; cases h
theorem isA' {f : Expr → Bool} {e : Expr} (h : f e = true) (h0 : ∀ e, isCallA e = false → f e = false) : ∃ o n p as q, e = .Call (.Attribute o n p) as [] q := by
  cases z : isCallA e with
  | true => exact callA_of z
  | false => rw [h0 e z] at h; cases h
theorem notN {f : Expr → Bool} (h : ∀ fn as kw p, isCallN (.Call fn as kw p) = false → f (.Call fn as kw p) = false) (h2 : ∀ e, (∀ fn as kw p, e ≠ .Call fn as kw p) → f e = false) : ∀ e, isCallN e = false → f e = false := by
  intro e z
  by_cases q : ∃ fn as kw p, e = .Call fn as kw p
  · obtain ⟨fn, as, kw, p, rfl⟩ := q
    exact h fn as kw p z
  · exact h2 e fun fn as kw p w => q ⟨fn, as, kw, p, w⟩
theorem inv_call {k : Nat} {es : Q.E} {e : Expr} (h : chkE T (.call k es) cf e = true) : ∃ x p as q, e = .Call (.Name x p) as [] q ∧ cf.calm = true ∧ T.fnn[k]? = some x ∧ glB cf.sc x = true ∧ noStar as = true ∧ chkL T es cf as = true := by
  cases e with
  | Call f as kw q =>
    cases f with
    | Name x p =>
      cases kw with
      | nil =>
        simp only [chkE, Bool.and_eq_true, decide_eq_true_eq] at h
        obtain ⟨⟨⟨⟨h0, h1⟩, h2⟩, h3⟩, h4⟩ := h
        exact ⟨x, p, as, q, rfl, h0, h1, h2, h3, h4⟩
      | cons _ _ => exact absurd h Bool.false_ne_true
    | _ => exact absurd h Bool.false_ne_true
  | _ => exact absurd h Bool.false_ne_true
theorem inv_calC {nj : List (Nat × List Nat)} {k : Nat} {es : Q.E} {e : Expr} (h : chkE T (.calC nj k es) cf e = true) : ∃ x p as q, e = .Call (.Name x p) as [] q ∧ cf.calm = true ∧ cf.fn = true ∧ cf.tab.isSome = true ∧ T.fnn[k]? = some x ∧ glB cf.sc x = true ∧ noStar as = true ∧ nj.all (fun q => capB cf (T.nf q.1) q.2) = true ∧ chkL T es cf as = true := by
  cases e with
  | Call f as kw q =>
    cases f with
    | Name x p =>
      cases kw with
      | nil =>
        simp only [chkE, Bool.and_eq_true, decide_eq_true_eq] at h
        obtain ⟨⟨⟨⟨⟨⟨⟨h0, h1⟩, h2⟩, h3⟩, h4⟩, h5⟩, h6⟩, h7⟩ := h
        exact ⟨x, p, as, q, rfl, h0, h1, h2, h3, h4, h5, h6, h7⟩
      | cons _ _ => exact absurd h Bool.false_ne_true
    | _ => exact absurd h Bool.false_ne_true
  | _ => exact absurd h Bool.false_ne_true
theorem inv_mk {k : Nat} {es : Q.E} {e : Expr} (h : chkE T (.mk k es) cf e = true) : ∃ x p as q, e = .Call (.Name x p) as [] q ∧ cf.calm = true ∧ T.cln[k]? = some x ∧ glB cf.sc x = true ∧ noStar as = true ∧ chkL T es cf as = true := by
  cases e with
  | Call f as kw q =>
    cases f with
    | Name x p =>
      cases kw with
      | nil =>
        simp only [chkE, Bool.and_eq_true, decide_eq_true_eq] at h
        obtain ⟨⟨⟨⟨h0, h1⟩, h2⟩, h3⟩, h4⟩ := h
        exact ⟨x, p, as, q, rfl, h0, h1, h2, h3, h4⟩
      | cons _ _ => exact absurd h Bool.false_ne_true
    | _ => exact absurd h Bool.false_ne_true
  | _ => exact absurd h Bool.false_ne_true
theorem inv_calV {i : Nat} {es : Q.E} {e : Expr} (h : chkE T (.calV i es) cf e = true) : ∃ x p as q, e = .Call (.Name x p) as [] q ∧ cf.calm = true ∧ cf.N[i]? = some x ∧ visB cf.sc x = true ∧ (x == ("__debug__" : Str)) = false ∧ (x == ("__classdict__" : Str)) = false ∧ noStar as = true ∧ chkL T es cf as = true := by
  cases e with
  | Call f as kw q =>
    cases f with
    | Name x p =>
      cases kw with
      | nil =>
        simp only [chkE, Bool.and_eq_true, decide_eq_true_eq, Bool.not_eq_true'] at h
        obtain ⟨⟨⟨⟨⟨⟨h0, h1⟩, h2⟩, h3⟩, h4⟩, h5⟩, h6⟩ := h
        exact ⟨x, p, as, q, rfl, h0, h1, h2, h3, h4, h5, h6⟩
      | cons _ _ => exact absurd h Bool.false_ne_true
    | _ => exact absurd h Bool.false_ne_true
  | _ => exact absurd h Bool.false_ne_true
theorem snd_call (O : WOk T U lv g) {k : Nat} {es : Q.E} (ih : SndL T U lv g cl es) : SndE T U lv g cl (.call k es) := by
  intro X b W cf F e h hn
  obtain ⟨x, p, as, q, rfl, h0, h1, h2, h3, h4⟩ := inv_call h
  obtain ⟨_, hr, tk, _⟩ := F.calm h0
  obtain ⟨f1, f2, f3⟩ := O.fnn k x h1
  exact both (F.hX.fr cl) (je_glob (callJ_A F.hX f3 (hr.mono (Nat.le_succ _)) tk (O.bk k)) (F.gl h2).1 (by rw [F.hX.mg]; exact f1) (by rw [F.hX.K]; exact f2) (ih X b W cf F as h4 hn) h3 (F.gl h2).2 (evL_nil es h4)) rfl
theorem snd_mk (O : WOk T U lv g) {k : Nat} {es : Q.E} (ih : SndL T U lv g cl es) : SndE T U lv g cl (.mk k es) := by
  intro X b W cf F e h hn
  obtain ⟨x, p, as, q, rfl, h0, h1, h2, h3, h4⟩ := inv_mk h
  obtain ⟨f1, f2⟩ := O.cln k x h1
  exact both (F.hX.fr cl) (je_glob (callJ_mkO F O h0) (F.gl h2).1 (by rw [F.hX.mg]; exact f1) (by rw [F.hX.K]; exact f2) (ih X b W cf F as h4 hn) h3 (F.gl h2).2 (evL_nil es h4)) rfl
theorem lookup_mem' {α β : Type} [BEq α] [LawfulBEq α] {a : α} {v : β} : ∀ {l : List (α × β)}, l.lookup a = some v → (a, v) ∈ l
  | [], h => by cases h
  | (c, u) :: r, h => by
    rw [List.lookup_cons] at h
    split at h
    · rename_i q
      cases h
      rw [eq_of_beq q]
      exact List.mem_cons_self
    · exact List.mem_cons_of_mem _ (lookup_mem' h)
theorem free_of {sc scope : Scope} (h : freeB sc scope = true) : ∀ y ∈ scope.names, y.2 = .free → sc.names.lookup y.1 = some .cell ∨ sc.names.lookup y.1 = some .free := by
  intro y hy e
  have q := List.all_eq_true.mp h y hy
  simp only [Bool.or_eq_true, Bool.not_eq_true', decide_eq_false_iff_not, decide_eq_true_eq] at q
  rcases q with (q | q) | q
  · exact absurd e q
  · exact .inl q
  · exact .inr q
theorem cap_of {n : NFi} {js : List Nat} (F : Fr T U lv cl cf X W) (h : capB cf n js = true) : CapOk X n js := by
  unfold capB at h
  simp only [Bool.and_eq_true, decide_eq_true_eq] at h
  obtain ⟨⟨h1, h2⟩, h3⟩ := h
  refine ⟨by rw [F.sc]; exact free_of h1, fun y hy => ?_, by rw [F.N]; exact h3⟩
  rw [h2] at hy
  unfold frOf at hy
  obtain ⟨z, hz, rfl⟩ := List.mem_map.mp hy
  obtain ⟨h4, h5⟩ := List.mem_filter.mp hz
  rw [decide_eq_true_eq] at h5
  rw [← h5]
  exact h4
theorem snd_calC (O : WOk T U lv g) {nj : List (Nat × List Nat)} {k : Nat} {es : Q.E} (ih : SndL T U lv g cl es) : SndE T U lv g cl (.calC nj k es) := by
  intro X b W cf F e h hn
  obtain ⟨x, p, as, q, rfl, h0, h1, h2, h3, h4, h5, h6, h7⟩ := inv_calC h
  obtain ⟨_, hr, tk, _⟩ := F.calm h0
  obtain ⟨f1, f2, f3⟩ := O.fnn k x h3
  obtain ⟨j, hj⟩ := Option.isSome_iff_exists.mp h2
  obtain rfl := (F.tab j hj).1
  refine both (F.hX.fr _) (je_callC F.hX (F.fn h1) (fun i js hi => ?_) f3 (hr.mono (Nat.le_succ _)) tk (O.bk k) (F.gl h4).1 f1 f2 (ih X b W cf F as h7 hn) h5 (F.gl h4).2) rfl
  rw [O.nf i]
  exact cap_of F (List.all_eq_true.mp h6 (i, js) (lookup_mem' hi))
theorem snd_calV (O : WOk T U lv g) {i : Nat} {es : Q.E} (ih : SndL T U lv g cl es) : SndE T U lv g cl (.calV i es) := by
  intro X b W cf F e h hn
  obtain ⟨x, p, as, q, rfl, h0, h1, h2, h3, h4, h5, h6⟩ := inv_calV h
  obtain ⟨_, hr, tk, _⟩ := F.calm h0
  refine both (F.hX.fr cl) (je_callV F.hX (by rw [F.N]; exact h1) (by rw [F.sc]; exact vis_of h2) h3 h4 (fun c φ hc => ⟨?_, callJ_mk F O h0 hc⟩) O.clo O.bkC (hr.mono (Nat.le_succ _)) tk (ih X b W cf F as h6 hn) h5) rfl
  unfold Gm.mk' at hc
  obtain ⟨⟨k, n⟩, h1, rfl⟩ := Option.map_eq_some_iff.mp hc
  exact (O.ini c k n h1).1
theorem inv_met {m : Nat} {o es : Q.E} {e : Expr} (h : chkE T (.met m o es) cf e = true) : ∃ x f p as q, e = .Call (.Attribute x f p) as [] q ∧ cf.calm = true ∧ T.anm[m]? = some f ∧ attrOk x = true ∧ noStar as = true ∧ as.length < 30 ∧ lnB p q = true ∧ chkE T o cf x = true ∧ chkL T es cf as = true := by
  cases e with
  | Call f as kw q =>
    cases f with
    | Attribute x n p =>
      cases kw with
      | nil =>
        simp only [chkE, Bool.and_eq_true, decide_eq_true_eq] at h
        obtain ⟨⟨⟨⟨⟨⟨⟨h0, h1⟩, h2⟩, h3⟩, h4⟩, h5⟩, h6⟩, h7⟩ := h
        exact ⟨x, n, p, as, q, rfl, h0, h1, h2, h3, h4, h5, h6, h7⟩
      | cons _ _ => exact absurd h Bool.false_ne_true
    | _ => exact absurd h Bool.false_ne_true
  | _ => exact absurd h Bool.false_ne_true
theorem snd_met (O : WOk T U lv g) {m : Nat} {o es : Q.E} (io : SndE T U lv g cl o) (ih : SndL T U lv g cl es) : SndE T U lv g cl (.met m o es) := by
  intro X b W cf F e h hn
  obtain ⟨x, f, p, as, q, rfl, h0, h1, h2, h3, h4, h5, h6, h7⟩ := inv_met h
  obtain ⟨_, hr, tk, _⟩ := F.calm h0
  exact both (F.hX.fr cl) (je_meth F.hX (O.met m f h1) (hr.mono (Nat.le_succ _)) tk (io X b W cf F x h6 fun z hz => hn z (mem_l hz)).1 (ih X b W cf F as h7 fun z hz => hn z (mem_r hz)) h2 h3 h4 h5) rfl
theorem snd_att (O : WOk T U lv g) {a : Nat} {o : Q.E} (io : SndE T U lv g cl o) : SndE T U lv g cl (.att a o) := by
  intro X b W cf F e h hn
  cases e with
  | Attribute x f p =>
    simp only [chkE, Bool.and_eq_true, decide_eq_true_eq] at h
    obtain ⟨⟨⟨h0, h1⟩, h2⟩, h3⟩ := h
    exact both (F.hX.fr cl) (je_att F.hX (O.att a f h1) (F.calm h0).2.1 (io X b W cf F x h3 hn).1 h2) rfl
  | _ => exact absurd h Bool.false_ne_true
theorem inv_bm {m : Bm} {o es : Q.E} {e : Expr} (h : chkE T (.bm m o es) cf e = true) : ∃ x p as q, e = .Call (.Attribute x (Str.ofString m.nm) p) as [] q ∧ attrOk x = true ∧ noStar as = true ∧ as.length < 30 ∧ lnB p q = true ∧ bmN m as = true ∧ chkE T o cf x = true ∧ chkL T es cf as = true := by
  cases e with
  | Call f as kw q =>
    cases f with
    | Attribute x n p =>
      cases kw with
      | nil =>
        simp only [chkE, Bool.and_eq_true, decide_eq_true_eq] at h
        obtain ⟨⟨⟨⟨⟨⟨⟨rfl, h1⟩, h2⟩, h3⟩, h4⟩, h5⟩, h6⟩, h7⟩ := h
        exact ⟨x, p, as, q, rfl, h1, h2, h3, h4, h5, h6, h7⟩
      | cons _ _ => exact absurd h Bool.false_ne_true
    | _ => exact absurd h Bool.false_ne_true
  | _ => exact absurd h Bool.false_ne_true
theorem snd_bm {m : Bm} {o es : Q.E} (io : SndE T U lv g cl o) (ih : SndL T U lv g cl es) : SndE T U lv g cl (.bm m o es) := by
  intro X b W cf F e h hn
  obtain ⟨x, p, as, q, rfl, h1, h2, h3, h4, h5, h6, h7⟩ := inv_bm h
  have jo := (io X b W cf F x h6 fun z hz => hn z (mem_l hz)).1
  have ja := ih X b W cf F as h7 fun z hz => hn z (mem_r hz)
  refine both (F.hX.fr cl) ?_ rfl
  cases m with
  | append =>
    cases as with
    | nil => cases h5
    | cons a as => exact je_bm PySem.F.plainAttrs_list PySem.F.slot_list_append PySem.F.type_list_append (fun sl μ ρ G σ H v d S r z => isML_ty S r z) bm_append jo ja h1 h2 h3 h4
  | extend =>
    cases as with
    | nil => cases h5
    | cons a as => exact je_bm PySem.F.plainAttrs_list PySem.F.slot_list_extend PySem.F.type_list_extend (fun sl μ ρ G σ H v d S r z => isML_ty S r z) bm_extend jo ja h1 h2 h3 h4
  | pop =>
    cases as with
    | cons _ _ => cases h5
    | nil =>
      have e : evE g (.bm .pop o es) = fun sl μ => (evE g o sl μ).bind (bmR isML popR fun μ => .ok [] μ) := by
        funext sl μ
        show (evE g o sl μ).bind (bmR isML popR (evL g es sl)) = _
        have e2 : evL g es sl = fun μ => .ok [] μ := by funext μ; exact evL_nil es h7 rfl sl μ
        rw [e2]
      rw [e]
      exact je_bm0 PySem.F.plainAttrs_list PySem.F.slot_list_pop PySem.F.type_list_pop (fun sl μ ρ G σ H v d S r z => isML_ty S r z) bm_pop jo h1 h4
theorem inv_fb {es : Q.E} {e : Expr} {f : Fb} (h : chkE T (.fb f es) cf e = true) : ∃ x p as q, e = .Call (.Name x p) as [] q ∧ freC T cf x (Str.ofString f.nm) as = true ∧ chkL T es cf as = true := by
  cases e with
  | Call f as kw q =>
    cases f with
    | Name x p =>
      cases kw with
      | nil =>
        simp only [chkE, Bool.and_eq_true] at h
        exact ⟨x, p, as, q, rfl, h.1, h.2⟩
      | cons _ _ => exact absurd h Bool.false_ne_true
    | _ => exact absurd h Bool.false_ne_true
  | _ => exact absurd h Bool.false_ne_true
theorem inv_fc {es : Q.E} {e : Expr} {f : Fc} (h : chkE T (.fc f es) cf e = true) : ∃ x p as q, e = .Call (.Name x p) as [] q ∧ freC T cf x (Str.ofString f.nm) as = true ∧ chkL T es cf as = true := by
  cases e with
  | Call f as kw q =>
    cases f with
    | Name x p =>
      cases kw with
      | nil =>
        simp only [chkE, Bool.and_eq_true] at h
        exact ⟨x, p, as, q, rfl, h.1, h.2⟩
      | cons _ _ => exact absurd h Bool.false_ne_true
    | _ => exact absurd h Bool.false_ne_true
  | _ => exact absurd h Bool.false_ne_true
theorem inv_len {es : Q.E} {e : Expr} (h : chkE T (.len es) cf e = true) : ∃ x p as q, e = .Call (.Name x p) as [] q ∧ freC T cf x "len" as = true ∧ chkL T es cf as = true := by
  cases e with
  | Call f as kw q =>
    cases f with
    | Name x p =>
      cases kw with
      | nil =>
        simp only [chkE, Bool.and_eq_true] at h
        exact ⟨x, p, as, q, rfl, h.1, h.2⟩
      | cons _ _ => exact absurd h Bool.false_ne_true
    | _ => exact absurd h Bool.false_ne_true
  | _ => exact absurd h Bool.false_ne_true
theorem inv_isi {es : Q.E} {e : Expr} (h : chkE T (.isi es) cf e = true) : ∃ x p as q, e = .Call (.Name x p) as [] q ∧ freC T cf x "isinstance" as = true ∧ chkL T es cf as = true := by
  cases e with
  | Call f as kw q =>
    cases f with
    | Name x p =>
      cases kw with
      | nil =>
        simp only [chkE, Bool.and_eq_true] at h
        exact ⟨x, p, as, q, rfl, h.1, h.2⟩
      | cons _ _ => exact absurd h Bool.false_ne_true
    | _ => exact absurd h Bool.false_ne_true
  | _ => exact absurd h Bool.false_ne_true
theorem freC_of {x y : Str} {as : List Expr} (h : freC T cf x y as = true) : cf.calm = true ∧ freB T cf x y = true ∧ noStar as = true ∧ ∃ a r, as = a :: r := by
  unfold freC at h
  simp only [Bool.and_eq_true, Bool.not_eq_true'] at h
  obtain ⟨⟨⟨h0, h1⟩, h2⟩, h3⟩ := h
  refine ⟨h0, h1, h2, ?_⟩
  cases as with
  | nil => cases h3
  | cons a r => exact ⟨a, r, rfl⟩
theorem fb_val (f : Fb) : (∃ id, f.val = .builtin id) ∨ ∃ n, f.val = .type n := by cases f <;> first | exact .inl ⟨_, rfl⟩ | exact .inr ⟨_, rfl⟩
theorem fc_val (f : Fc) : (∃ id, f.val = .builtin id) ∨ ∃ n, f.val = .type n := by cases f <;> first | exact .inl ⟨_, rfl⟩ | exact .inr ⟨_, rfl⟩
theorem snd_fb (O : WOk T U lv g) {f : Fb} {es : Q.E} (ih : SndL T U lv g cl es) : SndE T U lv g cl (.fb f es) := by
  intro X b W cf F e h hn
  obtain ⟨x, p, as, q, rfl, h1, h3⟩ := inv_fb h
  obtain ⟨h0, h5, h2, a, r, rfl⟩ := freC_of h1
  obtain ⟨rfl, q1, q2, q3, q4⟩ := F.fre O h5
  obtain ⟨hc, hr, tk, _⟩ := F.calm h0
  exact both (F.hX.fr cl) (je_free (fb_val f) (fb_call (F.hX.fr cl) hc f) q1 q2 (fb_boot f) (ih X b W cf F _ h3 hn) h2 q3 q4) rfl
theorem snd_fc (O : WOk T U lv g) {f : Fc} {es : Q.E} (ih : SndL T U lv g cl es) : SndE T U lv g cl (.fc f es) := by
  intro X b W cf F e h hn
  obtain ⟨x, p, as, q, rfl, h1, h3⟩ := inv_fc h
  obtain ⟨h0, h5, h2, a, r, rfl⟩ := freC_of h1
  obtain ⟨rfl, q1, q2, q3, q4⟩ := F.fre O h5
  obtain ⟨hc, hr, tk, _⟩ := F.calm h0
  exact both (F.hX.fr cl) (je_free (fc_val f) (fc_call (F.hX.fr cl) hc f) q1 q2 (fc_boot f) (ih X b W cf F _ h3 hn) h2 q3 q4) rfl
theorem snd_len (O : WOk T U lv g) {es : Q.E} (ih : SndL T U lv g cl es) : SndE T U lv g cl (.len es) := by
  intro X b W cf F e h hn
  obtain ⟨x, p, as, q, rfl, h1, h3⟩ := inv_len h
  obtain ⟨h0, h5, h2, a, r, rfl⟩ := freC_of h1
  obtain ⟨rfl, q1, q2, q3, q4⟩ := F.fre O h5
  obtain ⟨hc, hr, tk, _⟩ := F.calm h0
  exact both (F.hX.fr cl) (je_free (.inl ⟨_, rfl⟩) (callJ_len F.hX hc O.opC hr tk) q1 q2 len_boot (ih X b W cf F _ h3 hn) h2 q3 q4) rfl
theorem snd_isi (O : WOk T U lv g) {es : Q.E} (ih : SndL T U lv g cl es) : SndE T U lv g cl (.isi es) := by
  intro X b W cf F e h hn
  obtain ⟨x, p, as, q, rfl, h1, h3⟩ := inv_isi h
  obtain ⟨h0, h5, h2, a, r, rfl⟩ := freC_of h1
  obtain ⟨rfl, q1, q2, q3, q4⟩ := F.fre O h5
  obtain ⟨hc, hr, tk, _⟩ := F.calm h0
  exact both (F.hX.fr cl) (je_free (.inl ⟨_, rfl⟩) (isi_call F.hX O.isi) q1 q2 isi_boot (ih X b W cf F _ h3 hn) h2 q3 q4) rfl
theorem snd_lam (O : WOk T U lv g) {k : Nat} : SndE T U lv g cl (.lam k) := by
  intro X b W cf F e h hn
  cases e with
  | Lambda ps bd scope p =>
    simp only [chkE] at h
    split at h
    · rename_i j hj
      simp only [Bool.and_eq_true, decide_eq_true_eq, plainArgs, List.isEmpty_iff] at h
      obtain ⟨⟨h1, h2⟩, h3, h4⟩ := h
      obtain ⟨rfl, t2, c, P, t3, t4, t5, t6⟩ := F.tab j hj
      have hk := hn _ (List.mem_singleton.mpr rfl)
      refine both (F.hX.fr _) (je_lam (U := U.fr X.env.cells) (k := k) (nm := T.nm j) (fr := frOf scope) ?_ rfl t3 t4 t5 ?_ t6 (by rw [F.sc]; exact free_of h2) ?_) rfl
      · show U.nf k = _
        rw [O.nf k, t2]
        exact hk
      · rw [t2]; exact h1
      · cases ps with
        | mk a1 a2 a3 a4 a5 a6 a7 =>
          simp only at h3 h4
          subst h3
          subst h4
          rfl
    · cases h
  | _ => exact absurd h Bool.false_ne_true
theorem snd_cons {e es : Q.E} (i1 : SndE T U lv g cl e) (i2 : SndL T U lv g cl es) : SndL T U lv g cl (.cons e es) := by
  intro X b W cf F as h hn
  cases as with
  | nil => exact absurd h Bool.false_ne_true
  | cons a as =>
    simp only [chkL, Bool.and_eq_true, Bool.not_eq_true'] at h
    obtain ⟨⟨h1, h2⟩, h3⟩ := h
    exact ja_cons (i1 X b W cf F a h1 fun z hz => hn z (mem_l hz)).1 (i2 X b W cf F as h2 fun z hz => hn z (mem_r hz)) h3
theorem snd_nil : SndL T U lv g cl .nil := by
  intro X b W cf F as h hn
  cases as with
  | nil => exact ja_nil
  | cons a as => exact absurd h Bool.false_ne_true
end
end Q
/-! Q44: comprehensions, what is walked; all expressions. -/
namespace Q
open PySem PySem.Spec PyProof.Rows L2
theorem gen1_of {gs : List Comprehension} {tg it i : Expr} (h : gen1 gs = some (tg, it, i)) : gs = [⟨tg, it, [i], 0⟩] := by
  unfold gen1 at h
  split at h
  · split at h
    · rename_i e; subst e; cases h; rfl
    · cases h
  · cases h
theorem gen0_of {gs : List Comprehension} {tg it : Expr} (h : gen0 gs = some (tg, it)) : gs = [⟨tg, it, [], 0⟩] := by
  unfold gen0 at h
  split at h
  · split at h
    · rename_i e; subst e; cases h; rfl
    · cases h
  · cases h
section
variable {T : Tb} {U : Wd} {lv : Nat} {g : Gm} {cl : List (Str × Addr)} {cf : Cf} {X : Cx} {b : B0} {W : WX}
theorem blk_of {scope : Scope} {t : Q.T} {vs : List Nat} (F : Fr T U lv cl cf X W) (h : blkB cf scope t vs = true) : cf.calm = true ∧ BlkOk X.N X.env.scope scope (ownOf cf.N vs) ∧ (∀ i ∈ t.slots, i ∈ (ownOf cf.N vs).map (·.2)) := by
  unfold blkB at h
  simp only [Bool.and_eq_true] at h
  obtain ⟨⟨h1, h2⟩, h3⟩ := h
  refine ⟨h1, by rw [F.N, F.sc]; exact blkOk_by h2, fun i hi => ?_⟩
  rw [own_map]
  have := List.all_eq_true.mp h3 i hi
  rwa [List.contains_iff_mem] at this
theorem inv_lc {t : Q.T} {vs : List Nat} {it c elt : Q.E} {e : Expr} (h : chkE T (.lc t vs it c elt) cf e = true) : ∃ x tg iter i scope p, e = .ListComp x [⟨tg, iter, [i], 0⟩] scope p ∧ blkB cf scope t vs = true ∧ notSet iter = true ∧ tstOk c = true ∧ chkG t (cf.blk scope) tg = true ∧ chkI T it cf tg iter = true ∧ chkE T c (cf.blk scope) i = true ∧ chkE T elt (cf.blk scope) x = true := by
  cases e with
  | ListComp x gs scope p =>
    simp only [chkE] at h
    split at h
    · rename_i tg iter i z
      obtain rfl := gen1_of z
      simp only [Bool.and_eq_true] at h
      obtain ⟨⟨⟨⟨⟨⟨h1, h2⟩, h3⟩, h4⟩, h5⟩, h6⟩, h7⟩ := h
      exact ⟨x, tg, iter, i, scope, p, rfl, h1, h2, h3, h4, h5, h6, h7⟩
    · cases h
  | _ => exact absurd h Bool.false_ne_true
theorem inv_lc0 {t : Q.T} {vs : List Nat} {it elt : Q.E} {e : Expr} (h : chkE T (.lc0 t vs it elt) cf e = true) : ∃ x tg iter scope p, e = .ListComp x [⟨tg, iter, [], 0⟩] scope p ∧ blkB cf scope t vs = true ∧ notSet iter = true ∧ chkG t (cf.blk scope) tg = true ∧ chkI T it cf tg iter = true ∧ chkE T elt (cf.blk scope) x = true := by
  cases e with
  | ListComp x gs scope p =>
    simp only [chkE] at h
    split at h
    · rename_i tg iter z
      obtain rfl := gen0_of z
      simp only [Bool.and_eq_true] at h
      obtain ⟨⟨⟨⟨h1, h2⟩, h4⟩, h5⟩, h7⟩ := h
      exact ⟨x, tg, iter, scope, p, rfl, h1, h2, h4, h5, h7⟩
    · cases h
  | _ => exact absurd h Bool.false_ne_true
theorem inv_sc {t : Q.T} {vs : List Nat} {it c elt : Q.E} {e : Expr} (h : chkE T (.sc t vs it c elt) cf e = true) : ∃ x tg iter i scope p, e = .SetComp x [⟨tg, iter, [i], 0⟩] scope p ∧ blkB cf scope t vs = true ∧ notSet iter = true ∧ tstOk c = true ∧ chkG t (cf.blk scope) tg = true ∧ chkI T it cf tg iter = true ∧ chkE T c (cf.blk scope) i = true ∧ chkE T elt (cf.blk scope) x = true := by
  cases e with
  | SetComp x gs scope p =>
    simp only [chkE] at h
    split at h
    · rename_i tg iter i z
      obtain rfl := gen1_of z
      simp only [Bool.and_eq_true] at h
      obtain ⟨⟨⟨⟨⟨⟨h1, h2⟩, h3⟩, h4⟩, h5⟩, h6⟩, h7⟩ := h
      exact ⟨x, tg, iter, i, scope, p, rfl, h1, h2, h3, h4, h5, h6, h7⟩
    · cases h
  | _ => exact absurd h Bool.false_ne_true
theorem inv_sc0 {t : Q.T} {vs : List Nat} {it elt : Q.E} {e : Expr} (h : chkE T (.sc0 t vs it elt) cf e = true) : ∃ x tg iter scope p, e = .SetComp x [⟨tg, iter, [], 0⟩] scope p ∧ blkB cf scope t vs = true ∧ notSet iter = true ∧ chkG t (cf.blk scope) tg = true ∧ chkI T it cf tg iter = true ∧ chkE T elt (cf.blk scope) x = true := by
  cases e with
  | SetComp x gs scope p =>
    simp only [chkE] at h
    split at h
    · rename_i tg iter z
      obtain rfl := gen0_of z
      simp only [Bool.and_eq_true] at h
      obtain ⟨⟨⟨⟨h1, h2⟩, h4⟩, h5⟩, h7⟩ := h
      exact ⟨x, tg, iter, scope, p, rfl, h1, h2, h4, h5, h7⟩
    · cases h
  | _ => exact absurd h Bool.false_ne_true
theorem snd_lc {t : Q.T} {vs : List Nat} {it c elt : Q.E} (i1 : SndI T U lv g cl it) (i2 : SndE T U lv g cl c) (i3 : SndE T U lv g cl elt) : SndE T U lv g cl (.lc t vs it c elt) := by
  intro X b W cf F e h hn
  obtain ⟨x, tg, iter, i, scope, p, rfl, h1, h2, h3, h4, h5, h6, h7⟩ := inv_lc h
  obtain ⟨hc, ok, hv⟩ := blk_of F h1
  refine both (F.hX.fr cl) ?_ rfl
  have q := je_lc (own := ownOf cf.N vs) (t := t) (mt := fun sl μ => tst (evE g c sl μ)) (me := evE g elt) (pos := p) (F.calm hc).1 (by rw [F.N]; exact F.nd) (i1 X b W cf F tg iter h5 fun z hz => hn z (mem_l hz)) ok (fun s H C cl' fp => (sndG t).1 _ _ _ (F.blk scope s H C cl' fp) tg h4)
    (fun b s H C cl' fp => jts_one ((i2 _ b _ _ (F.blk scope s H C cl' fp) i h6 fun z hz => hn z (mem_r (mem_l hz))).2 h3).1) (fun b s H C cl' fp => (i3 _ b _ _ (F.blk scope s H C cl' fp) x h7 fun z hz => hn z (mem_r (mem_r hz))).1) (fsi_of h2 _) hv
  rw [own_map] at q
  exact q
theorem snd_lc0 {t : Q.T} {vs : List Nat} {it elt : Q.E} (i1 : SndI T U lv g cl it) (i3 : SndE T U lv g cl elt) : SndE T U lv g cl (.lc0 t vs it elt) := by
  intro X b W cf F e h hn
  obtain ⟨x, tg, iter, scope, p, rfl, h1, h2, h4, h5, h7⟩ := inv_lc0 h
  obtain ⟨hc, ok, hv⟩ := blk_of F h1
  refine both (F.hX.fr cl) ?_ rfl
  have q := je_lc (own := ownOf cf.N vs) (t := t) (mt := fun _ μ => .ok true μ) (me := evE g elt) (pos := p) (F.calm hc).1 (by rw [F.N]; exact F.nd) (i1 X b W cf F tg iter h5 fun z hz => hn z (mem_l hz)) ok (fun s H C cl' fp => (sndG t).1 _ _ _ (F.blk scope s H C cl' fp) tg h4)
    (fun b s H C cl' fp => jts_nil) (fun b s H C cl' fp => (i3 _ b _ _ (F.blk scope s H C cl' fp) x h7 fun z hz => hn z (mem_r hz)).1) (fsi_of h2 _) hv
  rw [own_map] at q
  exact q
theorem snd_sc {t : Q.T} {vs : List Nat} {it c elt : Q.E} (i1 : SndI T U lv g cl it) (i2 : SndE T U lv g cl c) (i3 : SndE T U lv g cl elt) : SndE T U lv g cl (.sc t vs it c elt) := by
  intro X b W cf F e h hn
  obtain ⟨x, tg, iter, i, scope, p, rfl, h1, h2, h3, h4, h5, h6, h7⟩ := inv_sc h
  obtain ⟨hc, ok, hv⟩ := blk_of F h1
  refine both (F.hX.fr cl) ?_ rfl
  have q := je_sc (F.hX.fr cl) (own := ownOf cf.N vs) (t := t) (mt := fun sl μ => tst (evE g c sl μ)) (me := evE g elt) (pos := p) (F.calm hc).1 (by rw [F.N]; exact F.nd) (i1 X b W cf F tg iter h5 fun z hz => hn z (mem_l hz)) ok (fun s H C cl' fp => (sndG t).1 _ _ _ (F.blk scope s H C cl' fp) tg h4)
    (fun b s H C cl' fp => jts_one ((i2 _ b _ _ (F.blk scope s H C cl' fp) i h6 fun z hz => hn z (mem_r (mem_l hz))).2 h3).1) (fun b s H C cl' fp => (i3 _ b _ _ (F.blk scope s H C cl' fp) x h7 fun z hz => hn z (mem_r (mem_r hz))).1) (fsi_of h2 _) hv
  rw [own_map] at q
  exact q
theorem snd_sc0 {t : Q.T} {vs : List Nat} {it elt : Q.E} (i1 : SndI T U lv g cl it) (i3 : SndE T U lv g cl elt) : SndE T U lv g cl (.sc0 t vs it elt) := by
  intro X b W cf F e h hn
  obtain ⟨x, tg, iter, scope, p, rfl, h1, h2, h4, h5, h7⟩ := inv_sc0 h
  obtain ⟨hc, ok, hv⟩ := blk_of F h1
  refine both (F.hX.fr cl) ?_ rfl
  have q := je_sc (F.hX.fr cl) (own := ownOf cf.N vs) (t := t) (mt := fun _ μ => .ok true μ) (me := evE g elt) (pos := p) (F.calm hc).1 (by rw [F.N]; exact F.nd) (i1 X b W cf F tg iter h5 fun z hz => hn z (mem_l hz)) ok (fun s H C cl' fp => (sndG t).1 _ _ _ (F.blk scope s H C cl' fp) tg h4)
    (fun b s H C cl' fp => jts_nil) (fun b s H C cl' fp => (i3 _ b _ _ (F.blk scope s H C cl' fp) x h7 fun z hz => hn z (mem_r hz)).1) (fsi_of h2 _) hv
  rw [own_map] at q
  exact q
theorem tup_of {e : Expr} (h : isTupT e = true) : ∃ es k p, e = .Tuple es k p := by
  cases e with
  | Tuple es k p => exact ⟨es, k, p, rfl⟩
  | _ => cases h
theorem snd_rng1 (O : WOk T U lv g) {es : Q.E} (ih : SndL T U lv g cl es) : SndI T U lv g cl (.rng1 es) := by
  intro X b W cf F tg e h hn
  unfold chkI at h
  split at h <;> first | contradiction | skip
  all_goals (rename_i z; first | (cases z; done) | skip)
  cases z
  simp only [Bool.and_eq_true, Bool.not_eq_true'] at h
  obtain ⟨⟨h1, h2⟩, h3⟩ := h
  obtain ⟨rfl, q1, q2, q3, q4⟩ := F.fre O h1
  exact ji_range1 q1 q2 (ih _ b _ _ F _ h3 hn) h2
theorem snd_rng2 (O : WOk T U lv g) {es : Q.E} (ih : SndL T U lv g cl es) : SndI T U lv g cl (.rng2 es) := by
  intro X b W cf F tg e h hn
  unfold chkI at h
  split at h <;> first | contradiction | skip
  all_goals (rename_i z; first | (cases z; done) | skip)
  cases z
  simp only [Bool.and_eq_true, Bool.not_eq_true'] at h
  obtain ⟨⟨⟨h1, h2⟩, h4⟩, h3⟩ := h
  obtain ⟨rfl, q1, q2, q3, q4⟩ := F.fre O h1
  exact ji_range2 q1 q2 (ih _ b _ _ F _ h3 hn) h2 h4
theorem snd_zip (O : WOk T U lv g) {es : Q.E} (ih : SndL T U lv g cl es) : SndI T U lv g cl (.zip es) := by
  intro X b W cf F tg e h hn
  unfold chkI at h
  split at h <;> first | contradiction | skip
  all_goals (rename_i z; first | (cases z; done) | skip)
  cases z
  simp only [Bool.and_eq_true, Bool.not_eq_true'] at h
  obtain ⟨⟨⟨⟨h1, h0⟩, h2⟩, h4⟩, h3⟩ := h
  obtain ⟨rfl, q1, q2, q3, q4⟩ := F.fre O h1
  obtain ⟨es, k, p, rfl⟩ := tup_of h0
  exact ji_zip (F.hX.fr cl) q1 q2 (ih _ b _ _ F _ h3 hn) h2 h4
theorem snd_enu (O : WOk T U lv g) {es : Q.E} (ih : SndL T U lv g cl es) : SndI T U lv g cl (.enu es) := by
  intro X b W cf F tg e h hn
  unfold chkI at h
  split at h <;> first | contradiction | skip
  all_goals (rename_i z; first | (cases z; done) | skip)
  cases z
  simp only [Bool.and_eq_true, Bool.not_eq_true'] at h
  obtain ⟨⟨⟨h1, h0⟩, h2⟩, h3⟩ := h
  obtain ⟨rfl, q1, q2, q3, q4⟩ := F.fre O h1
  obtain ⟨es, k, p, rfl⟩ := tup_of h0
  exact ji_enum (F.hX.fr cl) q1 q2 (ih _ b _ _ F _ h3 hn) h2
theorem snd_seq {e : Q.E} (ih : SndE T U lv g cl e) : SndI T U lv g cl (.seq e) := by
  intro X b W cf F tg a h hn
  exact ji_seq (F.hX.fr cl) (ih X b W cf F a (by unfold chkI at h; exact h) (by unfold nfI at hn; exact hn)).1
/-- all expressions -/
theorem snd (O : WOk T U lv g) : ∀ e : Q.E, Snd T U lv g cl e := by
  intro e
  induction e with
  | var i => exact ⟨snd_var i, noL fun _ _ => rfl, noI fun _ _ _ => rfl⟩
  | lit d => exact ⟨snd_lit d, noL fun _ _ => rfl, noI fun _ _ _ => rfl⟩
  | glb j => exact ⟨snd_glb O j, noL fun _ _ => rfl, noI fun _ _ _ => rfl⟩
  | gcl c => exact ⟨snd_gcl O c, noL fun _ _ => rfl, noI fun _ _ _ => rfl⟩
  | ty t => exact ⟨snd_ty O t, noL fun _ _ => rfl, noI fun _ _ _ => rfl⟩
  | tup es i => exact ⟨snd_tup i.2.1, noL fun _ _ => rfl, noI fun _ _ _ => rfl⟩
  | lst es i => exact ⟨snd_lst i.2.1, noL fun _ _ => rfl, noI fun _ _ _ => rfl⟩
  | mlst es i => exact ⟨snd_mlst i.2.1, noL fun _ _ => rfl, noI fun _ _ _ => rfl⟩
  | frz e i => exact ⟨snd_frz i.1, noL fun _ _ => rfl, noI fun _ _ _ => rfl⟩
  | nil => exact ⟨noE fun _ _ => rfl, snd_nil, noI fun _ _ _ => rfl⟩
  | cons e es i1 i2 => exact ⟨noE fun _ _ => rfl, snd_cons i1.1 i2.2.1, noI fun _ _ _ => rfl⟩
  | bin op a c i1 i2 => exact ⟨snd_bin O i1.1 i2.1, noL fun _ _ => rfl, noI fun _ _ _ => rfl⟩
  | cmp op a c i1 i2 => exact ⟨snd_cmp O i1.1 i2.1, noL fun _ _ => rfl, noI fun _ _ _ => rfl⟩
  | chn a c e i1 i2 i3 => exact ⟨snd_chn i1.1 i2.1 i3.1, noL fun _ _ => rfl, noI fun _ _ _ => rfl⟩
  | isin n a c i1 i2 => exact ⟨snd_in O i1.1 i2.1, noL fun _ _ => rfl, noI fun _ _ _ => rfl⟩
  | sub a c i1 i2 => exact ⟨snd_sub i1.1 i2.1, noL fun _ _ => rfl, noI fun _ _ _ => rfl⟩
  | slc a lo hi i1 i2 i3 => exact ⟨snd_slc i1.1 i2.1 i3.1, noL fun _ _ => rfl, noI fun _ _ _ => rfl⟩
  | not a i => exact ⟨snd_not i.1, noL fun _ _ => rfl, noI fun _ _ _ => rfl⟩
  | and a c i1 i2 => exact ⟨snd_and i1.1 i2.1, noL fun _ _ => rfl, noI fun _ _ _ => rfl⟩
  | or a c i1 i2 => exact ⟨snd_or i1.1 i2.1, noL fun _ _ => rfl, noI fun _ _ _ => rfl⟩
  | ife t a c i0 i1 i2 => exact ⟨snd_ife i0.1 i1.1 i2.1, noL fun _ _ => rfl, noI fun _ _ _ => rfl⟩
  | neg a i => exact ⟨snd_neg O i.1, noL fun _ _ => rfl, noI fun _ _ _ => rfl⟩
  | call k es i => exact ⟨snd_call O i.2.1, noL fun _ _ => rfl, noI fun _ _ _ => rfl⟩
  | calC nj k es i => exact ⟨snd_calC O i.2.1, noL fun _ _ => rfl, noI fun _ _ _ => rfl⟩
  | mk c es i => exact ⟨snd_mk O i.2.1, noL fun _ _ => rfl, noI fun _ _ _ => rfl⟩
  | met m o es i1 i2 => exact ⟨snd_met O i1.1 i2.2.1, noL fun _ _ => rfl, noI fun _ _ _ => rfl⟩
  | att a o i => exact ⟨snd_att O i.1, noL fun _ _ => rfl, noI fun _ _ _ => rfl⟩
  | calV i es ih => exact ⟨snd_calV O ih.2.1, noL fun _ _ => rfl, noI fun _ _ _ => rfl⟩
  | lam k => exact ⟨snd_lam O, noL fun _ _ => rfl, noI fun _ _ _ => rfl⟩
  | fb f es i => exact ⟨snd_fb O i.2.1, noL fun _ _ => rfl, noI fun _ _ _ => rfl⟩
  | fc f es i => exact ⟨snd_fc O i.2.1, noL fun _ _ => rfl, noI fun _ _ _ => rfl⟩
  | len es i => exact ⟨snd_len O i.2.1, noL fun _ _ => rfl, noI fun _ _ _ => rfl⟩
  | isi es i => exact ⟨snd_isi O i.2.1, noL fun _ _ => rfl, noI fun _ _ _ => rfl⟩
  | bm m o es i1 i2 => exact ⟨snd_bm i1.1 i2.2.1, noL fun _ _ => rfl, noI fun _ _ _ => rfl⟩
  | lc t vs it c elt i1 i2 i3 => exact ⟨snd_lc i1.2.2 i2.1 i3.1, noL fun _ _ => rfl, noI fun _ _ _ => rfl⟩
  | lc0 t vs it elt i1 i3 => exact ⟨snd_lc0 i1.2.2 i3.1, noL fun _ _ => rfl, noI fun _ _ _ => rfl⟩
  | sc t vs it c elt i1 i2 i3 => exact ⟨snd_sc i1.2.2 i2.1 i3.1, noL fun _ _ => rfl, noI fun _ _ _ => rfl⟩
  | sc0 t vs it elt i1 i3 => exact ⟨snd_sc0 i1.2.2 i3.1, noL fun _ _ => rfl, noI fun _ _ _ => rfl⟩
  | rng1 es i => exact ⟨noE fun _ _ => rfl, noL fun _ _ => rfl, snd_rng1 O i.2.1⟩
  | rng2 es i => exact ⟨noE fun _ _ => rfl, noL fun _ _ => rfl, snd_rng2 O i.2.1⟩
  | zip es i => exact ⟨noE fun _ _ => rfl, noL fun _ _ => rfl, snd_zip O i.2.1⟩
  | enu es i => exact ⟨noE fun _ _ => rfl, noL fun _ _ => rfl, snd_enu O i.2.1⟩
  | seq e i => exact ⟨noE fun _ _ => rfl, noL fun _ _ => rfl, snd_seq i.1⟩
  | bad => exact ⟨fun X b W cf F a h hn => ⟨je_bad, fun _ => ⟨jt_bad, fun _ _ _ _ => jw_bad⟩⟩, noL fun _ _ => rfl, noI fun _ _ _ => rfl⟩
end
end Q
/-! Q45: statements. -/
namespace Q
open PySem PySem.Spec PyProof.Rows L2
/-- a comprehension given to a name -/
def setLcB (cf : Cf) (y : Str) (py : Pos) (a : Expr) : Bool := match a with
  | .ListComp _ _ scope pt => decide (cf.sc.names.lookup y = some .local) && decide (cf.sc.kind = .function) && (py.line == pt.line) && !(scope.names.any fun (n, k) => n == y && (k == .local || k == .cell))
  | _ => false
def isLc : E → Bool
  | .lc _ _ _ _ _ => true
  | .lc0 _ _ _ _ => true
  | _ => false
def isTup : Expr → Bool
  | .Tuple _ _ _ => true
  | _ => false
mutual
def chkS (T : Tb) : S → Cf → Stmt → Bool
  | .bad, _, _ => true
  | .expr e, cf, .Expr a _ => !isComp a && chkE T e cf a
  | .ret e, cf, .Return (some a) _ => chkE T e cf a
  | .retN, _, .Return none _ => true
  | .pass, _, .Pass _ => true
  | .brk, _, .Break _ => true
  | .cont, _, .Continue _ => true
  | .iff t a c, cf, .If x p q _ => tstOk t && chkE T t cf x && chkSs T a cf p && chkSs T c cf q
  | .set i e, cf, .Assign [.Name x p] a _ => decide (cf.N[i]? = some x) && stoB cf x && chkE T e cf a && (if isLc e then setLcB cf x p a else !isComp a)
  | .par i j es, cf, .Assign [.Tuple [.Name x px, .Name y py] _ _] (.Tuple [a, c] _ _) _ => cf.calm && decide (cf.N[i]? = some x) && decide (cf.N[j]? = some y) && parOk cf.sc x y px py a c && chkL T es cf [a, c]
  | .unp t e, cf, .Assign [tg] a _ => !isTup a && !isComp a && !PySem.W.isStarred tg && chkG t cf tg && chkE T e cf a
  | .for t it body, cf, .For tg iter b [] _ => cf.calm && notSet iter && chkG t cf tg && chkI T it cf tg iter && chkSs T body cf b
  | .whi _ t body, cf, .While c b [] _ => cf.calm && tstOk t && chkE T t cf c && chkSs T body cf b
  | .fld n o e, cf, .Assign [.Attribute x f _] a _ => decide (T.anm[n]? = some f) && !isComp a && chkE T o cf x && chkE T e cf a
  | .rse c, cf, .Raise (some (.Call (.Name x _) [.Constant (.str _) _ _] [] _)) none _ => cf.calm && decide (T.cln[c]? = some x) && T.exc.contains c && glB cf.sc x
  | .tri c body su, cf, .Try b [.ExceptHandler (some (.Name x _)) none (b0 :: bs) _] [] [] _ => cf.calm && cf.own && decide (T.cln[c]? = some x) && glB cf.sc x && chkSs T body cf b && chkSs T su cf.hot (b0 :: bs)
  | _, _, _ => false
def chkSs (T : Tb) : S → Cf → List Stmt → Bool
  | .bad, _, _ => true
  | .nil, _, [] => true
  | .cons s ss, cf, st :: sts => chkS T s cf st && chkSs T ss cf sts
  | .frz _ ss, cf, sts => chkSs T ss cf sts
  | _, _, _ => false
end
mutual
def nfS : S → Str → Stmt → Nfs
  | .expr e, q, .Expr a _ => nfE e q a
  | .ret e, q, .Return (some a) _ => nfE e q a
  | .iff t a c, q, .If x p r _ => nfE t q x ++ (nfSs a q p ++ nfSs c q r)
  | .set _ e, q, .Assign [.Name _ _] a _ => nfE e q a
  | .par _ _ es, q, .Assign [.Tuple [.Name _ _, .Name _ _] _ _] (.Tuple [a, c] _ _) _ => nfL es q [a, c]
  | .unp _ e, q, .Assign [_] a _ => nfE e q a
  | .for _ it body, q, .For _ iter b [] _ => nfI it q iter ++ nfSs body q b
  | .whi _ t body, q, .While c b [] _ => nfE t q c ++ nfSs body q b
  | .fld _ o e, q, .Assign [.Attribute x _ _] a _ => nfE o q x ++ nfE e q a
  | .tri _ body su, q, .Try b [.ExceptHandler (some (.Name _ _)) none (b0 :: bs) _] [] [] _ => nfSs body q b ++ nfSs su q (b0 :: bs)
  | _, _, _ => []
def nfSs : S → Str → List Stmt → Nfs
  | .cons s ss, q, st :: sts => nfS s q st ++ nfSs ss q sts
  | .frz _ ss, q, sts => nfSs ss q sts
  | _, _, _ => []
end
def SndS (T : Tb) (U : Wd) (lv : Nat) (g : Gm) (cl : List (Str × Addr)) (s : S) : Prop := ∀ (X : Cx) (b : B0) (W : WX) (cf : Cf), Fr T U lv cl cf X W → ∀ st, chkS T s cf st = true → (∀ x ∈ nfS s cf.qual st, T.nf x.1 = x.2) → JS X (U.fr cl) b W st (evS g s)
def SndSs (T : Tb) (U : Wd) (lv : Nat) (g : Gm) (cl : List (Str × Addr)) (s : S) : Prop := ∀ (X : Cx) (b : B0) (W : WX) (cf : Cf), Fr T U lv cl cf X W → ∀ sts, chkSs T s cf sts = true → (∀ x ∈ nfSs s cf.qual sts, T.nf x.1 = x.2) → JSs X (U.fr cl) b W sts (evS g s)
section
variable {T : Tb} {U : Wd} {lv : Nat} {g : Gm} {cl : List (Str × Addr)} {cf : Cf} {X : Cx} {b : B0} {W : WX}
/-- a slot tells the same value otherwise -/
theorem SR.reslot {sl : Sl} {μ : Sto} {ρ : List Addr} {G H : Hp} {σ : St} {i : Nat} {v : V} {d : D} (s : SR U b sl μ ρ G σ H) (hv : σ[i]? = some (some v)) (r : RV U ρ G v d) : SR U b (sl.set i (some d)) μ ρ G σ H := by
  refine ⟨s.h, fun j e h => ?_, by rw [List.length_set]; exact s.ln⟩
  by_cases hj : i = j
  · subst hj
    by_cases hi : i < sl.length
    · rw [List.getElem?_set_self hi] at h
      cases h
      exact ⟨v, hv, r⟩
    · rw [List.getElem?_eq_none (by rw [List.length_set]; omega)] at h; cases h
  · rw [List.getElem?_set_ne hj] at h
    exact s.sl j e h
theorem jss_frz {sts : List Stmt} {i : Nat} {m : Sl → Sto → O} (h : JSs X U b W sts m) : JSs X U b W sts fun sl μ => frzS i sl μ m := by
  refine PSs.imp h fun Dn σ H h => ?_
  obtain ⟨sl, μ, ρ, G, s, p⟩ := h
  dsimp only [frzS] at p
  split at p
  · rename_i j hi
    split at p
    · rename_i xs hj
      obtain ⟨v, hv, rv⟩ := s.sl i _ (getS_some hi)
      obtain ⟨a, ys, rfl, hr, ha, hl⟩ := ml_at s rv hj
      have ga := s.h.ap j a _ hr hj (by simp)
      have s2 := s.h.frz hr hj (by simp) ha
      have s3 : SR U b sl (μ.set j .gone) ρ (upd G a (.lst ys)) σ H := ⟨s2, fun i d e => let ⟨v, h1, h2⟩ := s.sl i d e; ⟨v, h1, h2.mono (List.prefix_refl _) (sub_upd ga)⟩, s.ln⟩
      exact ⟨_, _, ρ, _, s3.reslot hv (.pure (.lst upd_same (hl.mono (sub_upd ga)))), PoS.mono (List.prefix_refl _) (sub_upd ga) p⟩
    · exact p.elim
  · exact p.elim
theorem noS {s : Q.S} (h : ∀ cf st, chkS T s cf st = false) : SndS T U lv g cl s := fun X b W cf F st z => by rw [h] at z; cases z
theorem noSs {s : Q.S} (h : ∀ cf st, chkSs T s cf st = false) : SndSs T U lv g cl s := fun X b W cf F st z => by rw [h] at z; cases z
theorem sns_expr (O : WOk T U lv g) (e : Q.E) : SndS T U lv g cl (.expr e) := by
  intro X b W cf F st h hn
  cases st with
  | Expr a p =>
    simp only [chkS, Bool.and_eq_true, Bool.not_eq_true'] at h
    exact js_expr ((snd O e).1 X b W cf F a h.2 hn).1 h.1
  | _ => exact absurd h Bool.false_ne_true
theorem sns_ret (O : WOk T U lv g) (e : Q.E) : SndS T U lv g cl (.ret e) := by
  intro X b W cf F st h hn
  cases st with
  | Return o p =>
    cases o with
    | some a => exact js_ret ((snd O e).1 X b W cf F a h hn).1
    | none => exact absurd h Bool.false_ne_true
  | _ => exact absurd h Bool.false_ne_true
theorem sns_retN : SndS T U lv g cl .retN := by
  intro X b W cf F st h hn
  cases st with
  | Return o p =>
    cases o with
    | none => exact js_retN
    | some a => exact absurd h Bool.false_ne_true
  | _ => exact absurd h Bool.false_ne_true
theorem sns_pass : SndS T U lv g cl .pass := by
  intro X b W cf F st h hn
  cases st with
  | Pass p => exact js_pass
  | _ => exact absurd h Bool.false_ne_true
theorem sns_brk : SndS T U lv g cl .brk := by
  intro X b W cf F st h hn
  cases st with
  | Break p => exact js_brk
  | _ => exact absurd h Bool.false_ne_true
theorem sns_cont : SndS T U lv g cl .cont := by
  intro X b W cf F st h hn
  cases st with
  | Continue p => exact js_cont
  | _ => exact absurd h Bool.false_ne_true
theorem sns_iff (O : WOk T U lv g) {t : Q.E} {a c : Q.S} (i1 : SndSs T U lv g cl a) (i2 : SndSs T U lv g cl c) : SndS T U lv g cl (.iff t a c) := by
  intro X b W cf F st h hn
  cases st with
  | If x p q r =>
    simp only [chkS, Bool.and_eq_true] at h
    obtain ⟨⟨⟨h0, h1⟩, h2⟩, h3⟩ := h
    exact js_if (((snd O t).1 X b W cf F x h1 fun z hz => hn z (mem_l hz)).2 h0).1 (i1 X b W cf F p h2 fun z hz => hn z (mem_r (mem_l hz))) (i2 X b W cf F q h3 fun z hz => hn z (mem_r (mem_r hz)))
  | _ => exact absurd h Bool.false_ne_true
/-- one target, by its form -/
def oneName : List Expr → Option (Str × Pos)
  | [.Name x p] => some (x, p)
  | _ => none
theorem inv_set {i : Nat} {e : Q.E} {st : Stmt} (h : chkS T (.set i e) cf st = true) : ∃ x p a q, st = .Assign [.Name x p] a q ∧ cf.N[i]? = some x ∧ stoB cf x = true ∧ chkE T e cf a = true ∧ (if isLc e then setLcB cf x p a else !isComp a) = true := by
  cases st with
  | Assign ts a q =>
    rcases ts with _ | ⟨t, _ | _⟩ <;> first | exact absurd h Bool.false_ne_true | skip
    · cases t with
      | Name x p =>
        simp only [chkS, Bool.and_eq_true, decide_eq_true_eq] at h
        obtain ⟨⟨⟨h1, h2⟩, h3⟩, h4⟩ := h
        exact ⟨x, p, a, q, rfl, h1, h2, h3, h4⟩
      | _ => exact absurd h Bool.false_ne_true
    · cases t <;> exact absurd h Bool.false_ne_true
  | _ => exact absurd h Bool.false_ne_true
theorem sns_set (O : WOk T U lv g) (i : Nat) (e : Q.E) : SndS T U lv g cl (.set i e) := by
  intro X b W cf F st h hn
  obtain ⟨x, p, a, q, rfl, h1, h2, h3, h4⟩ := inv_set h
  obtain ⟨k1, k2⟩ := sto_of h2
  have nd : X.N.Nodup := by rw [F.N]; exact F.nd
  have hi : X.N[i]? = some x := by rw [F.N]; exact h1
  cases hl : isLc e with
  | false =>
    rw [hl] at h4
    have h4 : (!isComp a) = true := h4
    rw [Bool.not_eq_true'] at h4
    exact js_set nd hi (by rw [F.sc]; exact k1) ((snd O e).1 X b W cf F a h3 hn).1 h4 (k2.imp (fun z => F.fn z _) fun z => by rw [F.sc]; exact z)
  | true =>
    rw [hl, if_pos rfl] at h4
    cases e with
    | lc t vs it c elt =>
      obtain ⟨y, tg, iter, w, scope, pt, rfl, g1, g2, g3, g4, g5, g6, g7⟩ := inv_lc h3
      obtain ⟨hc, ok, hv⟩ := blk_of F g1
      simp only [setLcB, Bool.and_eq_true, decide_eq_true_eq, Bool.not_eq_true'] at h4
      obtain ⟨⟨⟨e1, e2⟩, e3⟩, e4⟩ := h4
      have z := js_setLc (py := p) (pos := q) (own := ownOf cf.N vs) (t := t) (mt := fun sl μ => tst (evE g c sl μ)) (me := evE g elt) (pt := pt) (F.calm hc).1 nd hi (by rw [F.sc]; exact e1) (by rw [F.sc]; exact e2) e3 e4 ((snd O it).2.2 X b W cf F tg iter g5 fun z hz => hn z (mem_l hz)) ok (fun s H C cl' fp => (sndG t).1 _ _ _ (F.blk scope s H C cl' fp) tg g4)
        (fun b s H C cl' fp => jts_one (((snd O c).1 _ b _ _ (F.blk scope s H C cl' fp) w g6 fun z hz => hn z (mem_r (mem_l hz))).2 g3).1) (fun b s H C cl' fp => ((snd O elt).1 _ b _ _ (F.blk scope s H C cl' fp) y g7 fun z hz => hn z (mem_r (mem_r hz))).1) (fsi_of g2 _) hv
      rw [own_map] at z
      exact z
    | lc0 t vs it elt =>
      obtain ⟨y, tg, iter, scope, pt, rfl, g1, g2, g4, g5, g7⟩ := inv_lc0 h3
      obtain ⟨hc, ok, hv⟩ := blk_of F g1
      simp only [setLcB, Bool.and_eq_true, decide_eq_true_eq, Bool.not_eq_true'] at h4
      obtain ⟨⟨⟨e1, e2⟩, e3⟩, e4⟩ := h4
      have z := js_setLc (py := p) (pos := q) (own := ownOf cf.N vs) (t := t) (mt := fun _ μ => .ok true μ) (me := evE g elt) (pt := pt) (F.calm hc).1 nd hi (by rw [F.sc]; exact e1) (by rw [F.sc]; exact e2) e3 e4 ((snd O it).2.2 X b W cf F tg iter g5 fun z hz => hn z (mem_l hz)) ok (fun s H C cl' fp => (sndG t).1 _ _ _ (F.blk scope s H C cl' fp) tg g4)
        (fun b s H C cl' fp => jts_nil) (fun b s H C cl' fp => ((snd O elt).1 _ b _ _ (F.blk scope s H C cl' fp) y g7 fun z hz => hn z (mem_r hz)).1) (fsi_of g2 _) hv
      rw [own_map] at z
      exact z
    | _ => cases hl
end
end Q
/-! Q46: statements, all forms. -/
namespace Q
open PySem PySem.Spec PyProof.Rows L2
section
variable {T : Tb} {U : Wd} {lv : Nat} {g : Gm} {cl : List (Str × Addr)} {cf : Cf} {X : Cx} {b : B0} {W : WX}
theorem inv_par {i j : Nat} {es : Q.E} {st : Stmt} (h : chkS T (.par i j es) cf st = true) : ∃ x px y py k pt a c k2 pt2 q, st = .Assign [.Tuple [.Name x px, .Name y py] k pt] (.Tuple [a, c] k2 pt2) q ∧ cf.calm = true ∧ cf.N[i]? = some x ∧ cf.N[j]? = some y ∧ parOk cf.sc x y px py a c = true ∧ chkL T es cf [a, c] = true := by
  unfold chkS at h
  split at h <;> first | contradiction | skip
  all_goals (rename_i z; first | (cases z; done) | skip)
  cases z
  simp only [Bool.and_eq_true, decide_eq_true_eq] at h
  obtain ⟨⟨⟨⟨h0, h1⟩, h2⟩, h3⟩, h4⟩ := h
  exact ⟨_, _, _, _, _, _, _, _, _, _, _, rfl, h0, h1, h2, h3, h4⟩
theorem sns_par (O : WOk T U lv g) (i j : Nat) (es : Q.E) : SndS T U lv g cl (.par i j es) := by
  intro X b W cf F st h hn
  obtain ⟨x, px, y, py, k, pt, a, c, k2, pt2, q, rfl, h0, h1, h2, h3, h4⟩ := inv_par h
  exact js_par (F.calm h0).1 (by rw [F.N]; exact F.nd) (by rw [F.N]; exact h1) (by rw [F.N]; exact h2) (by rw [F.sc]; exact h3) ((snd O es).2.1 X b W cf F _ h4 hn)
theorem inv_unp {t : Q.T} {e : Q.E} {st : Stmt} (h : chkS T (.unp t e) cf st = true) : ∃ tg a q, st = .Assign [tg] a q ∧ isTup a = false ∧ isComp a = false ∧ PySem.W.isStarred tg = false ∧ chkG t cf tg = true ∧ chkE T e cf a = true := by
  unfold chkS at h
  split at h <;> first | contradiction | skip
  all_goals (rename_i z; first | (cases z; done) | skip)
  cases z
  simp only [Bool.and_eq_true, Bool.not_eq_true'] at h
  obtain ⟨⟨⟨⟨h0, h1⟩, h2⟩, h3⟩, h4⟩ := h
  exact ⟨_, _, _, rfl, h0, h1, h2, h3, h4⟩
theorem sw_none {tg a : Expr} {env : Env} (h : isTup a = false) : swappedStores [tg] a env = pure none := by
  cases a with
  | Tuple es k p => cases h
  | _ => cases tg <;> rfl
theorem sns_unp (O : WOk T U lv g) (t : Q.T) (e : Q.E) : SndS T U lv g cl (.unp t e) := by
  intro X b W cf F st h hn
  obtain ⟨tg, a, q, rfl, h0, h1, h2, h3, h4⟩ := inv_unp h
  exact js_unp ((snd O e).1 X b W cf F a h4 (by cases tg <;> exact hn)).1 ((sndG t).1 X W cf F tg h3) h1 (sw_none h0) (aEach_not h2 [] _)
theorem inv_for {t : Q.T} {it : Q.E} {body : Q.S} {st : Stmt} (h : chkS T (.for t it body) cf st = true) : ∃ tg iter bs q, st = .For tg iter bs [] q ∧ cf.calm = true ∧ notSet iter = true ∧ chkG t cf tg = true ∧ chkI T it cf tg iter = true ∧ chkSs T body cf bs = true := by
  cases st with
  | For tg iter bs els q =>
    cases els with
    | nil =>
      simp only [chkS, Bool.and_eq_true] at h
      obtain ⟨⟨⟨⟨h0, h1⟩, h2⟩, h3⟩, h4⟩ := h
      exact ⟨tg, iter, bs, q, rfl, h0, h1, h2, h3, h4⟩
    | cons _ _ => exact absurd h Bool.false_ne_true
  | _ => exact absurd h Bool.false_ne_true
theorem sns_for (O : WOk T U lv g) (t : Q.T) (it : Q.E) {body : Q.S} (ih : SndSs T U lv g cl body) : SndS T U lv g cl (.for t it body) := by
  intro X b W cf F st h hn
  obtain ⟨tg, iter, bs, q, rfl, h0, h1, h2, h3, h4⟩ := inv_for h
  obtain ⟨hc, hr, tk, po⟩ := F.calm h0
  exact js_for po hc ((snd O it).2.2 X b W cf F tg iter h3 fun z hz => hn z (mem_l hz)) ((sndG t).1 X W cf F tg h2) (ih X b W cf F bs h4 fun z hz => hn z (mem_r hz)) (fsi_of h1 _)
theorem inv_whi {n : Nat} {t : Q.E} {body : Q.S} {st : Stmt} (h : chkS T (.whi n t body) cf st = true) : ∃ c bs q, st = .While c bs [] q ∧ cf.calm = true ∧ tstOk t = true ∧ chkE T t cf c = true ∧ chkSs T body cf bs = true := by
  cases st with
  | While c bs els q =>
    cases els with
    | nil =>
      simp only [chkS, Bool.and_eq_true] at h
      obtain ⟨⟨⟨h0, h1⟩, h2⟩, h3⟩ := h
      exact ⟨c, bs, q, rfl, h0, h1, h2, h3⟩
    | cons _ _ => exact absurd h Bool.false_ne_true
  | _ => exact absurd h Bool.false_ne_true
theorem sns_whi (O : WOk T U lv g) (n : Nat) (t : Q.E) {body : Q.S} (ih : SndSs T U lv g cl body) : SndS T U lv g cl (.whi n t body) := by
  intro X b W cf F st h hn
  obtain ⟨c, bs, q, rfl, h0, h1, h2, h3⟩ := inv_whi h
  obtain ⟨hc, hr, tk, po⟩ := F.calm h0
  exact js_while n po (((snd O t).1 X b W cf F c h2 fun z hz => hn z (mem_l hz)).2 h1).1 (ih X b W cf F bs h3 fun z hz => hn z (mem_r hz))
theorem inv_fld {n : Nat} {o e : Q.E} {st : Stmt} (h : chkS T (.fld n o e) cf st = true) : ∃ x f p a q, st = .Assign [.Attribute x f p] a q ∧ T.anm[n]? = some f ∧ isComp a = false ∧ chkE T o cf x = true ∧ chkE T e cf a = true := by
  unfold chkS at h
  split at h <;> first | contradiction | skip
  all_goals (rename_i z; first | (cases z; done) | skip)
  cases z
  simp only [Bool.and_eq_true, Bool.not_eq_true', decide_eq_true_eq] at h
  obtain ⟨⟨⟨h0, h1⟩, h2⟩, h3⟩ := h
  exact ⟨_, _, _, _, _, rfl, h0, h1, h2, h3⟩
theorem sns_fld (O : WOk T U lv g) (n : Nat) (o e : Q.E) : SndS T U lv g cl (.fld n o e) := by
  intro X b W cf F st h hn
  obtain ⟨x, f, p, a, q, rfl, h0, h1, h2, h3⟩ := inv_fld h
  exact js_fld (F.hX.fr cl) (fun c j hj => let ⟨z1, z2, z3, z4⟩ := (O.att n f h0).ix c j hj; ⟨z1, z2, O.few c, z3, z4⟩) ((snd O e).1 X b W cf F a h3 fun z hz => hn z (mem_r hz)).1 ((snd O o).1 X b W cf F x h2 fun z hz => hn z (mem_l hz)).1 h1
theorem inv_rse {c : Nat} {st : Stmt} (h : chkS T (.rse c) cf st = true) : ∃ x p m k p2 p3 q, st = .Raise (some (.Call (.Name x p) [.Constant (.str m) k p2] [] p3)) none q ∧ cf.calm = true ∧ T.cln[c]? = some x ∧ c ∈ T.exc ∧ glB cf.sc x = true := by
  unfold chkS at h
  split at h <;> first | contradiction | skip
  all_goals (rename_i z; first | (cases z; done) | skip)
  cases z
  simp only [Bool.and_eq_true, decide_eq_true_eq, List.contains_iff_mem] at h
  obtain ⟨⟨⟨h0, h1⟩, h2⟩, h3⟩ := h
  exact ⟨_, _, _, _, _, _, _, rfl, h0, h1, h2, h3⟩
theorem sns_rse (O : WOk T U lv g) (c : Nat) : SndS T U lv g cl (.rse c) := by
  intro X b W cf F st h hn
  obtain ⟨x, p, m, k, p2, p3, q, rfl, h0, h1, h2, h3⟩ := inv_rse h
  obtain ⟨hc, hr, tk, po⟩ := F.calm h0
  obtain ⟨e1, e2, e3⟩ := O.exc c h2
  exact js_raise (U := U.fr cl) (F.hX.fr cl) hc tk PySem.F.excBase_ValueError e1 (O.cln c x h1).1 (O.cln c x h1).2 e2 e3 (F.gl h3).1 (F.gl h3).2
theorem inv_tri {c : Nat} {body su : Q.S} {st : Stmt} (h : chkS T (.tri c body su) cf st = true) : ∃ bs x p b0 rs p2 q, st = .Try bs [.ExceptHandler (some (.Name x p)) none (b0 :: rs) p2] [] [] q ∧ cf.calm = true ∧ cf.own = true ∧ T.cln[c]? = some x ∧ glB cf.sc x = true ∧ chkSs T body cf bs = true ∧ chkSs T su cf.hot (b0 :: rs) = true := by
  unfold chkS at h
  split at h <;> first | contradiction | skip
  all_goals (rename_i z; first | (cases z; done) | skip)
  cases z
  simp only [Bool.and_eq_true, decide_eq_true_eq] at h
  obtain ⟨⟨⟨⟨⟨h0, h1⟩, h2⟩, h3⟩, h4⟩, h5⟩ := h
  exact ⟨_, _, _, _, _, _, _, rfl, h0, h1, h2, h3, h4, h5⟩
theorem sns_tri (O : WOk T U lv g) (c : Nat) {body su : Q.S} (i1 : SndSs T U lv g cl body) (i2 : SndSs T U lv g cl su) : SndS T U lv g cl (.tri c body su) := by
  intro X b W cf F st h hn
  obtain ⟨bs, x, p, b0, rs, p2, q, rfl, h0, h1, h2, h3, h4, h5⟩ := inv_tri h
  obtain ⟨hc, hr, tk, po⟩ := F.calm h0
  obtain ⟨o1, o2⟩ := F.own h1
  exact js_try (c := .ref (U.cA c)) (is := fun k => g.exi k c) (F.hX.fr cl) o1 o2 ⟨(F.gl h3).1, (F.gl h3).2, .inl (by rw [F.hX.mg]; exact (O.cln c x h2).1)⟩ tk (fun k z hz => O.exi k c z hz) (fun W' pn xe tk' po' => i1 _ b W' cf (F.tr tk' po') bs h4 fun z hz => hn z (mem_l hz))
    fun a oe cls d pn _ _ => i2 _ b W cf.hot (F.hot a _ W) (b0 :: rs) h5 fun z hz => hn z (mem_r hz)
theorem sns_nil : SndSs T U lv g cl .nil := by
  intro X b W cf F sts h hn
  cases sts with
  | nil => exact jss_nil
  | cons _ _ => exact absurd h Bool.false_ne_true
theorem sns_cons {s ss : Q.S} (i1 : SndS T U lv g cl s) (i2 : SndSs T U lv g cl ss) : SndSs T U lv g cl (.cons s ss) := by
  intro X b W cf F sts h hn
  cases sts with
  | nil => exact absurd h Bool.false_ne_true
  | cons st sts =>
    simp only [chkSs, Bool.and_eq_true] at h
    exact jss_cons (i1 X b W cf F st h.1 fun z hz => hn z (mem_l hz)) (i2 X b W cf F sts h.2 fun z hz => hn z (mem_r hz))
theorem sns_frz (i : Nat) {ss : Q.S} (ih : SndSs T U lv g cl ss) : SndSs T U lv g cl (.frz i ss) := by
  intro X b W cf F sts h hn
  exact jss_frz (ih X b W cf F sts (by unfold chkSs at h; exact h) (by unfold nfSs at hn; exact hn))
/-- all statements -/
theorem sns (O : WOk T U lv g) : ∀ s : Q.S, SndS T U lv g cl s ∧ SndSs T U lv g cl s := by
  intro s
  induction s with
  | nil => exact ⟨noS fun _ _ => rfl, sns_nil⟩
  | cons s ss i1 i2 => exact ⟨noS fun _ _ => rfl, sns_cons i1.1 i2.2⟩
  | frz i ss ih => exact ⟨noS fun _ _ => rfl, sns_frz i ih.2⟩
  | expr e => exact ⟨sns_expr O e, noSs fun _ _ => rfl⟩
  | ret e => exact ⟨sns_ret O e, noSs fun _ _ => rfl⟩
  | retN => exact ⟨sns_retN, noSs fun _ _ => rfl⟩
  | pass => exact ⟨sns_pass, noSs fun _ _ => rfl⟩
  | brk => exact ⟨sns_brk, noSs fun _ _ => rfl⟩
  | cont => exact ⟨sns_cont, noSs fun _ _ => rfl⟩
  | iff t a c i1 i2 => exact ⟨sns_iff O i1.2 i2.2, noSs fun _ _ => rfl⟩
  | set i e => exact ⟨sns_set O i e, noSs fun _ _ => rfl⟩
  | par i j es => exact ⟨sns_par O i j es, noSs fun _ _ => rfl⟩
  | unp t e => exact ⟨sns_unp O t e, noSs fun _ _ => rfl⟩
  | «for» t it body ih => exact ⟨sns_for O t it ih.2, noSs fun _ _ => rfl⟩
  | whi n t body ih => exact ⟨sns_whi O n t ih.2, noSs fun _ _ => rfl⟩
  | fld n o e => exact ⟨sns_fld O n o e, noSs fun _ _ => rfl⟩
  | rse c => exact ⟨sns_rse O c, noSs fun _ _ => rfl⟩
  | tri c body su i1 i2 => exact ⟨sns_tri O c i1.2 i2.2, noSs fun _ _ => rfl⟩
  | ndef k i => exact ⟨noS fun _ _ => rfl, noSs fun _ _ => rfl⟩
  | bad => exact ⟨fun X b W cf F a h hn => js_bad, fun X b W cf F a h hn => jss_bad⟩
end
end Q
/-! Q47: arguments; the program's tables; what defs come to, by the depth of calls. -/
namespace Q
open PySem PySem.Spec PyProof.Rows L2
/-! ### plain parameters -/
theorem look_zip : ∀ {ps : List Str} {us : List Value} {n : Str}, us.length = ps.length → n ∈ ps → ((ps.zip us).lookup n).isSome = true
  | [], _, _, _, h => by cases h
  | p :: ps, [], _, hl, _ => by cases hl
  | p :: ps, u :: us, n, hl, h => by
    rw [List.zip_cons_cons, List.lookup_cons]
    cases q : n == p with
    | true => rfl
    | false =>
      refine look_zip (by simpa using hl) ?_
      rcases List.mem_cons.mp h with e | e
      · rw [e, beq_self_eq_true] at q; cases q
      · exact e
theorem fmap_congr {α β : Type} {f g : α → Option β} : ∀ {l : List α}, (∀ x ∈ l, f x = g x) → l.filterMap f = l.filterMap g
  | [], _ => rfl
  | a :: l, h => by
    rw [List.filterMap_cons, List.filterMap_cons, h a List.mem_cons_self, fmap_congr fun x hx => h x (List.mem_cons_of_mem _ hx)]
theorem zip_back : ∀ {ps : List Str} {us : List Value}, ps.Nodup → us.length = ps.length → ps.filterMap (fun n => ((ps.zip us).lookup n).map (n, ·)) = ps.zip us
  | [], _, _, _ => rfl
  | p :: ps, [], _, hl => by cases hl
  | p :: ps, u :: us, nd, hl => by
    obtain ⟨h1, h2⟩ := List.nodup_cons.mp nd
    rw [List.zip_cons_cons, List.filterMap_cons]
    simp only [List.lookup_cons, beq_self_eq_true, Option.map_some]
    congr 1
    refine Eq.trans (fmap_congr fun n hn => ?_) (zip_back (us := us) h2 (by simpa using hl))
    have q : (n == p) = false := beq_eq_false_iff_ne.mpr fun z => h1 (z ▸ hn)
    rw [q]
theorem bind_plain {fd : FuncData} {as : List Arg} (hp : fd.params = ⟨[], as, none, [], [], none, []⟩) (hd : fd.defaults = .none) (nd : (as.map (·.arg)).Nodup) {us : List Value} (hl : us.length = as.length) : bindArgs fd ⟨us, []⟩ = pure ((as.map (·.arg)).zip us) := by
  have hl' : us.length = (as.map (·.arg)).length := by rw [List.length_map]; exact hl
  have hs : seqItems? Value.none = pure none := rfl
  have hm : (as.map (·.arg)).filter (fun n => (((as.map (·.arg)).zip us).lookup n).isNone) = [] := by
    rw [List.filter_eq_nil_iff]
    intro n hn
    rw [Option.isNone_iff_eq_none]
    intro z
    have := look_zip hl' hn
    rw [z] at this
    cases this
  unfold bindArgs
  rw [hp, hd, hs]
  have hng : ¬ (us.length > as.length) := by omega
  simp only [List.map_nil, List.nil_append, pure_bind, Option.getD_none, List.forIn_nil, List.append_nil, List.length_nil, List.length_map, Nat.sub_zero, Nat.zero_sub, List.drop_zero, decide_false, Bool.false_and, hng, hm, List.isEmpty_nil, Bool.not_true, Bool.false_eq_true, if_false, List.drop_nil, List.zip_nil_right, List.take_of_length_le (show (as.map (·.arg)).length ≤ as.length by rw [List.length_map]; exact Nat.le_refl _), zip_back nd hl', Option.isNone_none, Bool.and_true, List.filter_nil]
/-! ### the program's tables -/
/-- a def -/
structure DefI where
  adr : PySem.W.Frag → Addr
  name : Str
  qual : Str
  params : Arguments
  body : List Stmt
  scope : Scope
  N : List Str
  ps : List Str
  ir : S
  tab : Option Nat
/-- a lambda -/
structure NfI where
  N : List Str
  ps : List Str
  fr : Nat
  ir : E
/-- a class: by def or attribute -/
structure ClI where
  name : Str
  flds : List Str
  exc : Bool
  ini : Option Nat
  fw : List (Operator × Nat)
  rv : List (Operator × Nat)
  eq : Option Nat
  cn : Option Nat
  ln : Option Nat
  ng : Option Nat
  ixs : List (Option Nat)
  prs : List (Option Nat)
  mts : List (Option Nat)
  cms : List (Option (Bool × Nat))
structure Pg where
  defs : List DefI
  nfs : List NfI
  cls : List ClI
  free : List Str
  gln : List Str
  gl : List D
  fnn : List Str
  anm : List Str
  nms : List (List (Nat × Nat × Str))
  isc : List (List (Option Bool))
  exi : List (List (Option Bool))
def lookO (op : Operator) : List (Operator × Nat) → Option Nat
  | [] => none
  | (o, k) :: r => if o = op then some k else lookO op r
def atO {α : Type} (l : List (Option α)) (i : Nat) : Option α := match l[i]? with
  | some (some a) => some a
  | _ => none
def nmAt (l c : Nat) : List (Nat × Nat × Str) → Str
  | [] => Str.empty
  | (a, b, x) :: r => if a == l && b == c then x else nmAt l c r
def Pg.nf (G : Pg) : Nfs := G.defs.flatMap fun d => nfSs d.ir (d.qual ++ ".<locals>.") d.body
def noNFi : NFi := ⟨Str.empty, Str.empty, ⟨[], [], none, [], [], none, []⟩, .stmts [], ⟨.function, [], false, false, []⟩, []⟩
def Pg.T (G : Pg) : Tb where
  free := G.free
  gln := G.gln
  cln := G.cls.map (·.name)
  fnn := G.fnn
  anm := G.anm
  nm := fun j l c => match G.nms[j]? with
    | some t => nmAt l c t
    | none => Str.empty
  nf := fun k => (G.nf.lookup k).getD noNFi
  exc := (List.range G.cls.length).filter fun c => match G.cls[c]? with
    | some C => C.exc
    | none => false
def Pg.cl {α : Type} (G : Pg) (f : ClI → Option α) (c : Nat) : Option α := match G.cls[c]? with
  | some C => f C
  | none => none
/-- what does not hang on defs -/
def Pg.g0 (G : Pg) : Gm := ⟨fun _ _ _ => .no, fun _ _ _ => .no, fun j => G.gl.getD j .non, fun c => G.cl (fun C => C.ini.map fun k => (k, C.flds.length)) c, fun op c => G.cl (fun C => lookO op C.fw) c, fun op c => G.cl (fun C => lookO op C.rv) c, G.cl (·.eq), G.cl (·.cn), G.cl (·.ln), G.cl (·.ng),
    fun a c => G.cl (fun C => atO C.ixs a) c, fun a c => G.cl (fun C => atO C.prs a) c, fun a c => G.cl (fun C => atO C.mts a) c, fun a c => G.cl (fun C => atO C.cms a) c, fun c c' => match G.isc[c]? with | some l => atO l c' | none => none, fun c c' => match G.exi[c]? with | some l => atO l c' | none => none⟩
/-- a def's call, a lambda's -/
def isBad : S → Bool
  | .bad => true
  | _ => false
def runD (g : Gm) (o : Option DefI) (ds : List D) (μ : Sto) : R D := match o with
  | some d => trimR μ.length (if ds.length = d.ps.length then outO (evS g d.ir (startS d.N.length ds) μ) else .no)
  | none => .no
def runL (g : Gm) (o : Option NfI) (ds : List D) (μ : Sto) : R D := match o with
  | some d => trimR μ.length (if ds.length = d.ps.length + d.fr then outR (evE g d.ir (startS d.N.length ds) μ) else .no)
  | none => .no
/-- defs and lambdas, with at most n calls one in another -/
def Pg.g (G : Pg) : Nat → Gm
  | 0 => G.g0
  | n + 1 => { G.g0 with Φ := fun k ds μ => runD (G.g n) G.defs[k]? ds μ, Ψ := fun k ds μ => runL (G.g n) G.nfs[k]? ds μ }
def Pg.U (G : Pg) (P : Program) (w : World) (K : PySem.W.Frag) (mg : Str → Option Value) (base : Heap) (tabs : List NdefX.NTab) : Wd where
  P := P
  w := w
  K := K
  mg := mg
  base := base
  cA := fun c => match G.cls[c]? with | some C => He.ga K C.name | none => 0
  cF := fun c => match G.cls[c]? with | some C => C.flds | none => []
  fA := fun k => match G.defs[k]? with | some d => d.adr K | none => 0
  T := tabs
  nf := G.T.nf
  cl := []
end Q
/-! Q48: all defs keep what their evaluation says. -/
namespace Q
open PySem PySem.Spec PyProof.Rows L2
/-- the facts of the world that hang on no def -/
structure StK (G : Pg) (U : Wd) : Prop where
  fre : ∀ x ∈ G.free, U.mg x = none
  gln : ∀ (j : Nat) x, G.gln[j]? = some x → ∃ v u, U.mg x = some u ∧ RelV v u ∧ ∀ H, Rep U H v (G.g0.gl j)
  cln : ∀ (c : Nat) x, G.T.cln[c]? = some x → U.mg x = some (.ref (U.cA c)) ∧ PySem.W.keepIn U.K (.ref (U.cA c)) = true
  fnn : ∀ (k : Nat) x, G.fnn[k]? = some x → U.mg x = some (.ref (U.fA k)) ∧ PySem.W.keepIn U.K (.ref (U.fA k)) = true
  ini : ∀ c k n, G.g0.ini c = some (k, n) → PySem.W.keepIn U.K (.ref (U.cA c)) = true ∧ (U.cF c).length = n ∧ Mk U.K (U.cA c) (U.fA k)
  fw : ∀ op c k, G.g0.fw op c = some k → PySem.W.selfFirst U.K (U.cA c) = true ∧ PySem.W.findIn U.K (.ref (U.cA c)) (dunder op.info.2) = some (some (.ref (U.fA k))) ∧ PySem.W.isFn U.K (.ref (U.fA k)) = true ∧ (∃ g, PySem.W.findIn U.K (.ref (U.cA c)) (dunderR op.info.2) = some (some (.ref g))) ∧ ∀ T : String, T = "int" ∨ T = "str" ∨ T = "NoneType" ∨ T = "bool" →
      ∃ fo ro, PySem.W.findIn U.K (.type T) (dunder op.info.2) = some fo ∧ PySem.W.findIn U.K (.type T) (dunderR op.info.2) = some ro ∧ PySem.W.subIn U.K (.type T) (.ref (U.cA c)) = some false
  rv : ∀ op c k, G.g0.rv op c = some k → (op = .Add ∨ op = .Sub ∨ op = .Mult) ∧ PySem.W.selfFirst U.K (U.cA c) = true ∧ (∃ f, PySem.W.findIn U.K (.ref (U.cA c)) (dunder op.info.2) = some (some (.ref f))) ∧ PySem.W.findIn U.K (.ref (U.cA c)) (dunderR op.info.2) = some (some (.ref (U.fA k))) ∧ PySem.W.isFn U.K (.ref (U.fA k)) = true ∧ PySem.W.subIn U.K (.ref (U.cA c)) (.type "int") = some false
  eq : ∀ c k, G.g0.eq c = some k → PySem.W.mroIn U.K (U.cA c) (.type "object") = some true ∧ (∀ T : String, T = "int" ∨ T = "str" ∨ T = "NoneType" ∨ T = "bool" → PySem.W.subIn U.K (.type T) (.ref (U.cA c)) = some false) ∧ PySem.W.findIn U.K (.ref (U.cA c)) "__ne__" = some (some (.builtin "object.__ne__")) ∧ PySem.W.findIn U.K (.ref (U.cA c)) "__eq__" = some (some (.ref (U.fA k))) ∧ PySem.W.isFn U.K (.ref (U.fA k)) = true
  cn : ∀ c k, G.g0.cn c = some k → PySem.W.findIn U.K (.ref (U.cA c)) "__contains__" = some (some (.ref (U.fA k))) ∧ PySem.W.isFn U.K (.ref (U.fA k)) = true
  ln : ∀ c k, G.g0.ln c = some k → PySem.W.findIn U.K (.ref (U.cA c)) "__len__" = some (some (.ref (U.fA k))) ∧ PySem.W.isFn U.K (.ref (U.fA k)) = true
  ng : ∀ c k, G.g0.ng c = some k → PySem.W.findIn U.K (.ref (U.cA c)) "__neg__" = some (some (.ref (U.fA k))) ∧ PySem.W.isFn U.K (.ref (U.fA k)) = true
  ix : ∀ (a : Nat) f, G.anm[a]? = some f → ∀ c j, G.g0.ix a c = some j → (U.cF c)[j]? = some f ∧ (U.cF c).Nodup ∧ NoAttr U.K (U.cA c) f ∧ Cls U.K (U.cA c)
  pr : ∀ (a : Nat) f, G.anm[a]? = some f → ∀ c k, G.g0.pr a c = some k → Cls U.K (U.cA c) ∧ ∃ p, PropOf U.K (U.cA c) f p (U.fA k)
  few : ∀ c, (U.cF c).length < 1000
  mt : ∀ (m : Nat) f, G.anm[m]? = some f → ∀ c k, G.g0.mt m c = some k → Cls U.K (U.cA c) ∧ f ∉ U.cF c ∧ Meth U.K (U.cA c) f (U.fA k)
  cm : ∀ (m : Nat) f, G.anm[m]? = some f → ∀ c k, G.g0.cm m c = some (true, k) → ∃ mc p, ClX.CRead U.K (U.cA c) mc ∧ ClX.CMet U.K (U.cA c) mc f p (U.fA k)
  sm : ∀ (m : Nat) f, G.anm[m]? = some f → ∀ c k, G.g0.cm m c = some (false, k) → ∃ mc p, ClX.CRead U.K (U.cA c) mc ∧ PySem.W.findCls U.K (.ref (U.cA c)) mc f = some (.get (.builtin "staticmethod.__get__") (.ref p) .none (.ref (U.cA c))) ∧ (∃ rest, PySem.W.recIn U.K p "staticmethod" = some (.ref (U.fA k) :: rest)) ∧ PySem.W.keepIn U.K (.ref (U.fA k)) = true
  isi : IsiOk U G.g0.isc
  exc : ∀ c ∈ G.T.exc, PySem.W.excIn U.K (U.cA c) [.type "ValueError", .type "Exception", .type "BaseException", .type "object"] "ValueError.__new__" = true ∧ PySem.W.subIn U.K (.ref (U.cA c)) (.type "BaseException") = some true ∧ PySem.W.typeIn U.K (.ref (U.cA c)) = some (.type "type")
  exi : ∀ k c z, G.g0.exi k c = some z → PySem.W.exmOne U.K (.ref (U.cA k)) (.ref (U.cA c)) = some z
  nf : U.nf = G.T.nf
  fn : ∀ (k : Nat) d, G.defs[k]? = some d → isBad d.ir = false → ∃ oc od osl kV doc pm an cdv ct, U.K.lookup (U.fA k) = some ⟨oc, od, .func (PySem.W.fnOf d.name d.qual d.params d.body d.scope .none kV doc pm an cdv ct), osl⟩ ∧ PySem.W.codeIn U.K cdv d.qual = true ∧
    ∀ j, d.tab = some j → ∃ c P, cdv = .ref c ∧ LamX.TabB U.base U.mg c P ∧ (P, G.T.nm j) ∈ U.T ∧ ∀ p ∈ U.T, p.1 = P → p.2 = G.T.nm j
/-! ### looks at the texts -/
def plainP (a : Arguments) : Bool := a.posonlyargs.isEmpty && a.vararg.isNone && a.kwonlyargs.isEmpty && a.kw_defaults.isEmpty && a.kwarg.isNone && a.defaults.isEmpty
theorem plainP_of {a : Arguments} (h : plainP a = true) : a = ⟨[], a.args, none, [], [], none, []⟩ := by
  obtain ⟨a1, a2, a3, a4, a5, a6, a7⟩ := a
  simp only [plainP, Bool.and_eq_true, List.isEmpty_iff, Option.isNone_iff_eq_none] at h
  obtain ⟨⟨⟨⟨⟨rfl, rfl⟩, rfl⟩, rfl⟩, rfl⟩, rfl⟩ := h
  rfl
def fscB (N ps : List Str) (sc : Scope) : Bool := decide (sc.kind = .function) && !sc.isCoroutine && !sc.isGenerator && decide N.Nodup && decide (N.take ps.length = ps) && ps.all (fun x => decide (sc.names.lookup x = some .local) || decide (sc.names.lookup x = some .cell)) && sc.names.all (fun y => !decide (y.2 = .free))
theorem fsc_of {N ps : List Str} {sc : Scope} (h : fscB N ps sc = true) : FnScope N ps sc := by
  unfold fscB at h
  simp only [Bool.and_eq_true, Bool.not_eq_true', decide_eq_true_eq, List.all_eq_true, Bool.or_eq_true, decide_eq_false_iff_not] at h
  obtain ⟨⟨⟨⟨⟨⟨h1, h2⟩, h3⟩, h4⟩, h5⟩, h6⟩, h7⟩ := h
  exact ⟨h1, h2, h3, h4, h5, h6, h7⟩
def DefI.cf (d : DefI) : Cf := ⟨d.N, d.scope, true, true, true, d.tab, d.qual ++ ".<locals>."⟩
def defB (T : Tb) (d : DefI) : Bool := isBad d.ir || plainP d.params && decide (d.params.args.map (·.arg) = d.ps) && fscB d.N d.ps d.scope && chkSs T d.ir d.cf d.body
def lamB (T : Tb) (n : NFi) (d : NfI) : Bool := plainP n.params && decide (n.params.args.map (·.arg) = d.ps) && NdefX.nscB d.N d.ps n.fr n.scope && (n.fr.length == d.fr) && (match n.body with
  | .expr b => chkE T d.ir ⟨d.N, n.scope, false, true, true, none, Str.empty⟩ b && (nfE d.ir Str.empty b).isEmpty
  | .stmts _ => false)
structure Ck (G : Pg) : Prop where
  defs : ∀ (k : Nat) d, G.defs[k]? = some d → defB G.T d = true
  lams : ∀ (k : Nat) d, G.nfs[k]? = some d → lamB G.T (G.T.nf k) d = true
  keys : (G.nf.map (·.1)).Nodup
theorem lookup_nodup {α : Type} : ∀ {l : List (Nat × α)} {x : Nat × α}, (l.map (·.1)).Nodup → x ∈ l → l.lookup x.1 = some x.2
  | [], _, _, h => by cases h
  | (a, v) :: l, x, nd, h => by
    obtain ⟨h1, h2⟩ := List.nodup_cons.mp nd
    rw [List.lookup_cons]
    rcases List.mem_cons.mp h with e | e
    · subst e; simp
    · have q : (x.1 == a) = false := beq_eq_false_iff_ne.mpr fun z => h1 (z ▸ List.mem_map.mpr ⟨x, e, rfl⟩)
      rw [q]
      exact lookup_nodup h2 e
theorem Ck.nf {G : Pg} (C : Ck G) {k : Nat} {d : DefI} (h : G.defs[k]? = some d) : ∀ x ∈ nfSs d.ir (d.qual ++ ".<locals>.") d.body, G.T.nf x.1 = x.2 := by
  intro x hx
  show (G.nf.lookup x.1).getD noNFi = x.2
  rw [lookup_nodup C.keys (x := x) (List.mem_flatMap.mpr ⟨d, List.mem_of_getElem? h, hx⟩)]
  rfl
/-! ### all defs -/
section
variable {G : Pg} {U : Wd}
theorem g_tb (G : Pg) : ∀ n, (G.g n).gl = G.g0.gl ∧ (G.g n).ini = G.g0.ini ∧ (G.g n).fw = G.g0.fw ∧ (G.g n).rv = G.g0.rv ∧ (G.g n).eq = G.g0.eq ∧ (G.g n).cn = G.g0.cn ∧ (G.g n).ln = G.g0.ln ∧ (G.g n).ng = G.g0.ng ∧ (G.g n).ix = G.g0.ix ∧ (G.g n).pr = G.g0.pr ∧ (G.g n).mt = G.g0.mt ∧ (G.g n).cm = G.g0.cm ∧ (G.g n).isc = G.g0.isc ∧ (G.g n).exi = G.g0.exi
  | 0 => ⟨rfl, rfl, rfl, rfl, rfl, rfl, rfl, rfl, rfl, rfl, rfl, rfl, rfl, rfl⟩
  | _ + 1 => ⟨rfl, rfl, rfl, rfl, rfl, rfl, rfl, rfl, rfl, rfl, rfl, rfl, rfl, rfl⟩
/-- the world, from its facts and the defs' promises -/
theorem wok_of (S : StK G U) {lv n : Nat} (hf : ∀ k, FnR U.P U.w U.K U.mg U.base (L2.CX U.P U.w) lv (U.fA k) (spF U ((G.g n).Φ k))) (hb : ∀ k, Backs ((G.g n).Φ k)) (hc : ∀ k, CloOk U lv k ((G.g n).Ψ k)) (hd : ∀ k, Backs ((G.g n).Ψ k)) : WOk G.T U lv (G.g n) := by
  obtain ⟨t1, t2, t3, t4, t5, t6, t7, t8, t9, t10, t11, t12, t13, t14⟩ := g_tb G n
  refine ⟨S.fre, by rw [t1]; exact S.gln, S.cln, fun k x h => ⟨(S.fnn k x h).1, (S.fnn k x h).2, hf k⟩, hb, hd, fun c k m h => ?_, fun op => ⟨fun c k h => ?_, fun c k h => ?_⟩, ⟨fun c k h => ?_, fun c k h => ?_, fun c k h => ?_, fun c k h => ?_⟩, fun a f h => ⟨fun c j q => ?_, fun c k q => ?_⟩, S.few, fun m f h => ⟨fun c k q => ?_, fun c k q => ?_, fun c k q => ?_⟩, by rw [t13]; exact S.isi, hc, S.exc, by rw [t14]; exact S.exi, fun k => by rw [S.nf]⟩
  · rw [t2] at h
    obtain ⟨h1, h2, h3⟩ := S.ini c k m h
    exact ⟨h1, h2, _, h3, hf k⟩
  · rw [t3] at h
    obtain ⟨h1, h2, h3, ⟨g, h4⟩, h5⟩ := S.fw op c k h
    exact ⟨hb k, h1, _, g, h2, h3, hf k, h4, h5⟩
  · rw [t4] at h
    obtain ⟨h0, h1, ⟨f, h2⟩, h3, h4, h5⟩ := S.rv op c k h
    exact ⟨h0, hb k, h1, f, _, h2, h3, h4, h5, hf k⟩
  · rw [t5] at h
    obtain ⟨h1, h2, h3, h4, h5⟩ := S.eq c k h
    exact ⟨hb k, h1, h2, h3, _, h4, h5, hf k⟩
  · rw [t6] at h
    exact ⟨hb k, _, (S.cn c k h).1, (S.cn c k h).2, hf k⟩
  · rw [t7] at h
    exact ⟨hb k, _, (S.ln c k h).1, (S.ln c k h).2, hf k⟩
  · rw [t8] at h
    exact ⟨hb k, _, (S.ng c k h).1, (S.ng c k h).2, hf k⟩
  · rw [t9] at q
    exact S.ix a f h c j q
  · rw [t10] at q
    obtain ⟨h1, p, h2⟩ := S.pr a f h c k q
    exact ⟨hb k, h1, p, _, h2, hf k⟩
  · rw [t11] at q
    obtain ⟨h1, h2, h3⟩ := S.mt m f h c k q
    exact ⟨hb k, h1, h2, _, h3, hf k⟩
  · rw [t12] at q
    obtain ⟨mc, p, h1, h2⟩ := S.cm m f h c k q
    exact ⟨hb k, mc, p, _, h1, h2, hf k⟩
  · rw [t12] at q
    obtain ⟨mc, p, h1, h2, h3, h4⟩ := S.sm m f h c k q
    exact ⟨hb k, mc, p, _, h1, h2, h3, h4, hf k⟩
theorem trimR_ok {n : Nat} {r : R D} {d : D} {μ : Sto} (h : trimR n r = .ok d μ) : ∃ μ', r = .ok d μ' := by
  cases r with
  | ok e μ' =>
    have h : (if (fitD n e && fitS n (μ'.take n)) = true then R.ok e (μ'.take n) else R.ok e μ') = R.ok d μ := h
    split at h <;> (cases h; exact ⟨_, rfl⟩)
  | ex x μ' =>
    have h : (if fitS n (μ'.take n) = true then R.ex x (μ'.take n) else R.ex x μ') = R.ok d μ := h
    split at h <;> cases h
  | no => cases h
theorem backs_D (g : Gm) (o : Option DefI) : Backs (runD g o) := by
  intro ds μ d μ' h
  unfold runD at h
  split at h
  · obtain ⟨μ2, h⟩ := trimR_ok h
    split at h
    · exact outO_backs h
    · cases h
  · cases h
theorem outR_backs {r : R D} {d : D} {μ : Sto} (h : outR r = .ok d μ) : isV d = true := by
  cases r with
  | ok e μ' =>
    have h : (if isV e = true then R.ok e μ' else R.no) = R.ok d μ := h
    by_cases z : isV e = true
    · rw [if_pos z] at h; cases h; exact z
    · rw [if_neg z] at h; cases h
  | ex x μ' => cases h
  | no => cases h
theorem backs_L (g : Gm) (o : Option NfI) : Backs (runL g o) := by
  intro ds μ d μ' h
  unfold runL at h
  split at h
  · obtain ⟨μ2, h⟩ := trimR_ok h
    split at h
    · exact outR_backs h
    · cases h
  · cases h
/-- a def's call, what it makes still there -/
def rawD (g : Gm) (d : DefI) (ds : List D) (μ : Sto) : R D := if ds.length = d.ps.length then outO (evS g d.ir (startS d.N.length ds) μ) else .no
def rawL (g : Gm) (d : NfI) (ds : List D) (μ : Sto) : R D := if ds.length = d.ps.length + d.fr then outR (evE g d.ir (startS d.N.length ds) μ) else .no
theorem bad_run {g : Gm} {d : DefI} (h : isBad d.ir = true) (ds : List D) (μ : Sto) : runD g (some d) ds μ = .no := by
  have e : d.ir = .bad := by
    cases hi : d.ir with
    | bad => rfl
    | _ => rw [hi] at h; cases h
  unfold runD
  simp only [e]
  show trimR _ (if _ then R.no else R.no) = R.no
  split <;> rfl
/-- a def's body -/
theorem def_ok (S : StK G U) (C : Ck G) {lv n : Nat} (O : WOk G.T U lv (G.g n)) (k : Nat) : FnR U.P U.w U.K U.mg U.base (L2.CX U.P U.w) (lv + 2) (U.fA k) (spF U (runD (G.g n) G.defs[k]?)) := by
  cases hd : G.defs[k]? with
  | none =>
    intro A outer s H us vs Q E hr e0 r hs
    obtain ⟨ds, μ, ρ, G', _, _, _, p⟩ := hs
    exact p.elim
  | some d =>
    cases hbad : isBad d.ir with
    | true =>
      intro A outer s H us vs Q E hr e0 r hs
      obtain ⟨ds, μ, ρ, G', _, _, _, p⟩ := hs
      rw [bad_run hbad] at p
      exact p.elim
    | false =>
    obtain ⟨oc, od, osl, kV, doc, pm, an, cdv, ct, lk, hcd, ht⟩ := S.fn k d hd hbad
    have hB := C.defs k d hd
    unfold defB at hB
    rw [hbad] at hB
    simp only [Bool.false_or, Bool.and_eq_true, decide_eq_true_eq] at hB
    obtain ⟨⟨⟨p1, p2⟩, p3⟩, p4⟩ := hB
    have fs := fsc_of p3
    have ndp : d.ps.Nodup := by rw [← fs.pre]; exact fs.nd.sublist (List.take_sublist _ _)
    have F := fn_ok (U := U) (k := lv + 1) (φ := rawD (G.g n) d) (m := evS (G.g n) d.ir) lk hcd fs (fun ds μ => rfl) fun A outer s H E b hr => ?_
    · have hb : Binds U.K (PySem.W.fnOf d.name d.qual d.params d.body d.scope .none kV doc pm an cdv ct) d.ps [] := .all fun us hl => by
        rw [← p2]
        exact bind_plain (as := d.params.args) (plainP_of p1) rfl (by rw [p2]; exact ndp) (by rw [hl, ← p2, List.length_map])
      exact (F.raw hb .nil).imp fun vs H Q E h => by rw [List.append_nil]; exact spF_trim h
    · refine (sns O d.ir).2 _ b _ d.cf ?_ d.body p4 (C.nf hd)
      refine ⟨⟨rfl, rfl, rfl, rfl, rfl⟩, rfl, fs.nd, rfl, fun _ => ⟨rfl, hr, takes_of rfl rfl rfl rfl, passes_of rfl⟩, fun _ _ => rfl, fun _ => ⟨rfl, rfl⟩, fun j hj => ⟨rfl, rfl, ?_⟩⟩
      obtain ⟨c, P, h1, h2, h3, h4⟩ := ht j hj
      exact ⟨c, P, h2, h1, h3, h4⟩
/-- a lambda's body -/
theorem lam_ok (S : StK G U) (C : Ck G) {lv n : Nat} (O : WOk G.T U lv (G.g n)) (k : Nat) : CloOk U (lv + 2) k (runL (G.g n) G.nfs[k]?) := by
  cases hd : G.nfs[k]? with
  | none =>
    intro f c cl A outer s H us vs ws Q E hr e0 h1 h2 h3 r hs
    obtain ⟨ds, cs, μ, ρ, G', ws', _, _, _, _, _, _, p⟩ := hs
    exact p.elim
  | some d =>
    have hB := C.lams k d hd
    have hU : U.nf k = G.T.nf k := by rw [S.nf]
    unfold lamB at hB
    generalize hn : G.T.nf k = nf at hB hU
    obtain ⟨name, qual, params, body, scope, fr⟩ := nf
    simp only [Bool.and_eq_true, decide_eq_true_eq, beq_iff_eq] at hB
    obtain ⟨⟨⟨⟨p1, p2⟩, p3⟩, p4⟩, p5⟩ := hB
    cases body with
    | stmts b => cases p5
    | expr b =>
      simp only [Bool.and_eq_true, List.isEmpty_iff] at p5
      have ns := NdefX.nscope_by p3
      have ndp : d.ps.Nodup := by
        have := ns.nd.sublist (List.take_sublist (d.ps.length + fr.length) _)
        rw [ns.pre] at this
        exact this.sublist (List.sublist_append_left _ _)
      have key : CloOk U (lv + 1 + 1) k (rawL (G.g n) d) := ?_
      · exact fun f c cl A outer s H us vs ws Q E hr e0 h1 h2 h3 r hs => key f c cl A outer s H us vs ws Q E hr e0 h1 h2 h3 r (spC_trim hs)
      refine clo_lam (k := lv + 1) (N := d.N) (ps := d.ps) (m := evE (G.g n) d.ir) hU ns (fun cl c doc pm ctv us hl => ?_) (fun ds μ => by show (if ds.length = d.ps.length + d.fr then _ else _) = _; rw [p4]) fun f c cl A outer s H E b' hr => ?_
      · rw [hU, ← p2]
        exact bind_plain (as := params.args) (plainP_of p1) rfl (by rw [p2]; exact ndp) (by rw [hl, ← p2, List.length_map])
      · refine ((snd O d.ir).1 _ b' _ ⟨d.N, scope, false, true, true, none, Str.empty⟩ ?_ b p5.1 (by rw [p5.2]; intro x hx; cases hx)).1
        exact ⟨⟨rfl, rfl, rfl, rfl, rfl⟩, rfl, ns.nd, rfl, fun _ => ⟨rfl, hr, takes_of rfl rfl rfl rfl, passes_of rfl⟩, fun z => Bool.noConfusion z, fun _ => ⟨rfl, rfl⟩, fun j hj => by cases hj⟩
theorem wok_all (S : StK G U) (C : Ck G) : ∀ n, WOk G.T U (2 * n) (G.g n)
  | 0 => wok_of S (fun k => fun A outer s H us vs Q E hr e0 r hs => by
      obtain ⟨ds, μ, ρ, G', _, _, _, p⟩ := hs
      exact p.elim) (fun k ds μ d μ' h => by cases h) (fun k => fun f c cl A outer s H us vs ws Q E hr e0 h1 h2 h3 r hs => by
      obtain ⟨ds, cs, μ, ρ, G', ws', _, _, _, _, _, _, p⟩ := hs
      exact p.elim) (fun k ds μ d μ' h => by cases h)
  | n + 1 => wok_of S (fun k => def_ok S C (wok_all S C n) k) (fun k => backs_D _ _) (fun k => lam_ok S C (wok_all S C n) k) (fun k => backs_L _ _)
end
end Q
/-! Q49: the facts of the world as one look at the head's heap. -/
namespace Q
open PySem PySem.Spec PyProof.Rows L2
/-! ### where functions stand -/
def adG (x : Str) (K : PySem.W.Frag) : Addr := He.ga K x
def adM (C m : Str) (K : PySem.W.Frag) : Addr := He.ma K (He.ga K C) m
/-- within a property, a classmethod, a staticmethod -/
def adR (T : String) (C m : Str) (K : PySem.W.Frag) : Addr := match PySem.W.recIn K (adM C m K) T with
  | some (.ref g :: _) => g
  | _ => 0
def fnAt (K : PySem.W.Frag) (a : Addr) : He.FnW := match K.lookup a with
  | some ⟨_, _, .func fd, _⟩ => some (fd.name, fd.qualname, fd.params, fd.body, fd.scope, fd.globals, fd.closure, fd.builtins)
  | _ => none
def DefI.val (d : DefI) : He.FnW := some (d.name, d.qual, d.params, .stmts d.body, d.scope, mainGlobals, [], builtinsNs)
def isNoneV : Value → Bool
  | .none => true
  | _ => false
def DefI.ok (K : PySem.W.Frag) (d : DefI) : Bool := match K.lookup (d.adr K) with
  | some ⟨_, _, .func fd, _⟩ => PySem.W.codeIn K fd.code d.qual && (isBad d.ir || isNoneV fd.defaults)
  | _ => false
def codeA (K : PySem.W.Frag) (a : Addr) : Addr := match K.lookup a with
  | some ⟨_, _, .func fd, _⟩ => (match fd.code with
    | .ref c => c
    | _ => 0)
  | _ => 0
theorem fn_at {K : PySem.W.Frag} {d : DefI} (e : fnAt K (d.adr K) = d.val) (c : d.ok K = true) (hbad : isBad d.ir = false) :
    ∃ oc od osl kV doc pm an cdv ct, K.lookup (d.adr K) = some ⟨oc, od, .func (PySem.W.fnOf d.name d.qual d.params d.body d.scope .none kV doc pm an cdv ct), osl⟩ ∧ PySem.W.codeIn K cdv d.qual = true ∧ cdv = .ref (codeA K (d.adr K)) := by
  unfold fnAt at e
  unfold DefI.ok at c
  unfold codeA
  cases q : K.lookup (d.adr K) with
  | none => rw [q] at c; cases c
  | some o =>
    obtain ⟨oc, od, dt, osl⟩ := o
    rw [q] at c e
    cases dt with
    | func fd =>
      obtain ⟨n1, n2, n3, n4, n5, n6, n7, n8, n9, n10, n11, n12, n13, n14, n15⟩ := fd
      have e2 : (some (n1, n2, n3, n4, n5, n6, n7, n15) : He.FnW) = some (d.name, d.qual, d.params, .stmts d.body, d.scope, mainGlobals, [], builtinsNs) := e
      simp only [Option.some.injEq, Prod.mk.injEq] at e2
      obtain ⟨h1, h2, h3, h4, h5, h6, h7, h8⟩ := e2
      subst h1 h2 h3 h4 h5 h6 h7 h8
      have c2 : (PySem.W.codeIn K n13 d.qual && (isBad d.ir || isNoneV n8)) = true := c
      rw [hbad, Bool.false_or, Bool.and_eq_true] at c2
      have e8 : n8 = .none := by
        cases n8 with
        | none => rfl
        | _ => cases c2.2
      subst e8
      obtain ⟨cc, rfl⟩ := He.codeIn_ref c2.1
      exact ⟨oc, od, osl, n9, n10, n11, n12, _, n14, rfl, c2.1, rfl⟩
    | _ => cases c
/-! ### dicts of the top -/
def litV : D → V
  | .int i => .int i
  | .str x => .str x
  | .bl b => .bl b
  | _ => .non
def litD : D → Bool
  | .int _ => true
  | .str _ => true
  | .bl _ => true
  | .non => true
  | _ => false
def keysD : List (D × D) → List Str
  | [] => []
  | (.str k, _) :: r => k :: keysD r
  | _ :: r => Str.empty :: keysD r
def strK : D × D → Bool
  | (.str _, v) => litD v
  | _ => false
def dicB (K : PySem.W.Frag) (a : Addr) (kvs : List (D × D)) : Bool := kvs.all strK && (match K.lookup a with
  | some ⟨_, _, .dict es _, _⟩ => He.relAll (kvs.map fun p => litV p.2) (es.toList.map (·.val))
  | _ => false)
theorem ns_list {P : Params} {z : Str} : ∀ {l : List DictEntry} {kvs : List (D × D)}, kvs.all strK = true → l.map He.keyOf = He.keysIn P (keysD kvs) → Vals (kvs.map fun p => litV p.2) (l.map (·.val)) →
    l.any (·.refKey) = false ∧ RelO (((keysD kvs).zip (kvs.map fun p => litV p.2)).lookup z) ((l.find? (·.key.isStr z)).map (·.val))
  | [], [], _, _, _ => ⟨rfl, trivial⟩
  | e :: l, [], _, h, _ => by cases h
  | [], p :: kvs, _, _, r => by cases r
  | e :: l, p :: kvs, hs, h, r => by
    rw [List.all_cons, Bool.and_eq_true] at hs
    obtain ⟨k, v⟩ := p
    cases k with
    | str k =>
      have h1 : He.keyOf e :: l.map He.keyOf = some (k, PyData.keyHash P k) :: He.keysIn P (keysD kvs) := h
      injection h1 with h2 h3
      cases r with
      | cons r1 r2 =>
        obtain ⟨i1, i2⟩ := ns_list (z := z) hs.2 h3 r2
        unfold He.keyOf at h2
        split at h2
        · rename_i x t q
          have h4 := Option.some.inj h2
          obtain ⟨rfl, h6⟩ := Prod.mk.inj h4
          have hk : e.refKey = false := by unfold DictEntry.refKey; rw [q]
          refine ⟨by rw [List.any_cons, hk, i1]; rfl, ?_⟩
          show RelO (((x :: keysD kvs).zip (litV v :: kvs.map fun p => litV p.2)).lookup z) _
          rw [List.zip_cons_cons, List.lookup_cons, List.find?_cons]
          have hq : e.key.isStr z = (z == x) := by
            rw [q]
            show (x == z) = (z == x)
            rw [Bool.eq_iff_iff, beq_iff_eq, beq_iff_eq]
            exact eq_comm
          rw [hq]
          cases z == x with
          | true => exact r1
          | false => exact i2
        · cases h2
    | _ => cases hs.1
theorem dic_of {K : PySem.W.Frag} {w : World} {a : Addr} {kvs : List (D × D)} (h : He.dicW K a = some (He.keysIn w.params (keysD kvs))) (hb : dicB K a kvs = true) : KDct K w a ((keysD kvs).zip (kvs.map fun p => litV p.2)) := by
  obtain ⟨es, n, hK⟩ := He.dicW_ok h
  refine ⟨es, n, hK, fun z => ?_⟩
  unfold dicB at hb
  rw [Bool.and_eq_true] at hb
  unfold He.dicW at h
  unfold PySem.W.nsIn
  cases q : K.lookup a with
  | none => rw [q] at h; cases h
  | some o =>
    obtain ⟨oc, od, dt, osl⟩ := o
    rw [q] at h hb
    cases dt with
    | dict es' n' =>
      have hb2 := He.relAll_ok (show He.relAll (kvs.map fun p => litV p.2) (es'.toList.map (·.val)) = true from hb.2)
      have h2 : es'.toList.map He.keyOf = He.keysIn w.params (keysD kvs) := by
        cases oc with
        | type c =>
          cases od with
          | none =>
            dsimp only at h
            split at h
            · exact Option.some.inj h
            · cases h
          | some _ => cases h
        | _ => cases od <;> cases h
      obtain ⟨i1, i2⟩ := ns_list (z := z) hb.1 h2 hb2
      dsimp only
      cases qf : es'.toList.find? (·.key.isStr z) with
      | some e => rw [qf] at i2; exact ⟨some e.val, rfl, i2⟩
      | none => rw [qf] at i2; exact ⟨none, by dsimp only; rw [i1]; rfl, i2⟩
    | _ => cases hb.2
theorem rep_lits {U : Wd} {H : Hp} : ∀ {kvs : List (D × D)}, kvs.all strK = true → RepL U H (kvs.map fun p => litV p.2) (kvs.map (·.2)) ∧ (keysD kvs).length = kvs.length ∧ ((keysD kvs).map D.str).zip (kvs.map (·.2)) = kvs
  | [], _ => ⟨.nil, rfl, rfl⟩
  | (k, v) :: kvs, h => by
    rw [List.all_cons, Bool.and_eq_true] at h
    obtain ⟨i1, i2, i3⟩ := rep_lits (U := U) (H := H) h.2
    cases k with
    | str k =>
      have hv : litD v = true := h.1
      refine ⟨.cons ?_ i1, by show (keysD kvs).length + 1 = _; rw [i2]; rfl, ?_⟩
      · cases v with
        | int i => exact .int i
        | str x => exact .str x
        | bl b => exact .bl b
        | non => exact .non
        | _ => cases hv
      · show (D.str k, v) :: ((keysD kvs).map D.str).zip (kvs.map (·.2)) = _
        rw [i3]
    | _ => cases h.1
theorem rep_dct {U : Wd} {H : Hp} {a : Addr} {kvs : List (D × D)} (hs : kvs.all strK = true) (h : KDct U.K U.w a ((keysD kvs).zip (kvs.map fun p => litV p.2))) : Rep U H (.ref a) (.dct kvs) := by
  obtain ⟨i1, i2, i3⟩ := rep_lits (U := U) (H := H) hs
  have q := Rep.kdct (U := U) (G := H) h (by rw [i2, List.length_map]) i1
  rw [i3] at q
  exact q
end Q
/-! Q50: looks at classes and names. -/
namespace Q
open PySem PySem.Spec PyProof.Rows L2
abbrev eqO := He.eqO
def eqB (a : Option Bool) (b : Bool) : Bool := decide (a = some b)
def someRef : Option (Option Value) → Bool
  | some (some (.ref _)) => true
  | _ => false
theorem someRef_of {o : Option (Option Value)} (h : someRef o = true) : ∃ a, o = some (some (.ref a)) := by
  unfold someRef at h
  split at h
  · exact ⟨_, rfl⟩
  · cases h
def fT : List String := ["int", "str", "NoneType", "bool"]
theorem fT_mem {t : String} (h : t = "int" ∨ t = "str" ∨ t = "NoneType" ∨ t = "bool") : t ∈ fT := by
  rcases h with rfl | rfl | rfl | rfl <;> simp [fT]
def fnB (K : PySem.W.Frag) (C : Addr) (m : Str) (f : Addr) : Bool := eqO (PySem.W.findIn K (.ref C) m) (some (some (.ref f))) && PySem.W.isFn K (.ref f)
def clsB (K : PySem.W.Frag) (C : Addr) : Bool := PySem.W.plainGet K C Str.empty && PySem.W.hasDictIn K C && PySem.W.plainOver K C && eqO (PySem.W.findIn K (.ref C) "__setattr__") (some (some (.builtin "object.__setattr__")))
theorem cls_of {K : PySem.W.Frag} {C : Addr} (h : clsB K C = true) : Cls K C := by
  simp only [clsB, Bool.and_eq_true] at h
  exact ⟨h.1.1.1, h.1.1.2, h.1.2, He.eqO_ok h.2⟩
def fwB (K : PySem.W.Frag) (C : Addr) (op : Operator) (f : Addr) : Bool := PySem.W.selfFirst K C && fnB K C (dunder op.info.2) f && someRef (PySem.W.findIn K (.ref C) (dunderR op.info.2)) && fT.all fun t => (PySem.W.findIn K (.type t) (dunder op.info.2)).isSome && (PySem.W.findIn K (.type t) (dunderR op.info.2)).isSome && eqB (PySem.W.subIn K (.type t) (.ref C)) false
def opB3 : Operator → Bool
  | .Add => true
  | .Sub => true
  | .Mult => true
  | _ => false
def rvB (K : PySem.W.Frag) (C : Addr) (op : Operator) (f : Addr) : Bool := opB3 op && PySem.W.selfFirst K C && someRef (PySem.W.findIn K (.ref C) (dunder op.info.2)) && fnB K C (dunderR op.info.2) f && eqB (PySem.W.subIn K (.ref C) (.type "int")) false
def eqCB (K : PySem.W.Frag) (C f : Addr) : Bool := eqB (PySem.W.mroIn K C (.type "object")) true && fT.all (fun t => eqB (PySem.W.subIn K (.type t) (.ref C)) false) && eqO (PySem.W.findIn K (.ref C) "__ne__") (some (some (.builtin "object.__ne__"))) && fnB K C "__eq__" f
def prB (K : PySem.W.Frag) (C : Addr) (n : Str) (f : Addr) : Bool := clsB K C && (match PySem.W.findIn K (.ref C) n with
  | some (some (.ref p)) => eqO (PySem.W.specialIn K (.ref p) "__get__") (some (some (.builtin "property.__get__"))) && eqB (PySem.W.takesIn K (.ref p)) true && (match PySem.W.recIn K p "property" with
    | some (.ref g :: _) => decide (g = f)
    | _ => false)
  | _ => false)
theorem pr_of {K : PySem.W.Frag} {C f : Addr} {n : Str} (h : prB K C n f = true) : Cls K C ∧ ∃ p, PropOf K C n p f := by
  simp only [prB, Bool.and_eq_true] at h
  refine ⟨cls_of h.1, ?_⟩
  have h2 := h.2
  split at h2
  · rename_i p e
    simp only [Bool.and_eq_true] at h2
    obtain ⟨⟨h3, h4⟩, h5⟩ := h2
    split at h5
    · rename_i g rest e2
      rw [decide_eq_true_eq] at h5
      subst h5
      exact ⟨p, e, He.eqO_ok h3, of_decide_eq_true h4, rest, e2⟩
    · cases h5
  · cases h2
def mtB (K : PySem.W.Frag) (C : Addr) (flds : List Str) (n : Str) (f : Addr) : Bool := clsB K C && !flds.contains n && fnB K C n f && PySem.W.keepIn K (.ref f)
def isGet (id : String) (C : Addr) : Option PySem.W.CFound → Option Addr
  | some (.get (.builtin i) (.ref p) .none (.ref c)) => if i = id ∧ c = C then some p else none
  | _ => none
theorem isGet_of {id : String} {C p : Addr} {o : Option PySem.W.CFound} (h : isGet id C o = some p) : o = some (.get (.builtin id) (.ref p) .none (.ref C)) := by
  unfold isGet at h
  split at h
  · split at h
    · rename_i z
      obtain ⟨rfl, rfl⟩ := z
      cases h
      rfl
    · cases h
  · cases h
def cmB (K : PySem.W.Frag) (C : Addr) (n : Str) (b : Bool) (f : Addr) : Bool := PySem.W.readsIn K C (.type "type") && eqO (PySem.W.specialIn K (.ref C) "__getattribute__") (some (some (.builtin "type.__getattribute__"))) && (match isGet (if b then "classmethod.__get__" else "staticmethod.__get__") C (PySem.W.findCls K (.ref C) (.type "type") n) with
  | some p => (match PySem.W.recIn K p (if b then "classmethod" else "staticmethod") with
    | some (.ref g :: _) => decide (g = f) && (if b then PySem.W.fnIn K g else PySem.W.keepIn K (.ref g))
    | _ => false)
  | none => false)
theorem cm_of {K : PySem.W.Frag} {C f : Addr} {n : Str} {b : Bool} (h : cmB K C n b f = true) : ClX.CRead K C (.type "type") ∧ ∃ p rest, PySem.W.findCls K (.ref C) (.type "type") n = some (.get (.builtin (if b then "classmethod.__get__" else "staticmethod.__get__")) (.ref p) .none (.ref C)) ∧ PySem.W.recIn K p (if b then "classmethod" else "staticmethod") = some (.ref f :: rest) ∧ (if b then PySem.W.fnIn K f else PySem.W.keepIn K (.ref f)) = true := by
  simp only [cmB, Bool.and_eq_true] at h
  obtain ⟨⟨h1, h2⟩, h3⟩ := h
  refine ⟨⟨h1, He.eqO_ok h2⟩, ?_⟩
  split at h3
  · rename_i p e
    split at h3
    · rename_i g rest e2
      simp only [Bool.and_eq_true, decide_eq_true_eq] at h3
      obtain ⟨rfl, h4⟩ := h3
      exact ⟨p, rest, isGet_of e, e2, h4⟩
    · cases h3
  · cases h3
def tys : List Ty := [.int, .bool, .str, .tuple, .list, .dict, .set, .none]
theorem tys_mem (t : Ty) : t ∈ tys := by cases t <;> simp [tys]
def isiB (K : PySem.W.Frag) (C : Addr) : Bool := clsB K C && eqO (PySem.W.findIn K (.ref C) "__class__") (some (some (.builtin "object.__class__"))) && eqO (PySem.W.specialIn K (.builtin "object.__class__") "__get__") (some (some (.builtin "getset_descriptor.__get__"))) && eqB (PySem.W.takesIn K (.builtin "object.__class__")) true && eqB (PySem.W.mroIn K C (.type "object")) true &&
  tys.all (fun t => eqB (PySem.W.kitOne K (.type t.name) (.ref C)) false && eqB (PySem.W.kitOne K (.ref C) (.type t.name)) false)
def bbB (K : PySem.W.Frag) : Bool := tys.all fun t => tys.all fun t' => eqB (PySem.W.kitOne K (.type t.name) (.type t'.name)) (subTy t t')
def excB (K : PySem.W.Frag) (C : Addr) : Bool := PySem.W.excIn K C [.type "ValueError", .type "Exception", .type "BaseException", .type "object"] "ValueError.__new__" && eqB (PySem.W.subIn K (.ref C) (.type "BaseException")) true && decide (PySem.W.typeIn K (.ref C) = some (.type "type"))
/-! ### all of it -/
def fAt (G : Pg) (K : PySem.W.Frag) (k : Nat) : Addr := match G.defs[k]? with
  | some d => d.adr K
  | none => 0
def cAt (G : Pg) (K : PySem.W.Frag) (c : Nat) : Addr := match G.cls[c]? with
  | some C => He.ga K C.name
  | none => 0
def optB (o : Option Nat) (f : Nat → Bool) : Bool := match o with
  | some k => f k
  | none => true
/-- entry by entry, with attributes' names -/
def allA2 {α : Type} (f : Str → α → Bool) : List Str → List (Option α) → Bool
  | n :: ns, some a :: as => f n a && allA2 f ns as
  | _ :: ns, none :: as => allA2 f ns as
  | _, [] => true
  | [], none :: as => allA2 f [] as
  | [], some _ :: _ => false
theorem allA2_of {α : Type} {f : Str → α → Bool} : ∀ {ns : List Str} {as : List (Option α)} {i : Nat} {n : Str} {a : α}, allA2 f ns as = true → ns[i]? = some n → atO as i = some a → f n a = true
  | _, [], i, _, _, _, _, h => by simp [atO] at h
  | [], _ :: _, i, _, _, _, h, _ => by simp at h
  | m :: ns, some b :: as, 0, n, a, h, h1, h2 => by
    simp only [allA2, Bool.and_eq_true] at h
    simp at h1
    subst h1
    have : b = a := by simpa [atO] using h2
    subst this
    exact h.1
  | m :: ns, some b :: as, i + 1, n, a, h, h1, h2 => by
    simp only [allA2, Bool.and_eq_true] at h
    exact allA2_of (i := i) h.2 (by simpa using h1) (by simpa [atO] using h2)
  | m :: ns, none :: as, 0, n, a, h, h1, h2 => by simp [atO] at h2
  | m :: ns, none :: as, i + 1, n, a, h, h1, h2 => by
    simp only [allA2] at h
    exact allA2_of (i := i) h (by simpa using h1) (by simpa [atO] using h2)
def oneB (G : Pg) (K : PySem.W.Frag) (C : ClI) : Bool :=
  let a := He.ga K C.name
  eqO (PySem.W.nsIn K mainGlobals C.name) (some (some (.ref a))) && PySem.W.keepIn K (.ref a) && decide (C.flds.length < 1000) && decide C.flds.Nodup
  && optB C.ini (fun k => PySem.W.makesIn K a && fnB K a "__init__" (fAt G K k))
  && C.fw.all (fun p => fwB K a p.1 (fAt G K p.2)) && C.rv.all (fun p => rvB K a p.1 (fAt G K p.2))
  && optB C.eq (fun k => eqCB K a (fAt G K k)) && optB C.cn (fun k => fnB K a "__contains__" (fAt G K k)) && optB C.ln (fun k => fnB K a "__len__" (fAt G K k)) && optB C.ng (fun k => fnB K a "__neg__" (fAt G K k))
  && allA2 (fun n j => decide (C.flds[j]? = some n) && eqO (PySem.W.findIn K (.ref a) n) (some none) && clsB K a) G.anm C.ixs
  && allA2 (fun n k => prB K a n (fAt G K k)) G.anm C.prs && allA2 (fun n k => mtB K a C.flds n (fAt G K k)) G.anm C.mts && allA2 (fun n q => cmB K a n q.1 (fAt G K q.2)) G.anm C.cms
  && (!C.exc || excB K a)
def glB1 (K : PySem.W.Frag) (x : Str) (d : D) : Bool := match d with
  | .int i => (He.Fa.int x i).ok K
  | .str z => (He.Fa.str x z).ok K
  | .dct kvs => (He.Fa.glo x).ok K && dicB K (He.ga K x) kvs
  | _ => false
/-- entry by entry: two tables of one kind -/
def all2 {α β : Type} (f : α → β → Bool) : List α → List β → Bool
  | a :: as, b :: bs => f a b && all2 f as bs
  | [], [] => true
  | _, _ => false
theorem all2_of {α β : Type} {f : α → β → Bool} : ∀ {as : List α} {bs : List β} {i : Nat} {a : α}, all2 f as bs = true → as[i]? = some a → ∃ b, bs[i]? = some b ∧ f a b = true
  | [], _, i, _, _, h => by simp at h
  | _ :: _, [], _, _, h, _ => by cases h
  | x :: as, y :: bs, 0, a, h, h1 => by
    simp only [all2, Bool.and_eq_true] at h
    simp at h1
    subst h1
    exact ⟨y, rfl, h.1⟩
  | x :: as, y :: bs, i + 1, a, h, h1 => by
    simp only [all2, Bool.and_eq_true] at h
    obtain ⟨b, e1, e2⟩ := all2_of (i := i) h.2 (by simpa using h1)
    exact ⟨b, by simpa using e1, e2⟩
/-- a square table of truths -/
def sqB (f : Nat → Nat → Bool → Bool) (l : List (List (Option Bool))) : Bool := (List.range l.length).all fun c => match l[c]? with
  | some r => (List.range r.length).all fun c' => match atO r c' with
    | some k => f c c' k
    | none => true
  | none => true
def sqAt (l : List (List (Option Bool))) (c c' : Nat) : Option Bool := match l[c]? with
  | some r => atO r c'
  | none => none
theorem sq_of {f : Nat → Nat → Bool → Bool} {l : List (List (Option Bool))} {c c' : Nat} {k : Bool} (h : sqB f l = true) (e : sqAt l c c' = some k) : f c c' k = true := by
  unfold sqAt at e
  split at e
  · rename_i r hr
    have h1 := List.all_eq_true.mp h c (List.mem_range.mpr (List.getElem?_eq_some_iff.mp hr).1)
    rw [hr] at h1
    have hl : c' < r.length := by
      unfold atO at e
      split at e
      · rename_i a q; exact (List.getElem?_eq_some_iff.mp q).1
      · cases e
    have h2 := List.all_eq_true.mp h1 c' (List.mem_range.mpr hl)
    rw [e] at h2
    exact h2
  · cases e
def exB (G : Pg) (K : PySem.W.Frag) : Bool :=
  G.free.all (fun x => (He.Fa.free x).ok K) && all2 (glB1 K) G.gln G.gl && G.cls.all (oneB G K) && all2 (fun x (d : DefI) => eqO (PySem.W.nsIn K mainGlobals x) (some (some (.ref (d.adr K)))) && PySem.W.keepIn K (.ref (d.adr K))) G.fnn (G.defs.take G.fnn.length)
  && G.defs.all (fun d => d.ok K) && bbB K && sqB (fun c c' k => isiB K (cAt G K c) && isiB K (cAt G K c') && eqB (PySem.W.kitOne K (.ref (cAt G K c)) (.ref (cAt G K c'))) k) G.isc && sqB (fun c c' k => eqB (PySem.W.exmOne K (.ref (cAt G K c)) (.ref (cAt G K c'))) k) G.exi
end Q
/-! Q51: the Hook; the world's facts from it. -/
namespace Q
open PySem PySem.Spec PyProof.Rows L2
/-- the dicts of the top -/
def dcts : List Str → List D → List (Str × List (D × D))
  | x :: xs, .dct kvs :: ds => (x, kvs) :: dcts xs ds
  | _ :: xs, _ :: ds => dcts xs ds
  | _, _ => []
theorem dcts_mem : ∀ {xs : List Str} {ds : List D} {i : Nat} {x : Str} {kvs : List (D × D)}, xs[i]? = some x → ds[i]? = some (.dct kvs) → (x, kvs) ∈ dcts xs ds
  | [], _, _, _, _, h, _ => by simp at h
  | _ :: _, [], _, _, _, _, h => by simp at h
  | y :: xs, d :: ds, 0, x, kvs, h1, h2 => by
    simp at h1 h2
    subst h1; subst h2
    exact List.mem_cons_self
  | y :: xs, d :: ds, i + 1, x, kvs, h1, h2 => by
    have ih := dcts_mem (xs := xs) (ds := ds) (i := i) (x := x) (kvs := kvs) (by simpa using h1) (by simpa using h2)
    cases d <;> first | exact ih | exact List.mem_cons_of_mem _ ih
/-- the code objects and tables of the defs that make functions -/
def cTs (G : Pg) (K : PySem.W.Frag) : List (Nat × Addr × Addr) := G.defs.filterMap fun d => d.tab.map fun j => (j, codeA K (d.adr K), He.tabOf K (codeA K (d.adr K)))
def tabQ (G : Pg) (g : Addr → Option Obj) (K : PySem.W.Frag) : Bool := decide ((cTs G K).map (·.2.2)).Nodup && (cTs G K).all fun p => PySem.W.codeHdIn K p.2.1 p.2.2 && (match g p.2.2 with
  | some o => He.emptyTab o
  | none => false)
abbrev AlQ : Type := List He.FnW × List (Option (List (Option (Str × Int)))) × Bool
def obsK (G : Pg) (g : Addr → Option Obj) (K : PySem.W.Frag) : AlQ := (G.defs.map (fun d => fnAt K (d.adr K)), (dcts G.gln G.gl).map (fun q => He.dicW K (He.ga K q.1)), exB G K && tabQ G g K)
def colQ (lo n : Nat) : List Addr := mainGlobals :: cStatics :: List.range' lo (n - lo)
def obsQ (G : Pg) (lo : Nat) (g : Addr → Option Obj) (n : Nat) : AlQ := obsK G g (He.frT g (colQ lo n))
def valQ (G : Pg) (w : World) : AlQ := (G.defs.map DefI.val, (dcts G.gln G.gl).map (fun q => some (He.keysIn w.params (keysD q.2))), true)
structure SaysQ (G : Pg) (w : World) (h : Heap) (K : PySem.W.Frag) : Prop where
  fns : G.defs.map (fun d => fnAt K (d.adr K)) = G.defs.map DefI.val
  dcs : (dcts G.gln G.gl).map (fun q => He.dicW K (He.ga K q.1)) = (dcts G.gln G.gl).map (fun q => some (He.keysIn w.params (keysD q.2)))
  ex : exB G K = true
  nd : ((cTs G K).map (·.2.2)).Nodup
  hd : ∀ p ∈ cTs G K, PySem.W.codeHdIn K p.2.1 p.2.2 = true
  out : ∀ p ∈ cTs G K, K.lookup p.2.2 = none
  empty : ∀ p ∈ cTs G K, h.get? p.2.2 = some { cls := .none, data := .fields #[] }
theorem says_of {G : Pg} {w : World} {h : Heap} {as : List Addr} (e : obsK G h.get? (He.frT h.get? as) = valQ G w) : SaysQ G w h (He.frT h.get? as) := by
  have e1 := congrArg (fun z : AlQ => z.1) e
  have e2 := congrArg (fun z : AlQ => z.2.1) e
  have e3 : (exB G (He.frT h.get? as) && tabQ G h.get? (He.frT h.get? as)) = true := congrArg (fun z : AlQ => z.2.2) e
  rw [Bool.and_eq_true] at e3
  obtain ⟨h1, h2⟩ := e3
  unfold tabQ at h2
  rw [Bool.and_eq_true, decide_eq_true_eq] at h2
  have key : ∀ p ∈ cTs G (He.frT h.get? as), PySem.W.codeHdIn (He.frT h.get? as) p.2.1 p.2.2 = true ∧ ∃ o, h.get? p.2.2 = some o ∧ He.emptyTab o = true := fun p hp => by
    have q := List.all_eq_true.mp h2.2 p hp
    rw [Bool.and_eq_true] at q
    refine ⟨q.1, ?_⟩
    have q2 := q.2
    split at q2
    · rename_i o e; exact ⟨o, e, q2⟩
    · cases q2
  exact ⟨e1, e2, h1, h2.1, fun p hp => (key p hp).1, fun p hp => let ⟨_, o, q, z⟩ := key p hp; He.frT_none q z, fun p hp => let ⟨_, o, q, z⟩ := key p hp; by rw [q, He.emptyTab_eq z]⟩
def hookQ (G : Pg) (lo : Nat) : PySem.W.Hook where
  α := AlQ
  obs := fun s => obsQ G lo s.heap.get? s.heap.objs.size
  val := fun w => valQ G w
  says := fun w h => ∃ K : PySem.W.Frag, K.In h ∧ SaysQ G w h K
  of := fun _ _ e => ⟨_, He.frT_in, says_of e⟩
  keeps := fun _ _ _ ⟨K, hK, c⟩ k => ⟨K, PySem.W.Frag.In.keeps hK k, ⟨c.fns, c.dcs, c.ex, c.nd, c.hd, c.out, fun p hp => k _ _ (c.empty p hp)⟩⟩
def obQ (G : Pg) (lo : Nat) (s : PySem.W.SharedT) : AlQ := obsQ G lo (HandSHeadRun.getT s) s.n
theorem obQ_eq (G : Pg) (lo : Nat) (s : PySem.W.SharedT) : obQ G lo s = (hookQ G lo).obs s.abs := by
  have e : HandSHeadRun.getT s = s.abs.heap.get? := funext fun a => HandSHeadRun.getT_eq s a
  have e2 : s.n = s.abs.heap.objs.size := (PySem.W.absHeap_size s.tree s.n s.life).symm
  unfold obQ
  rw [e, e2]
  rfl
/-! ### the facts -/
theorem map_at {α β : Type} {f g : α → β} : ∀ {l : List α} {a : α}, l.map f = l.map g → a ∈ l → f a = g a
  | [], _, _, h => by cases h
  | x :: l, a, e, h => by
    rw [List.map_cons, List.map_cons] at e
    injection e with e1 e2
    rcases List.mem_cons.mp h with q | q
    · subst q; exact e1
    · exact map_at e2 q
def tabsOf (G : Pg) (K : PySem.W.Frag) : List NdefX.NTab := (cTs G K).map fun p => (p.2.2, G.T.nm p.1)
section
variable {G : Pg} {P : Program} {w : World} {K : PySem.W.Frag} {mg : Str → Option Value} {base h : Heap}
theorem cl_some {α : Type} {f : ClI → Option α} {c : Nat} {a : α} (h : G.cl f c = some a) : ∃ C, G.cls[c]? = some C ∧ f C = some a := by
  unfold Pg.cl at h
  split at h
  · rename_i C e; exact ⟨C, e, h⟩
  · cases h
theorem look_mem {op : Operator} {k : Nat} : ∀ {l : List (Operator × Nat)}, lookO op l = some k → (op, k) ∈ l
  | [], h => by cases h
  | (o, j) :: r, h => by
    unfold lookO at h
    split at h
    · rename_i e; subst e; cases h; exact List.mem_cons_self
    · exact List.mem_cons_of_mem _ (look_mem h)
theorem nodup_snd {α : Type} : ∀ {l : List (Nat × α × Addr)} {p q : Nat × α × Addr}, (l.map (·.2.2)).Nodup → p ∈ l → q ∈ l → p.2.2 = q.2.2 → p = q
  | [], _, _, _, h, _, _ => by cases h
  | x :: l, p, q, nd, hp, hq, e => by
    obtain ⟨h1, h2⟩ := List.nodup_cons.mp nd
    rcases List.mem_cons.mp hp with z | z <;> rcases List.mem_cons.mp hq with y | y
    · rw [z, y]
    · subst z; exact absurd (List.mem_map.mpr ⟨q, y, e.symm⟩) h1
    · subst y; exact absurd (List.mem_map.mpr ⟨p, z, e⟩) h1
    · exact nodup_snd h2 z y e
theorem stk_of (X : K.In h) (N : h.Ns mainGlobals mg) (S : SaysQ G w h K) (tb : ∀ p ∈ cTs G K, LamX.TabB base mg p.2.1 p.2.2) : StK G (G.U P w K mg base (tabsOf G K)) := by
  have ex := S.ex
  unfold exB at ex
  simp only [Bool.and_eq_true] at ex
  obtain ⟨⟨⟨⟨⟨⟨⟨x1, x2⟩, x3⟩, x4⟩, x5⟩, x6⟩, x7⟩, x8⟩ := ex
  have cls : ∀ {c : Nat} {C : ClI}, G.cls[c]? = some C → (G.U P w K mg base (tabsOf G K)).cA c = He.ga K C.name ∧ (G.U P w K mg base (tabsOf G K)).cF c = C.flds ∧ oneB G K C = true := fun {c C} e => by
    refine ⟨?_, ?_, List.all_eq_true.mp x3 C (List.mem_of_getElem? e)⟩
    · show (match G.cls[c]? with | some C => He.ga K C.name | none => 0) = _; rw [e]
    · show (match G.cls[c]? with | some C => C.flds | none => []) = _; rw [e]
  have fA : ∀ k, (G.U P w K mg base (tabsOf G K)).fA k = fAt G K k := fun k => rfl
  have cA : ∀ c, (G.U P w K mg base (tabsOf G K)).cA c = cAt G K c := fun c => rfl
  refine ⟨fun x hx => He.free_ok X N (List.all_eq_true.mp x1 x hx), fun j x hj => ?_, fun c x hc => ?_, fun k x hk => ?_, fun c k n hc => ?_, fun op c k hc => ?_, fun op c k hc => ?_, fun c k hc => ?_, fun c k hc => ?_, fun c k hc => ?_, fun c k hc => ?_, fun a f ha c j hc => ?_, fun a f ha c k hc => ?_, fun c => ?_, fun a f ha c k hc => ?_, fun a f ha c k hc => ?_, fun a f ha c k hc => ?_, ⟨fun t t' => ?_, fun t c hc => ?_, fun c t hc => ?_, fun c c' k hc => ?_, fun c c' k hc => ?_⟩, fun c hc => ?_, fun k c z hz => ?_, rfl, fun k d hd hbad => ?_⟩
  · obtain ⟨d, e1, e2⟩ := all2_of x2 hj
    have eg : G.g0.gl j = d := by
      show G.gl.getD j .non = d
      rw [List.getD_eq_getElem?_getD, e1]; rfl
    rw [eg]
    unfold glB1 at e2
    split at e2
    · obtain ⟨t, q⟩ := He.int_ok X N e2
      exact ⟨.int _, _, q, ⟨t, rfl⟩, fun H => .int _⟩
    · obtain ⟨t, q⟩ := He.str_ok X N e2
      exact ⟨.str _, _, q, ⟨t, rfl⟩, fun H => .str _⟩
    · rename_i kvs
      rw [Bool.and_eq_true] at e2
      have q := map_at S.dcs (dcts_mem hj e1)
      have hs : kvs.all strK = true := by have := e2.2; unfold dicB at this; rw [Bool.and_eq_true] at this; exact this.1
      exact ⟨.ref (He.ga K x), _, He.glo_ok X N e2.1, rfl, fun H => rep_dct (U := G.U P w K mg base (tabsOf G K)) hs (dic_of q e2.2)⟩
    · cases e2
  · have hc : (G.cls.map (·.name))[c]? = some x := hc
    rw [List.getElem?_map] at hc
    obtain ⟨C, e, rfl⟩ := Option.map_eq_some_iff.mp hc
    obtain ⟨q1, q2, q3⟩ := cls e
    rw [q1]
    simp only [oneB, Bool.and_eq_true] at q3
    exact ⟨PySem.W.mg_of X N (He.eqO_ok q3.1.1.1.1.1.1.1.1.1.1.1.1.1.1.1), q3.1.1.1.1.1.1.1.1.1.1.1.1.1.1.2⟩
  · obtain ⟨d, e1, e2⟩ := all2_of x4 hk
    have e1 : G.defs[k]? = some d := by
      rw [List.getElem?_take] at e1
      split at e1
      · exact e1
      · cases e1
    rw [fA]
    unfold fAt
    rw [e1]
    rw [Bool.and_eq_true] at e2
    exact ⟨PySem.W.mg_of X N (He.eqO_ok e2.1), e2.2⟩
  · obtain ⟨C, e, h1⟩ := cl_some hc
    obtain ⟨q1, q2, q3⟩ := cls e
    rw [q1, q2, fA]
    simp only [oneB, Bool.and_eq_true] at q3
    obtain ⟨k', e1, e2⟩ := Option.map_eq_some_iff.mp h1
    cases e2
    have z := q3.1.1.1.1.1.1.1.1.1.1.1.2
    rw [e1] at z
    simp only [optB, fnB, Bool.and_eq_true] at z
    exact ⟨q3.1.1.1.1.1.1.1.1.1.1.1.1.1.1.2, rfl, z.1, He.eqO_ok z.2.1, z.2.2, q3.1.1.1.1.1.1.1.1.1.1.1.1.1.1.2⟩
  · obtain ⟨C, e, h1⟩ := cl_some hc
    obtain ⟨q1, q2, q3⟩ := cls e
    rw [q1, fA]
    simp only [oneB, Bool.and_eq_true] at q3
    have z := List.all_eq_true.mp q3.1.1.1.1.1.1.1.1.1.1.2 _ (look_mem h1)
    simp only [fwB, fnB, Bool.and_eq_true] at z
    obtain ⟨⟨⟨z1, z2, z3⟩, z4⟩, z5⟩ := z
    refine ⟨z1, He.eqO_ok z2, z3, someRef_of z4, fun t ht => ?_⟩
    have z6 := List.all_eq_true.mp z5 t (fT_mem ht)
    simp only [Bool.and_eq_true] at z6
    obtain ⟨fo, y1⟩ := Option.isSome_iff_exists.mp z6.1.1
    obtain ⟨ro, y2⟩ := Option.isSome_iff_exists.mp z6.1.2
    exact ⟨fo, ro, y1, y2, of_decide_eq_true z6.2⟩
  · obtain ⟨C, e, h1⟩ := cl_some hc
    obtain ⟨q1, q2, q3⟩ := cls e
    rw [q1, fA]
    simp only [oneB, Bool.and_eq_true] at q3
    have z := List.all_eq_true.mp q3.1.1.1.1.1.1.1.1.1.2 _ (look_mem h1)
    simp only [rvB, fnB, Bool.and_eq_true] at z
    obtain ⟨⟨⟨⟨z0, z1⟩, z2⟩, z3, z4⟩, z5⟩ := z
    refine ⟨?_, z1, someRef_of z2, He.eqO_ok z3, z4, of_decide_eq_true z5⟩
    cases op <;> first | exact .inl rfl | exact .inr (.inl rfl) | exact .inr (.inr rfl) | cases z0
  · obtain ⟨C, e, h1⟩ := cl_some hc
    obtain ⟨q1, q2, q3⟩ := cls e
    rw [q1, fA]
    simp only [oneB, Bool.and_eq_true] at q3
    have z := q3.1.1.1.1.1.1.1.1.2
    rw [h1] at z
    simp only [optB, eqCB, fnB, Bool.and_eq_true] at z
    obtain ⟨⟨⟨z1, z2⟩, z3⟩, z4, z5⟩ := z
    exact ⟨of_decide_eq_true z1, fun t ht => of_decide_eq_true (List.all_eq_true.mp z2 t (fT_mem ht)), He.eqO_ok z3, He.eqO_ok z4, z5⟩
  · obtain ⟨C, e, h1⟩ := cl_some hc
    obtain ⟨q1, q2, q3⟩ := cls e
    rw [q1, fA]
    simp only [oneB, Bool.and_eq_true] at q3
    have z := q3.1.1.1.1.1.1.1.2
    rw [h1] at z
    simp only [optB, fnB, Bool.and_eq_true] at z
    exact ⟨He.eqO_ok z.1, z.2⟩
  · obtain ⟨C, e, h1⟩ := cl_some hc
    obtain ⟨q1, q2, q3⟩ := cls e
    rw [q1, fA]
    simp only [oneB, Bool.and_eq_true] at q3
    have z := q3.1.1.1.1.1.1.2
    rw [h1] at z
    simp only [optB, fnB, Bool.and_eq_true] at z
    exact ⟨He.eqO_ok z.1, z.2⟩
  · obtain ⟨C, e, h1⟩ := cl_some hc
    obtain ⟨q1, q2, q3⟩ := cls e
    rw [q1, fA]
    simp only [oneB, Bool.and_eq_true] at q3
    have z := q3.1.1.1.1.1.2
    rw [h1] at z
    simp only [optB, fnB, Bool.and_eq_true] at z
    exact ⟨He.eqO_ok z.1, z.2⟩
  · obtain ⟨C, e, h1⟩ := cl_some hc
    obtain ⟨q1, q2, q3⟩ := cls e
    rw [q1, q2]
    simp only [oneB, Bool.and_eq_true] at q3
    have z := allA2_of q3.1.1.1.1.2 ha h1
    simp only [Bool.and_eq_true, decide_eq_true_eq] at z
    exact ⟨z.1.1, of_decide_eq_true q3.1.1.1.1.1.1.1.1.1.1.1.1.2, He.eqO_ok z.1.2, cls_of z.2⟩
  · obtain ⟨C, e, h1⟩ := cl_some hc
    obtain ⟨q1, q2, q3⟩ := cls e
    rw [q1, fA]
    simp only [oneB, Bool.and_eq_true] at q3
    have z := allA2_of q3.1.1.1.2 ha h1
    exact pr_of z
  · show ((match G.cls[c]? with | some C => C.flds | none => []) : List Str).length < 1000
    cases e : G.cls[c]? with
    | none => show ([] : List Str).length < 1000; decide
    | some C =>
      obtain ⟨q1, q2, q3⟩ := cls e
      simp only [oneB, Bool.and_eq_true] at q3
      exact of_decide_eq_true q3.1.1.1.1.1.1.1.1.1.1.1.1.1.2
  · obtain ⟨C, e, h1⟩ := cl_some hc
    obtain ⟨q1, q2, q3⟩ := cls e
    rw [q1, q2, fA]
    simp only [oneB, Bool.and_eq_true] at q3
    have z := allA2_of q3.1.1.2 ha h1
    simp only [mtB, fnB, Bool.and_eq_true, Bool.not_eq_true'] at z
    obtain ⟨⟨⟨z1, z2⟩, z3, z4⟩, z5⟩ := z
    have nm : f ∉ C.flds := fun q => by
      rw [List.contains_iff_mem.mpr q] at z2
      cases z2
    exact ⟨cls_of z1, nm, He.eqO_ok z3, z4, z5⟩
  · obtain ⟨C, e, h1⟩ := cl_some hc
    obtain ⟨q1, q2, q3⟩ := cls e
    rw [q1, fA]
    simp only [oneB, Bool.and_eq_true] at q3
    have y := allA2_of q3.1.2 ha h1
    obtain ⟨z1, p, rest, z2, z3, z4⟩ := cm_of y
    exact ⟨_, p, z1, z2, ⟨rest, z3⟩, z4⟩
  · obtain ⟨C, e, h1⟩ := cl_some hc
    obtain ⟨q1, q2, q3⟩ := cls e
    rw [q1, fA]
    simp only [oneB, Bool.and_eq_true] at q3
    have y := allA2_of q3.1.2 ha h1
    obtain ⟨z1, p, rest, z2, z3, z4⟩ := cm_of y
    exact ⟨_, p, z1, z2, ⟨rest, z3⟩, z4⟩
  · exact of_decide_eq_true (List.all_eq_true.mp (List.all_eq_true.mp x6 t (tys_mem t)) t' (tys_mem t'))
  · obtain ⟨k, hk⟩ := Option.isSome_iff_exists.mp hc
    have z := sq_of (c := c) (c' := c) x7 hk
    simp only [isiB, Bool.and_eq_true] at z
    have y := List.all_eq_true.mp z.1.1.2 t (tys_mem t)
    rw [Bool.and_eq_true] at y
    rw [cA]
    exact of_decide_eq_true y.1
  · obtain ⟨k, hk⟩ := Option.isSome_iff_exists.mp hc
    have z := sq_of (c := c) (c' := c) x7 hk
    simp only [isiB, Bool.and_eq_true] at z
    have y := List.all_eq_true.mp z.1.1.2 t (tys_mem t)
    rw [Bool.and_eq_true] at y
    rw [cA]
    exact of_decide_eq_true y.2
  · have z := sq_of (c := c) (c' := c') x7 hc
    simp only [Bool.and_eq_true] at z
    rw [cA, cA]
    exact of_decide_eq_true z.2
  · have z := sq_of (c := c) (c' := c') x7 hc
    simp only [isiB, Bool.and_eq_true] at z
    obtain ⟨⟨⟨⟨⟨⟨⟨z1, z2⟩, z3⟩, z4⟩, z5⟩, _⟩, _⟩, _⟩ := z
    rw [cA]
    exact ⟨cls_of z1, He.eqO_ok z2, He.eqO_ok z3, of_decide_eq_true z4, of_decide_eq_true z5⟩
  · have hc : c ∈ (List.range G.cls.length).filter _ := hc
    obtain ⟨_, h2⟩ := List.mem_filter.mp hc
    split at h2
    · rename_i C e
      obtain ⟨q1, q2, q3⟩ := cls e
      rw [q1]
      simp only [oneB, Bool.and_eq_true] at q3
      have z := q3.2
      rw [h2] at z
      simp only [Bool.not_true, Bool.false_or, excB, Bool.and_eq_true] at z
      exact ⟨z.1.1, of_decide_eq_true z.1.2, of_decide_eq_true z.2⟩
    · cases h2
  · rw [cA, cA]
    exact of_decide_eq_true (sq_of x8 hz)
  · have hm := List.mem_of_getElem? hd
    obtain ⟨oc, od, osl, kV, doc, pm, an, cdv, ct, h1, h2, h3⟩ := fn_at (map_at S.fns hm) (List.all_eq_true.mp x5 d hm) hbad
    refine ⟨oc, od, osl, kV, doc, pm, an, cdv, ct, ?_, h2, fun j hj => ?_⟩
    · rw [fA]
      unfold fAt
      rw [hd]
      exact h1
    · have hp : (j, codeA K (d.adr K), He.tabOf K (codeA K (d.adr K))) ∈ cTs G K := List.mem_filterMap.mpr ⟨d, hm, by rw [hj]; rfl⟩
      refine ⟨_, _, h3, tb _ hp, List.mem_map.mpr ⟨_, hp, rfl⟩, fun p hpp e => ?_⟩
      obtain ⟨q, hq, rfl⟩ := List.mem_map.mp hpp
      rw [nodup_snd S.nd hq hp e]
end
end Q
/-! Q52: the end of a law. -/
namespace Q
open PySem PySem.Spec PyProof.Rows L2
section
variable {G : Pg} {U : Wd}
/-- a def's promise as the end asks it -/
theorem def_fn (S : StK G U) (C : Ck G) {lv n : Nat} (O : WOk G.T U lv (G.g n)) {k : Nat} {d : DefI} (hd : G.defs[k]? = some d) (hbad : isBad d.ir = false) : ∀ {fd : FuncData} {oc : Value} {od : Option Addr} {osl : Array (Option Value)}, U.K.lookup (U.fA k) = some ⟨oc, od, .func fd, osl⟩ →
    FnOk U.P U.w U.K U.mg U.base (L2.CX U.P U.w) (lv + 2) (U.fA k) fd d.ps (spF U (runD (G.g n) (some d))) ∧ ∀ (s : Shared) (us : List Value), us.length = d.ps.length → BindsTo s fd ⟨us, []⟩ (d.ps.zip us) := by
  intro fd oc' od' osl' lk'
  obtain ⟨oc, od, osl, kV, doc, pm, an, cdv, ct, lk, hcd, ht⟩ := S.fn k d hd hbad
  rw [lk] at lk'
  cases lk'
  have hB := C.defs k d hd
  unfold defB at hB
  rw [hbad] at hB
  simp only [Bool.false_or, Bool.and_eq_true, decide_eq_true_eq] at hB
  obtain ⟨⟨⟨p1, p2⟩, p3⟩, p4⟩ := hB
  have fs := fsc_of p3
  have ndp : d.ps.Nodup := by rw [← fs.pre]; exact fs.nd.sublist (List.take_sublist _ _)
  have F := fn_ok (U := U) (k := lv + 1) (φ := rawD (G.g n) d) (m := evS (G.g n) d.ir) lk hcd fs (fun ds μ => rfl) fun A outer s H E b hr => ?_
  refine ⟨F.imp fun vs H Q E h => spF_trim h, fun s us hl => ?_⟩
  rotate_left
  · refine (sns O d.ir).2 _ b _ d.cf ?_ d.body p4 (C.nf hd)
    refine ⟨⟨rfl, rfl, rfl, rfl, rfl⟩, rfl, fs.nd, rfl, fun _ => ⟨rfl, hr, takes_of rfl rfl rfl rfl, passes_of rfl⟩, fun _ _ => rfl, fun _ => ⟨rfl, rfl⟩, fun j hj => ⟨rfl, rfl, ?_⟩⟩
    obtain ⟨c, P, h1, h2, h3, h4⟩ := ht j hj
    exact ⟨c, P, h2, h1, h3, h4⟩
  · refine .of_eq ?_
    rw [← p2]
    exact bind_plain (as := d.params.args) (plainP_of p1) rfl (by rw [p2]; exact ndp) (by rw [hl, ← p2, List.length_map])
end
/-- what is known at the beginning: all but the tables -/
def noTab (H : Hp) : Hp := fun a => match H a with
  | some (.tbl _) => none
  | o => o
theorem noTab_sub (H : Hp) : Sub (noTab H) H := fun a o e => by
  unfold noTab at e
  split at e
  · cases e
  · exact e
theorem noTab_get {H : Hp} {a : Addr} {o : HO} (h : H a = some o) (n : ∀ ps, o ≠ .tbl ps) : noTab H a = some o := by
  unfold noTab
  split
  · rename_i ps e; rw [h] at e; exact absurd (Option.some.inj e) (n ps)
  · exact h
theorem ints_slst {U : Wd} {G : Hp} (ns : List Int) : RepL U G (ns.map V.int) (ns.map D.int) := ints_rep ns
theorem start_spF {U : Wd} {φ : List D → Sto → R D} {H : Hp} {a : Addr} {ns : List Int} {μ : Sto} (hT : ∀ p ∈ U.T, H p.1 = some (.tbl #[])) (hS : SqL U.K H a (ns.map V.int)) (h : φ [.slst (ns.map .int)] [] = .ok (.bl true) μ) : spF U φ [.ref a] H (fun v _ => v = .bl true) fun _ _ _ => False := by
  have hS' : SqL U.K (noTab H) a (ns.map V.int) := by
    rcases hS with (z | ⟨o, z⟩) | z
    · exact .inl (.inl (noTab_get z fun _ q => by cases q))
    · exact .inl (.inr ⟨o, noTab_get z fun _ q => by cases q⟩)
    · exact .inr z
  refine ⟨[.slst (ns.map .int)], [], [], noTab H, rfl, ⟨noTab_sub H, fun b ps e => ?_, rfl, List.nodup_nil, fun i p o e => by simp at e, fun i p o e => by simp at e, List.prefix_refl _, fun _ _ e _ _ => e, fun _ e => e, fun _ e => .inl e, Sub.refl _, fun p hp => by simp at hp, fun p hp => NdefX.TabN.nil (hT p hp), noTab_sub H⟩, .cons (.pure (.slst hS' (ints_slst ns))) .nil, ?_⟩
  · unfold noTab at e
    split at e
    · cases e
    · rename_i z; exact z ps e
  · rw [h]
    intro v H' ρ' G' _ r
    cases r with
    | pure r => cases r; rfl
/-- the law's call keeps the law -/
theorem walk_Q {l : PySem.W.OpenLaw} {q : Program} {loose : List Str} {XP : (Str → Option Value) → Heap → Prop} {d : DefRec} {x : Str} (G : Pg) (lo fuel k : Nat) {dl : DefI} (hn : l.most = some 63) (hdf : d.params.defaults = []) (hr : Room (2 * fuel + 2) callerA) (C : Ck G) (hk : G.defs[k]? = some dl) (hbad : isBad dl.ir = false) (hps : dl.ps = [x]) (hx : G.fnn[k]? = some d.name)
    (law : ∀ ns : List Int, ns.length ≤ 63 → (∀ z ∈ ns, Builtin.Int.intBits z ≤ 1048576) → ∃ μ, runD (G.g fuel) (some dl) [.slst (ns.map .int)] [] = .ok (.bl true) μ) :
    PySem.W.WalkO q loose XP (hookQ G lo).says l.row.toRowW d [] (fun f vs => PySem.call f vs) := by
  refine LamX.walk_ofTsE (CX := fun w => L2.CX l.prog w) (k := 2 * fuel + 2) (x := x) hn (by decide) hdf hr (fun w mg fa h Y N hmg => ?_) fun w H s e s' z => ?_
  · obtain ⟨K, KX, S⟩ := Y
    refine ⟨K, KX, ?_⟩
    have hdA : ∀ base, (G.U l.prog w K mg base (tabsOf G K)).fA k = dl.adr K := fun base => by
      show (match G.defs[k]? with | some d => d.adr K | none => 0) = _; rw [hk]
    have hm := List.mem_of_getElem? hk
    have ex := S.ex
    unfold exB at ex
    simp only [Bool.and_eq_true] at ex
    obtain ⟨⟨⟨⟨⟨⟨⟨x1, x2⟩, x3⟩, x4⟩, x5⟩, x6⟩, x7⟩, x8⟩ := ex
    obtain ⟨oc, od, osl, kV, doc, pm, an, cdv, ct, h1, h2, h3⟩ := fn_at (map_at S.fns hm) (List.all_eq_true.mp x5 dl hm) hbad
    have hfa : fa = dl.adr K := by
      obtain ⟨d', e1, e2⟩ := all2_of x4 hx
      have e1 : G.defs[k]? = some d' := by
        rw [List.getElem?_take] at e1
        split at e1
        · exact e1
        · cases e1
      rw [hk] at e1
      cases e1
      rw [Bool.and_eq_true] at e2
      have := PySem.W.mg_of KX N (He.eqO_ok e2.1)
      rw [hmg] at this
      cases this
      rfl
    subst hfa
    refine ⟨PySem.W.fnOf dl.name dl.qual dl.params dl.body dl.scope .none kV doc pm an cdv ct, (cTs G K).map (·.2), fun vs H Q E => ∀ base, spF (G.U l.prog w K mg base (tabsOf G K)) (runD (G.g fuel) (some dl)) vs H Q E, fun p hp => ?_, fun p hp => ?_, fun p hp => ?_, fun s u => ?_, fun H a ns hl hb hT hS base => ?_, fun base Kb Nb tb => ?_⟩
    · obtain ⟨q, hq, rfl⟩ := List.mem_map.mp hp
      exact S.empty q hq
    · obtain ⟨q, hq, rfl⟩ := List.mem_map.mp hp
      exact S.out q hq
    · obtain ⟨q, hq, rfl⟩ := List.mem_map.mp hp
      exact PySem.W.codeHd_of_K KX (S.hd q hq)
    · have hB := C.defs k dl hk
      unfold defB at hB
      rw [hbad] at hB
      simp only [Bool.false_or, Bool.and_eq_true, decide_eq_true_eq] at hB
      obtain ⟨⟨⟨p1, p2⟩, p3⟩, p4⟩ := hB
      have fs := fsc_of p3
      have ndp : dl.ps.Nodup := by rw [← fs.pre]; exact fs.nd.sublist (List.take_sublist _ _)
      have e := bind_plain (fd := PySem.W.fnOf dl.name dl.qual dl.params dl.body dl.scope .none kV doc pm an cdv ct) (as := dl.params.args) (us := [u]) (plainP_of p1) rfl (by rw [p2]; exact ndp) (by have := congrArg List.length p2; rw [List.length_map, hps] at this; exact this.symm)
      rw [p2, hps] at e
      exact .of_eq e
    · obtain ⟨μ, hμ⟩ := law ns hl hb
      refine start_spF (fun p hp => ?_) hS hμ
      obtain ⟨q, hq, rfl⟩ := List.mem_map.mp hp
      exact hT q.2 (List.mem_map.mpr ⟨q, hq, rfl⟩)
    · have SK := stk_of (P := l.prog) (base := base) KX N S fun p hp => tb p.2 (List.mem_map.mpr ⟨p, hp, rfl⟩)
      have F := (def_fn SK C (wok_all SK C fuel) hk hbad (by rw [hdA]; exact h1)).1
      rw [hps, hdA] at F
      exact F.imp fun vs H Q E z => z base
  · obtain ⟨_, _, _, _, _, _, _, _, _, _, _, _, z⟩ := z
    exact z
end Q
/-! Q53: texts of a program; the look at all texts. -/
namespace Q
open PySem PySem.Spec PyProof.Rows L2
def noS0 : Stmt := .Pass ⟨0, 0, 0, 0⟩
def topS (P : Program) (i : Nat) : Stmt := P.main.body.getD i noS0
def clsBody : Stmt → List Stmt
  | .ClassDef _ _ _ body _ _ _ _ _ _ _ => body
  | _ => []
def subS (P : Program) (i j : Nat) : Stmt := (clsBody (topS P i)).getD j noS0
def lamsB (T : Tb) : Nat → List NfI → Bool
  | _, [] => true
  | n, d :: ds => lamB T (T.nf n) d && lamsB T (n + 1) ds
theorem lamsB_of {T : Tb} : ∀ {ds : List NfI} {n k : Nat} {d : NfI}, lamsB T n ds = true → ds[k]? = some d → lamB T (T.nf (n + k)) d = true
  | [], _, _, _, _, h => by simp at h
  | e :: ds, n, 0, d, h, h1 => by
    simp only [lamsB, Bool.and_eq_true] at h
    simp at h1
    subst h1
    exact h.1
  | e :: ds, n, k + 1, d, h, h1 => by
    simp only [lamsB, Bool.and_eq_true] at h
    have := lamsB_of (n := n + 1) (k := k) h.2 (by simpa using h1)
    rwa [show n + 1 + k = n + (k + 1) by omega] at this
def ckB (G : Pg) : Bool := G.defs.all (defB G.T) && lamsB G.T 0 G.nfs && decide (G.nf.map (·.1)).Nodup
theorem ck_of {G : Pg} (h : ckB G = true) : Ck G := by
  unfold ckB at h
  simp only [Bool.and_eq_true, decide_eq_true_eq] at h
  exact ⟨fun k d hd => List.all_eq_true.mp h.1.1 d (List.mem_of_getElem? hd), fun k d hd => by have := lamsB_of h.1.2 hd; rwa [Nat.zero_add] at this, h.2⟩
end Q
/-! Q54: how the evaluator goes on, for simp. -/
namespace Q
open PySem
section
variable {α β : Type} {μ : Sto} {sl : Sl} {d e : D} {x : Ex}
@[simp] theorem bind_ok {a : α} {f : α → Sto → R β} : R.bind (.ok a μ) f = f a μ := rfl
@[simp] theorem bind_ex {f : α → Sto → R β} : R.bind (.ex x μ) f = .ex x μ := rfl
@[simp] theorem of_some' {a : α} : R.of (some a) μ = .ok a μ := rfl
@[simp] theorem seq_ok {a : α} {k : α → Sto → O} : seqO (.ok a μ) sl k = k a μ := rfl
@[simp] theorem seq_ex {k : α → Sto → O} : seqO (.ex x μ) sl k = .ex x sl μ := rfl
@[simp] theorem then_nx {k : Sl → Sto → O} : thenO (.nx sl μ) k = k sl μ := rfl
@[simp] theorem then_rt {k : Sl → Sto → O} : thenO (.rt d μ) k = .rt d μ := rfl
@[simp] theorem then_ex {k : Sl → Sto → O} : thenO (.ex x sl μ) k = .ex x sl μ := rfl
@[simp] theorem then_ite {c : Prop} [Decidable c] {a b : O} {k : Sl → Sto → O} : thenO (if c then a else b) k = if c then thenO a k else thenO b k := by split <;> rfl
@[simp] theorem out_nx : outO (.nx sl μ) = .ok .non μ := rfl
@[simp] theorem out_ex : outO (.ex x sl μ) = .ex x μ := rfl
theorem out_rt (h : isV d = true) : outO (.rt d μ) = .ok d μ := by show (if _ then _ else _) = _; rw [if_pos h]
@[simp] theorem out_int {i : Int} : outO (.rt (.int i) μ) = .ok (.int i) μ := rfl
@[simp] theorem out_bl {i : Bool} : outO (.rt (.bl i) μ) = .ok (.bl i) μ := rfl
@[simp] theorem out_non : outO (.rt .non μ) = .ok .non μ := rfl
@[simp] theorem out_str {i : Str} : outO (.rt (.str i) μ) = .ok (.str i) μ := rfl
@[simp] theorem out_tup {i : List D} : outO (.rt (.tup i) μ) = .ok (.tup i) μ := rfl
@[simp] theorem out_lst {i : List D} : outO (.rt (.lst i) μ) = .ok (.lst i) μ := rfl
@[simp] theorem out_ins {c : Nat} {i : List D} : outO (.rt (.ins c i) μ) = .ok (.ins c i) μ := rfl
@[simp] theorem out_ite {c : Prop} [Decidable c] {a b : O} : outO (if c then a else b) = if c then outO a else outO b := by split <;> rfl
@[simp] theorem isV_int {i : Int} : isV (.int i) = true := rfl
@[simp] theorem isV_bl {i : Bool} : isV (.bl i) = true := rfl
@[simp] theorem isV_non : isV .non = true := rfl
@[simp] theorem isV_str {i : Str} : isV (.str i) = true := rfl
@[simp] theorem isV_tup {i : List D} : isV (.tup i) = true := rfl
@[simp] theorem isV_lst {i : List D} : isV (.lst i) = true := rfl
@[simp] theorem isV_ins {c : Nat} {i : List D} : isV (.ins c i) = true := rfl
@[simp] theorem isA_int {i : Int} : isA (.int i) = true := rfl
@[simp] theorem isA_bl {i : Bool} : isA (.bl i) = true := rfl
@[simp] theorem isA_non : isA .non = true := rfl
@[simp] theorem isA_str {i : Str} : isA (.str i) = true := rfl
@[simp] theorem isA_tup {i : List D} : isA (.tup i) = true := rfl
@[simp] theorem isA_lst {i : List D} : isA (.lst i) = true := rfl
@[simp] theorem isA_slst {i : List D} : isA (.slst i) = true := rfl
@[simp] theorem isA_ins {c : Nat} {i : List D} : isA (.ins c i) = true := rfl
@[simp] theorem isA_ref {c : Nat} : isA (.ref c) = true := rfl
@[simp] theorem isA_cls {c : Nat} : isA (.cls c) = true := rfl
@[simp] theorem isA_clo {c : Nat} {l : List D} : isA (.clo c l) = true := rfl
@[simp] theorem isP_int {i : Int} : isP (.int i) = true := rfl
@[simp] theorem isP_bl {i : Bool} : isP (.bl i) = true := rfl
@[simp] theorem isP_non : isP .non = true := rfl
@[simp] theorem isP_str {i : Str} : isP (.str i) = true := rfl
@[simp] theorem isP_tup {i : List D} : isP (.tup i) = true := rfl
@[simp] theorem isP_lst {i : List D} : isP (.lst i) = true := rfl
@[simp] theorem isP_ins {c : Nat} {i : List D} : isP (.ins c i) = true := rfl
@[simp] theorem allA_nil : allA [] = true := rfl
@[simp] theorem allA_cons {ds : List D} : allA (d :: ds) = (isA d && allA ds) := rfl
@[simp] theorem allP_nil : allP [] = true := rfl
@[simp] theorem allP_cons {ds : List D} : allP (d :: ds) = (isP d && allP ds) := rfl
@[simp] theorem allV_nil : allV [] = true := rfl
@[simp] theorem allV_cons {ds : List D} : allV (d :: ds) = (isV d && allV ds) := rfl
@[simp] theorem truth_bl {b : Bool} : truth μ (.bl b) = some b := rfl
@[simp] theorem truth_non : truth μ .non = some false := rfl
@[simp] theorem truth_int {i : Int} : truth μ (.int i) = some (i != 0) := rfl
@[simp] theorem tst_ok : tst (.ok d μ) = R.of (truth μ d) μ := rfl
@[simp] theorem tst_ex : tst (.ex x μ) = .ex x μ := rfl
@[simp] theorem and_bl {b : Bool} {r : Sto → R D} : andR (.ok (.bl b) μ) r = if b then r μ else .ok (.bl b) μ := by cases b <;> rfl
@[simp] theorem or_bl {b : Bool} {r : Sto → R D} : orR (.ok (.bl b) μ) r = if b then .ok (.bl b) μ else r μ := by cases b <;> rfl
@[simp] theorem ife_ok {b : Bool} {r s : Sto → R D} : ifR (.ok b μ) r s = if b then r μ else s μ := rfl
@[simp] theorem tag_int {i : Int} : tagOf μ (.int i) = some (.b .int) := rfl
@[simp] theorem tag_str {i : Str} : tagOf μ (.str i) = some (.b .str) := rfl
@[simp] theorem tag_bl {i : Bool} : tagOf μ (.bl i) = some (.b .bool) := rfl
@[simp] theorem tag_non : tagOf μ .non = some (.b .none) := rfl
@[simp] theorem tag_tup {i : List D} : tagOf μ (.tup i) = some (.b .tuple) := rfl
@[simp] theorem tag_lst {i : List D} : tagOf μ (.lst i) = some (.b .list) := rfl
@[simp] theorem tag_ins {c : Nat} {i : List D} : tagOf μ (.ins c i) = some (.c c) := rfl
@[simp] theorem isi_eq {isc : Nat → Nat → Option Bool} {T : D} : isiR isc [d, T] μ = R.of (((tagOf μ d).bind fun t => isiT isc t T).map .bl) μ := rfl
@[simp] theorem isiT_bt {isc : Nat → Nat → Option Bool} {t t' : Ty} : isiT isc (.b t) (.ty t') = some (subTy t t') := rfl
@[simp] theorem isiT_bc {isc : Nat → Nat → Option Bool} {t : Ty} {c : Nat} : isiT isc (.b t) (.cls c) = (isc c c).map fun _ => false := rfl
@[simp] theorem isiT_cc {isc : Nat → Nat → Option Bool} {c c' : Nat} : isiT isc (.c c) (.cls c') = isc c c' := rfl
@[simp] theorem isiT_ct {isc : Nat → Nat → Option Bool} {c : Nat} {t : Ty} : isiT isc (.c c) (.ty t) = (isc c c).map fun _ => false := rfl
@[simp] theorem cmp_lt {i j : Int} {eq : Nat → Option Nat} {Φ : Nat → List D → Sto → R D} : cmpR .Lt eq Φ (.int i) (.int j) μ = .ok (.bl (decide (i < j))) μ := rfl
@[simp] theorem cmp_le {i j : Int} {eq : Nat → Option Nat} {Φ : Nat → List D → Sto → R D} : cmpR .LtE eq Φ (.int i) (.int j) μ = .ok (.bl (decide (i ≤ j))) μ := rfl
@[simp] theorem cmp_gt {i j : Int} {eq : Nat → Option Nat} {Φ : Nat → List D → Sto → R D} : cmpR .Gt eq Φ (.int i) (.int j) μ = .ok (.bl (decide (j < i))) μ := rfl
theorem cmp_eq {k : Bool} {eq : Nat → Option Nat} {Φ : Nat → List D → Sto → R D} (h : eqD μ d e = some k) : cmpR .Eq eq Φ d e μ = .ok (.bl k) μ := by
  unfold cmpR
  rw [show cmpD .Eq μ d e = some k from h]
theorem cmp_ne {k : Bool} {eq : Nat → Option Nat} {Φ : Nat → List D → Sto → R D} (h : eqD μ d e = some k) : cmpR .NotEq eq Φ d e μ = .ok (.bl !k) μ := by
  unfold cmpR
  rw [show cmpD .NotEq μ d e = some (!k) by show (eqD μ d e).map _ = _; rw [h]; rfl]
theorem eq_int {i j : Int} : eqD μ (.int i) (.int j) = some (i == j) := rfl
theorem eq_bl {i j : Bool} : eqD μ (.bl i) (.bl j) = some (i == j) := rfl
theorem eq_str {a c : Str} (ha : PyData.strOk a = true) (hc : PyData.strOk c = true) : eqD μ (.str a) (.str c) = some (a == c) := by
  have h1 : SeqAt.shaped (.str a) = true := by simp [SeqAt.shaped, PyData.canLay0, ha, PyData.depth]
  have h2 : SeqAt.shaped (.str c) = true := by simp [SeqAt.shaped, PyData.canLay0, hc, PyData.depth]
  show (if (SeqAt.shaped (.str a) && SeqAt.shaped (.str c)) = true then some (PyData.eqv (.str a) (.str c)) else none) = _
  rw [h1, h2]
  rfl
@[simp] theorem cmp_eqI {i j : Int} {eq : Nat → Option Nat} {Φ : Nat → List D → Sto → R D} : cmpR .Eq eq Φ (.int i) (.int j) μ = .ok (.bl (i == j)) μ := cmp_eq eq_int
@[simp] theorem cmp_neI {i j : Int} {eq : Nat → Option Nat} {Φ : Nat → List D → Sto → R D} : cmpR .NotEq eq Φ (.int i) (.int j) μ = .ok (.bl !(i == j)) μ := cmp_ne eq_int
@[simp] theorem cmp_eqB {i j : Bool} {eq : Nat → Option Nat} {Φ : Nat → List D → Sto → R D} : cmpR .Eq eq Φ (.bl i) (.bl j) μ = .ok (.bl (i == j)) μ := cmp_eq eq_bl
@[simp] theorem cmp_neB {i j : Bool} {eq : Nat → Option Nat} {Φ : Nat → List D → Sto → R D} : cmpR .NotEq eq Φ (.bl i) (.bl j) μ = .ok (.bl !(i == j)) μ := cmp_ne eq_bl
@[simp] theorem not_eq' {b : Bool} : R.of ((truth μ (.bl b)).map fun k => D.bl !k) μ = .ok (.bl !b) μ := rfl
@[simp] theorem bin_addI {i j : Int} {fw rv : Nat → Option Nat} {Φ : Nat → List D → Sto → R D} : binR .Add fw rv Φ (.int i) (.int j) μ = .ok (.int (i + j)) μ := rfl
@[simp] theorem bin_subI {i j : Int} {fw rv : Nat → Option Nat} {Φ : Nat → List D → Sto → R D} : binR .Sub fw rv Φ (.int i) (.int j) μ = .ok (.int (i - j)) μ := rfl
theorem bin_some {op : Operator} {fw rv : Nat → Option Nat} {Φ : Nat → List D → Sto → R D} {r : D} (h : binD op d e = some r) : binR op fw rv Φ d e μ = .ok r μ := by unfold binR; rw [h]
@[simp] theorem getS_zero {s : Sl} : getS (some d :: s) 0 = some d := rfl
@[simp] theorem getS_succ {o : Option D} {s : Sl} {n : Nat} : getS (o :: s) (n + 1) = getS s n := by
  unfold getS
  rw [List.getElem?_cons_succ]
@[simp] theorem callA_eq {φ : List D → Sto → R D} {ds : List D} : callA φ ds μ = if allA ds then φ ds μ else .no := rfl
theorem frzS_eq {i j : Nat} {xs : List D} {k : Sl → Sto → O} (h1 : getS sl i = some (.ref j)) (h2 : μ[j]? = some (.lst xs)) : frzS i sl μ k = k (sl.set i (some (.lst xs))) (μ.set j .gone) := by
  unfold frzS
  rw [h1]
  dsimp only
  rw [h2]
theorem len_some {n : Nat} {ln : Nat → Option Nat} {Φ : Nat → List D → Sto → R D} (h : lenD μ d = some n) : lenR ln Φ [d] μ = .ok (.int n) μ := by
  unfold lenR
  dsimp only
  rw [h]
theorem in_some {k : Bool} {neg : Bool} {cn : Nat → Option Nat} {Φ : Nat → List D → Sto → R D} (h : inD μ d e = some k) : inR neg cn Φ d e μ = .ok (.bl (if neg then !k else k)) μ := by
  unfold inR
  rw [h]
@[simp] theorem startS_eq {n : Nat} {ds : List D} : startS n ds = ds.map some ++ List.replicate (n - ds.length) none := rfl
@[simp] theorem part_int {i : Int} : partR (.ok (.int i) μ) = .ok (some i) μ := rfl
@[simp] theorem slice_ok {rl rh : Sto → R (Option Int)} : sliceR (.ok d μ) rl rh = (rl μ).bind fun lo μ => (rh μ).bind fun hi μ => cutR d lo hi μ := rfl
@[simp] theorem tup_eq {ds : List D} : tupR ds μ = if ds.length ≤ lim && allP ds then .ok (.tup ds) μ else .no := rfl
@[simp] theorem lst_eq {ds : List D} : lstR ds μ = if ds.length ≤ lim && allP ds then .ok (.lst ds) μ else .no := rfl
@[simp] theorem for_nil {t : T} {b : Sl → Sto → O} : forO t b [] sl μ = .nx sl μ := rfl
theorem for_nx {t : T} {b : Sl → Sto → O} {ds : List D} {sl1 sl2 : Sl} {μ2 : Sto} (h : setT t [d] sl = some sl1) (hb : b sl1 μ = .nx sl2 μ2) : forO t b (d :: ds) sl μ = forO t b ds sl2 μ2 := by
  conv => lhs; unfold forO
  rw [h]
  dsimp only
  rw [hb]
theorem for_rt {t : T} {b : Sl → Sto → O} {ds : List D} {sl1 : Sl} {μ2 : Sto} {r : D} (h : setT t [d] sl = some sl1) (hb : b sl1 μ = .rt r μ2) : forO t b (d :: ds) sl μ = .rt r μ2 := by
  conv => lhs; unfold forO
  rw [h]
  dsimp only
  rw [hb]
@[simp] theorem it_ok : itR (.ok d μ) = R.of (itemsF d) μ := rfl
@[simp] theorem itF_tup {xs : List D} : itemsF (.tup xs) = some xs := rfl
@[simp] theorem itF_lst {xs : List D} : itemsF (.lst xs) = some xs := rfl
@[simp] theorem itF_slst {xs : List D} : itemsF (.slst xs) = some xs := rfl
end
end Q
namespace K01
open PySem PySem.Spec PyProof.Rows L2 Q
-- names for the head: law at 23 def 13
abbrev P : Program := PySem.Challenge.pw_keptmeanings_k01_whole_forms
abbrev s_f : Str := ⟨#[102]⟩
abbrev s_n : Str := ⟨#[110]⟩
abbrev s_number : Str := ⟨#[110, 117, 109, 98, 101, 114]⟩
abbrev s_call : Str := ⟨#[99, 97, 108, 108]⟩
abbrev s_when : Str := ⟨#[119, 104, 101, 110]⟩
abbrev s_same : Str := ⟨#[115, 97, 109, 101]⟩
abbrev s_times : Str := ⟨#[116, 105, 109, 101, 115]⟩
abbrev s_less : Str := ⟨#[108, 101, 115, 115]⟩
abbrev s_sum : Str := ⟨#[115, 117, 109]⟩
abbrev s_column : Str := ⟨#[99, 111, 108, 117, 109, 110]⟩
abbrev s_setting : Str := ⟨#[115, 101, 116, 116, 105, 110, 103]⟩
abbrev s_given : Str := ⟨#[103, 105, 118, 101, 110]⟩
abbrev s_kept : Str := ⟨#[107, 101, 112, 116]⟩
abbrev s_forms : Str := ⟨#[102, 111, 114, 109, 115]⟩
abbrev s_Sum : Str := ⟨#[83, 117, 109]⟩
abbrev s_e : Str := ⟨#[]⟩
def b0 : S := .cons (.iff (.cmp .Eq (.var 4) (.lit (.str s_f))) (.cons (.set 6 (.call 1 (.cons (.var 5) (.cons (.bin .Sub (.var 1) (.var 3)) (.nil))))) (.cons (.iff (.cmp .Eq (.var 6) (.lit (.int 0))) (.cons (.ret (.lit (.int 0))) (.nil)) (.nil)) (.cons (.set 3 (.bin .Add (.var 3) (.var 6))) (.nil)))) (.cons (.iff (.not (.call 0 (.cons (.var 5) (.cons (.lit (.int 0)) (.cons (.sub (.glb 1) (.var 4)) (.nil)))))) (.cons (.ret (.lit (.int 0))) (.nil)) (.nil)) (.nil))) (.nil)
def b1 : S := .cons (.iff (.isi (.cons (.var 2) (.cons (.ty .tuple) (.nil)))) (.cons (.expr (.bm .extend (.var 1) (.cons (.call 2 (.cons (.var 2) (.nil))) (.nil)))) (.nil)) (.nil)) (.nil)
def b2 : S := .cons (.iff (.isi (.cons (.var 2) (.cons (.ty .tuple) (.nil)))) (.cons (.set 1 (.bin .Add (.var 1) (.call 7 (.cons (.var 2) (.nil))))) (.nil)) (.nil)) (.nil)
def b3 : S := .cons (.iff (.cmp .NotEq (.var 4) (.fb .tuple (.cons (.fc .sorted (.cons (.fc .set (.cons (.lc (.nm 5) [5] (.seq (.var 2)) (.cmp .Eq (.sub (.var 5) (.lit (.int 0))) (.var 3)) (.fb .int (.cons (.sub (.var 5) (.lit (.int 1))) (.nil)))) (.nil))) (.nil))) (.nil)))) (.cons (.ret (.lit (.bl false))) (.nil)) (.nil)) (.nil)
def b4 : S := .cons (.iff (.cmp .NotEq (.isin false (.var 3) (.var 0)) (.isin false (.var 3) (.var 6))) (.cons (.ret (.lit (.bl false))) (.nil)) (.nil)) (.nil)
def b5 : S := .cons (.set 3 (.tup (.cons (.lit (.str s_number)) (.cons (.var 2) (.nil))))) (.cons (.iff (.cmp .NotEq (.calC [(0, [2, 0])] 8 (.cons (.lam 0) (.nil))) (.call 9 (.cons (.tup (.cons (.lit (.str s_sum)) (.cons (.var 1) (.cons (.var 3) (.nil))))) (.nil)))) (.cons (.ret (.lit (.bl false))) (.nil)) (.nil)) (.cons (.iff (.cmp .NotEq (.calC [(1, [2, 0])] 8 (.cons (.lam 1) (.nil))) (.call 9 (.cons (.tup (.cons (.lit (.str s_sum)) (.cons (.var 3) (.cons (.var 1) (.nil))))) (.nil)))) (.cons (.ret (.lit (.bl false))) (.nil)) (.nil)) (.cons (.iff (.cmp .NotEq (.calC [(2, [2, 0])] 8 (.cons (.lam 2) (.nil))) (.call 9 (.cons (.tup (.cons (.lit (.str s_less)) (.cons (.var 1) (.cons (.var 3) (.nil))))) (.nil)))) (.cons (.ret (.lit (.bl false))) (.nil)) (.nil)) (.cons (.iff (.cmp .NotEq (.calC [(3, [2, 0])] 8 (.cons (.lam 3) (.nil))) (.call 9 (.cons (.tup (.cons (.lit (.str s_less)) (.cons (.var 3) (.cons (.var 1) (.nil))))) (.nil)))) (.cons (.ret (.lit (.bl false))) (.nil)) (.nil)) (.cons (.iff (.cmp .NotEq (.calC [(4, [2, 0])] 8 (.cons (.lam 4) (.nil))) (.call 9 (.cons (.tup (.cons (.lit (.str s_times)) (.cons (.var 1) (.cons (.var 3) (.nil))))) (.nil)))) (.cons (.ret (.lit (.bl false))) (.nil)) (.nil)) (.cons (.iff (.cmp .NotEq (.calC [(5, [2, 0])] 8 (.cons (.lam 5) (.nil))) (.call 9 (.cons (.tup (.cons (.lit (.str s_times)) (.cons (.var 3) (.cons (.var 1) (.nil))))) (.nil)))) (.cons (.ret (.lit (.bl false))) (.nil)) (.nil)) (.cons (.iff (.cmp .NotEq (.calC [(6, [2, 0])] 8 (.cons (.lam 6) (.nil))) (.call 9 (.cons (.tup (.cons (.lit (.str s_same)) (.cons (.var 1) (.cons (.var 3) (.nil))))) (.nil)))) (.cons (.ret (.lit (.bl false))) (.nil)) (.nil)) (.cons (.iff (.cmp .NotEq (.calC [(7, [2, 0])] 8 (.cons (.lam 7) (.nil))) (.call 9 (.cons (.tup (.cons (.lit (.str s_when)) (.cons (.var 1) (.cons (.var 3) (.cons (.var 1) (.nil)))))) (.nil)))) (.cons (.ret (.lit (.bl false))) (.nil)) (.nil)) (.cons (.iff (.cmp .NotEq (.calC [(8, [2, 0])] 8 (.cons (.lam 8) (.nil))) (.call 9 (.cons (.tup (.cons (.lit (.str s_when)) (.cons (.var 1) (.cons (.var 1) (.cons (.var 3) (.nil)))))) (.nil)))) (.cons (.ret (.lit (.bl false))) (.nil)) (.nil)) (.cons (.iff (.cmp .NotEq (.calC [(9, [2, 0])] 8 (.cons (.lam 9) (.nil))) (.call 9 (.cons (.tup (.cons (.lit (.str s_call)) (.cons (.var 2) (.cons (.var 1) (.nil))))) (.nil)))) (.cons (.ret (.lit (.bl false))) (.nil)) (.nil)) (.nil)))))))))))
def b6 : S := .cons (.set 3 (.sub (.tup (.cons (.lit (.int 2)) (.cons (.lit (.int 5)) (.cons (.lit (.int 6)) (.cons (.lit (.int 11)) (.cons (.lit (.int 12)) (.cons (.lit (.int 12)) (.nil)))))))) (.var 2))) (.cons (.expr (.bm .append (.var 1) (.cons (.call 6 (.cons (.var 0) (.cons (.bin .Mult (.lit (.int 40)) (.var 2)) (.cons (.bin .Add (.lit (.int 1)) (.bin .Mod (.fb .int (.cons (.call 4 (.cons (.var 0) (.cons (.bin .Add (.lit (.int 300)) (.var 2)) (.nil)))) (.nil))) (.var 3))) (.nil))))) (.nil)))) (.nil))
def b7 : S := .cons (.iff (.not (.call 12 (.cons (.var 6) (.cons (.var 7) (.cons (.var 8) (.cons (.var 9) (.nil))))))) (.cons (.ret (.lit (.bl false))) (.nil)) (.nil)) (.nil)
def b8 : S := .cons (.iff (.or (.not (.call 10 (.cons (.var 6) (.cons (.var 7) (.nil))))) (.or (.not (.call 11 (.cons (.var 6) (.cons (.var 7) (.nil))))) (.cmp .NotEq (.var 6) (.mk 3 (.cons (.var 7) (.nil)))))) (.cons (.ret (.lit (.bl false))) (.nil)) (.nil)) (.cons (.for (.tp (.cons (.nm 8) (.cons (.nm 9) (.nil)))) (.zip (.cons (.var 4) (.cons (.var 1) (.nil)))) b7) (.nil))
def ir0 : S := .cons (.ret (.and (.isi (.cons (.var 0) (.cons (.ty .int) (.nil)))) (.and (.not (.isi (.cons (.var 0) (.cons (.ty .bool) (.nil))))) (.chn (.var 1) (.var 0) (.var 2))))) (.nil)
def st0 : Stmt := topS P 8
def d0 : DefI := ⟨adG "is_between", "is_between", "is_between", defArgs st0, defBody st0, defScope st0, ["thing", "low", "high"], ["thing", "low", "high"], ir0, none⟩
def ir1 : S := .cons (.iff (.or (.cmp .Lt (.var 1) (.lit (.int 1))) (.or (.not (.isi (.cons (.var 0) (.cons (.ty .tuple) (.nil))))) (.cmp .Eq (.var 0) (.tup (.nil))))) (.cons (.ret (.lit (.int 0))) (.nil)) (.nil)) (.cons (.set 2 (.sub (.var 0) (.lit (.int 0)))) (.cons (.iff (.or (.not (.isi (.cons (.var 2) (.cons (.ty .str) (.nil))))) (.or (.isin true (.var 2) (.glb 0)) (.cmp .NotEq (.len (.cons (.var 0) (.nil))) (.bin .Add (.len (.cons (.sub (.glb 0) (.var 2)) (.nil))) (.lit (.int 1)))))) (.cons (.ret (.lit (.int 0))) (.nil)) (.nil)) (.cons (.set 3 (.lit (.int 1))) (.cons (.for (.tp (.cons (.nm 4) (.cons (.nm 5) (.nil)))) (.zip (.cons (.sub (.glb 0) (.var 2)) (.cons (.slc (.var 0) (.lit (.int 1)) (.nil)) (.nil)))) b0) (.cons (.ret (.var 3)) (.nil))))))
def st1 : Stmt := topS P 9
def d1 : DefI := ⟨adG "count_in", "count_in", "count_in", defArgs st1, defBody st1, defScope st1, ["tree", "room", "word", "found", "sign", "part", "size"], ["tree", "room"], ir1, none⟩
def ir2 : S := .cons (.set 1 (.mlst (.cons (.var 0) (.nil)))) (.cons (.for (.nm 2) (.seq (.slc (.var 0) (.lit (.int 1)) (.nil))) b1) (.frz 1 (.cons (.ret (.var 1)) (.nil))))
def st2 : Stmt := topS P 10
def d2 : DefI := ⟨adG "trees_in", "trees_in", "trees_in", defArgs st2, defBody st2, defScope st2, ["tree", "found", "part"], ["tree"], ir2, none⟩
def ir3 : S := .cons (.iff (.isi (.cons (.var 0) (.cons (.gcl 3) (.nil)))) (.cons (.ret (.att 0 (.var 0))) (.nil)) (.nil)) (.cons (.iff (.not (.call 0 (.cons (.var 0) (.cons (.lit (.int 0)) (.cons (.sub (.glb 1) (.lit (.str s_n))) (.nil)))))) (.cons (.rse 1) (.nil)) (.nil)) (.cons (.ret (.tup (.cons (.lit (.str s_number)) (.cons (.var 0) (.nil))))) (.nil)))
def st3 : Stmt := topS P 11
def d3 : DefI := ⟨adG "tree_of", "tree_of", "tree_of", defArgs st3, defBody st3, defScope st3, ["thing"], ["thing"], ir3, none⟩
def ir4 : S := .cons (.set 2 (.ife (.cmp .NotEq (.var 0) (.lst (.nil))) (.slc (.var 0) (.nil) (.lit (.int 63))) (.lst (.cons (.lit (.int 5)) (.nil))))) (.cons (.set 3 (.bin .Add (.sub (.var 2) (.bin .Mod (.fb .int (.cons (.var 1) (.nil))) (.len (.cons (.var 2) (.nil))))) (.bin .Mult (.lit (.int 13)) (.bin .FloorDiv (.var 1) (.len (.cons (.var 2) (.nil))))))) (.cons (.par 4 5 (.cons (.bin .Mod (.fb .int (.cons (.var 3) (.nil))) (.lit (.int 1000003))) (.cons (.bin .Mod (.fb .int (.cons (.bin .FloorDiv (.var 3) (.lit (.int 1000003))) (.nil))) (.lit (.int 999983))) (.nil)))) (.cons (.set 6 (.bin .Mod (.fb .int (.cons (.fb .sum (.cons (.var 2) (.nil))) (.nil))) (.lit (.int 65521)))) (.cons (.set 7 (.bin .Mod (.fb .int (.cons (.bin .Add (.bin .Add (.bin .Mult (.bin .Add (.var 4) (.bin .Mult (.lit (.int 977)) (.var 1))) (.lit (.int 48271))) (.bin .Mult (.lit (.int 31)) (.var 5))) (.var 6)) (.nil))) (.lit (.int 2147483647)))) (.cons (.ret (.bin .Add (.bin .Mult (.bin .Mod (.fb .int (.cons (.bin .Mult (.var 7) (.bin .Add (.bin .Add (.var 7) (.bin .Mult (.lit (.int 31)) (.var 1))) (.lit (.int 7)))) (.nil))) (.lit (.int 2147483629))) (.lit (.int 65537))) (.var 5))) (.nil))))))
def st4 : Stmt := topS P 14
def d4 : DefI := ⟨adG "_law_number", "_law_number", "_law_number", defArgs st4, defBody st4, defScope st4, ["script", "index", "cells", "cell", "low", "high", "total", "blend"], ["script", "index"], ir4, none⟩
def ir5 : S := .cons (.set 5 (.fb .int (.cons (.call 4 (.cons (.var 0) (.cons (.var 1) (.nil)))) (.nil)))) (.cons (.iff (.or (.cmp .Lt (.var 2) (.lit (.int 2))) (.cmp .Eq (.bin .Mod (.fb .int (.cons (.var 5) (.nil))) (.lit (.int 7))) (.lit (.int 0)))) (.cons (.ret (.sub (.var 3) (.bin .Mod (.fb .int (.cons (.bin .FloorDiv (.var 5) (.lit (.int 7))) (.nil))) (.len (.cons (.var 3) (.nil)))))) (.nil)) (.nil)) (.cons (.par 6 7 (.cons (.bin .Mod (.fb .int (.cons (.bin .FloorDiv (.var 5) (.lit (.int 7))) (.nil))) (.lit (.int 8))) (.cons (.bin .FloorDiv (.var 5) (.lit (.int 56))) (.nil)))) (.cons (.iff (.and (.cmp .NotEq (.var 4) (.lst (.nil))) (.or (.cmp .Lt (.var 6) (.lit (.int 3))) (.cmp .Lt (.var 2) (.lit (.int 3))))) (.cons (.ret (.tup (.cons (.lit (.str s_call)) (.cons (.sub (.var 4) (.bin .Mod (.fb .int (.cons (.var 7) (.nil))) (.len (.cons (.var 4) (.nil))))) (.cons (.call 5 (.cons (.var 0) (.cons (.bin .Add (.var 1) (.lit (.int 1))) (.cons (.bin .Sub (.var 2) (.lit (.int 1))) (.cons (.var 3) (.cons (.var 4) (.nil))))))) (.nil)))))) (.nil)) (.nil)) (.cons (.iff (.cmp .Lt (.var 2) (.lit (.int 3))) (.cons (.ret (.sub (.var 3) (.bin .Mod (.fb .int (.cons (.var 7) (.nil))) (.len (.cons (.var 3) (.nil)))))) (.nil)) (.nil)) (.cons (.iff (.and (.cmp .Eq (.var 6) (.lit (.int 3))) (.cmp .Gt (.var 2) (.lit (.int 3)))) (.cons (.set 8 (.bin .FloorDiv (.bin .Sub (.var 2) (.lit (.int 1))) (.lit (.int 3)))) (.cons (.set 9 (.call 5 (.cons (.var 0) (.cons (.bin .Add (.var 1) (.lit (.int 1))) (.cons (.var 8) (.cons (.var 3) (.cons (.var 4) (.nil)))))))) (.cons (.set 10 (.call 5 (.cons (.var 0) (.cons (.bin .Add (.var 1) (.lit (.int 15))) (.cons (.var 8) (.cons (.var 3) (.cons (.var 4) (.nil)))))))) (.cons (.ret (.tup (.cons (.lit (.str s_when)) (.cons (.var 9) (.cons (.var 10) (.cons (.call 5 (.cons (.var 0) (.cons (.bin .Add (.var 1) (.lit (.int 29))) (.cons (.bin .Sub (.bin .Sub (.var 2) (.lit (.int 1))) (.bin .Mult (.lit (.int 2)) (.var 8))) (.cons (.var 3) (.cons (.var 4) (.nil))))))) (.nil))))))) (.nil))))) (.nil)) (.cons (.set 11 (.bin .Add (.lit (.int 1)) (.bin .Mod (.fb .int (.cons (.bin .FloorDiv (.var 7) (.lit (.int 4))) (.nil))) (.bin .Sub (.var 2) (.lit (.int 2)))))) (.cons (.set 10 (.call 5 (.cons (.var 0) (.cons (.bin .Add (.var 1) (.lit (.int 1))) (.cons (.var 11) (.cons (.var 3) (.cons (.var 4) (.nil)))))))) (.cons (.set 12 (.call 5 (.cons (.var 0) (.cons (.bin .Add (.bin .Add (.var 1) (.lit (.int 2))) (.var 11)) (.cons (.bin .Sub (.bin .Sub (.var 2) (.lit (.int 1))) (.var 11)) (.cons (.var 3) (.cons (.var 4) (.nil)))))))) (.cons (.ret (.tup (.cons (.sub (.tup (.cons (.lit (.str s_sum)) (.cons (.lit (.str s_less)) (.cons (.lit (.str s_times)) (.cons (.lit (.str s_same)) (.nil)))))) (.bin .Mod (.fb .int (.cons (.var 7) (.nil))) (.lit (.int 4)))) (.cons (.var 10) (.cons (.var 12) (.nil)))))) (.nil))))))))))
def st5 : Stmt := topS P 15
def d5 : DefI := ⟨adG "_law_tree", "_law_tree", "_law_tree", defArgs st5, defBody st5, defScope st5, ["script", "at", "size", "leaves", "calls", "seed", "kind", "rest", "part", "test", "one", "left", "other"], ["script", "at", "size", "leaves", "calls"], ir5, none⟩
def ir6 : S := .cons (.set 3 (.lst (.cons (.tup (.cons (.lit (.str s_given)) (.nil))) (.cons (.tup (.cons (.lit (.str s_setting)) (.nil))) (.cons (.tup (.cons (.lit (.str s_number)) (.cons (.lit (.int 0)) (.nil)))) (.cons (.tup (.cons (.lit (.str s_number)) (.cons (.lit (.int 2)) (.nil)))) (.cons (.tup (.cons (.lit (.str s_column)) (.cons (.lit (.int 0)) (.nil)))) (.cons (.tup (.cons (.lit (.str s_column)) (.cons (.lit (.int 1)) (.nil)))) (.nil))))))))) (.cons (.set 3 (.bin .Add (.var 3) (.lst (.cons (.tup (.cons (.lit (.str s_kept)) (.cons (.lit (.int 0)) (.nil)))) (.cons (.tup (.cons (.lit (.str s_kept)) (.cons (.lit (.int 1)) (.nil)))) (.cons (.tup (.cons (.lit (.str s_number)) (.cons (.lit (.int 1)) (.nil)))) (.nil))))))) (.cons (.ret (.call 5 (.cons (.var 0) (.cons (.var 1) (.cons (.var 2) (.cons (.var 3) (.cons (.lst (.cons (.lit (.int 0)) (.cons (.lit (.int 1)) (.cons (.lit (.int 2)) (.nil))))) (.nil)))))))) (.nil)))
def st6 : Stmt := topS P 16
def d6 : DefI := ⟨adG "_law_any_tree", "_law_any_tree", "_law_any_tree", defArgs st6, defBody st6, defScope st6, ["script", "at", "size", "leaves"], ["script", "at", "size"], ir6, none⟩
def ir7 : S := .cons (.set 1 (.lst (.cons (.var 0) (.nil)))) (.cons (.for (.nm 2) (.seq (.slc (.var 0) (.lit (.int 1)) (.nil))) b2) (.cons (.ret (.var 1)) (.nil)))
def st7 : Stmt := topS P 17
def d7 : DefI := ⟨adG "_law_in", "_law_in", "_law_in", defArgs st7, defBody st7, defScope st7, ["tree", "found", "part"], ["tree"], ir7, none⟩
def ir8 : S := .cons (.tri 1 (.cons (.ret (.att 0 (.calV 0 (.nil)))) (.nil)) (.cons (.ret (.lit .non)) (.nil))) (.nil)
def st8 : Stmt := topS P 18
def d8 : DefI := ⟨adG "_law_heard", "_law_heard", "_law_heard", defArgs st8, defBody st8, defScope st8, ["call"], ["call"], ir8, none⟩
def ir9 : S := .cons (.ret (.ife (.cmp .LtE (.len (.cons (.call 7 (.cons (.var 0) (.nil))) (.nil))) (.lit (.int 12))) (.var 0) (.lit .non))) (.nil)
def st9 : Stmt := topS P 19
def d9 : DefI := ⟨adG "_law_due", "_law_due", "_law_due", defArgs st9, defBody st9, defScope st9, ["tree"], ["tree"], ir9, none⟩
def ir10 : S := .cons (.set 2 (.call 7 (.cons (.var 1) (.nil)))) (.cons (.iff (.or (.cmp .NotEq (.att 0 (.var 0)) (.var 1)) (.cmp .NotEq (.len (.cons (.var 0) (.nil))) (.len (.cons (.var 2) (.nil))))) (.cons (.ret (.lit (.bl false))) (.nil)) (.nil)) (.cons (.for (.tp (.cons (.nm 3) (.cons (.nm 4) (.nil)))) (.seq (.tup (.cons (.tup (.cons (.lit (.str s_call)) (.cons (.att 3 (.var 0)) (.nil)))) (.cons (.tup (.cons (.lit (.str s_column)) (.cons (.att 2 (.var 0)) (.nil)))) (.cons (.tup (.cons (.lit (.str s_kept)) (.cons (.att 1 (.var 0)) (.nil)))) (.nil)))))) b3) (.cons (.set 6 (.lc0 (.nm 5) [5] (.seq (.var 2)) (.sub (.var 5) (.lit (.int 0))))) (.cons (.for (.nm 3) (.seq (.tup (.cons (.lit (.str s_number)) (.cons (.lit (.str s_given)) (.cons (.lit (.str s_setting)) (.cons (.lit (.str s_column)) (.cons (.lit (.str s_kept)) (.cons (.lit (.str s_call)) (.cons (.lit (.str s_sum)) (.cons (.lit (.str s_less)) (.cons (.lit (.str s_times)) (.cons (.lit (.str s_same)) (.cons (.lit (.str s_when)) (.nil)))))))))))))) b4) (.cons (.ret (.not (.fb .any (.cons (.lc0 (.nm 7) [7] (.seq (.tup (.cons (.lit (.str s_e)) (.cons (.lit (.str s_Sum)) (.cons (.lit .non) (.cons (.lit (.int 0)) (.cons (.var 1) (.cons (.var 0) (.cons (.lst (.nil)) (.cons (.lit (.str s_forms)) (.nil))))))))))) (.isin false (.var 7) (.var 0))) (.nil))))) (.nil))))))
def st10 : Stmt := topS P 20
def d10 : DefI := ⟨adG "_law_one_right", "_law_one_right", "_law_one_right", defArgs st10, defBody st10, defScope st10, ["form", "tree", "rows", "word", "found", "row", "words", "thing"], ["form", "tree"], ir10, none⟩
def ir11 : S := .cons (.for (.nm 2) (.rng1 (.cons (.lit (.int 3)) (.nil))) b5) (.cons (.ret (.cmp .Eq (.calC [(10, [0])] 8 (.cons (.lam 10) (.nil))) (.call 9 (.cons (.tup (.cons (.lit (.str s_less)) (.cons (.tup (.cons (.lit (.str s_number)) (.cons (.lit (.int 0)) (.nil)))) (.cons (.var 1) (.nil))))) (.nil))))) (.nil))
def st11 : Stmt := topS P 21
def d11 : DefI := ⟨adG "_law_numbers_right", "_law_numbers_right", "_law_numbers_right", defArgs st11, defBody st11, defScope st11, ["one", "mine", "number", "leaf"], ["one", "mine"], ir11, some 0⟩
def ir12 : S := .cons (.iff (.cmp .NotEq (.calC [(11, [0, 2])] 8 (.cons (.lam 11) (.nil))) (.call 9 (.cons (.tup (.cons (.lit (.str s_sum)) (.cons (.var 1) (.cons (.var 3) (.nil))))) (.nil)))) (.cons (.ret (.lit (.bl false))) (.nil)) (.nil)) (.cons (.iff (.cmp .NotEq (.calC [(12, [0, 2])] 8 (.cons (.lam 12) (.nil))) (.call 9 (.cons (.tup (.cons (.lit (.str s_less)) (.cons (.var 1) (.cons (.var 3) (.nil))))) (.nil)))) (.cons (.ret (.lit (.bl false))) (.nil)) (.nil)) (.cons (.iff (.cmp .NotEq (.calC [(13, [0, 2])] 8 (.cons (.lam 13) (.nil))) (.call 9 (.cons (.tup (.cons (.lit (.str s_times)) (.cons (.var 1) (.cons (.var 3) (.nil))))) (.nil)))) (.cons (.ret (.lit (.bl false))) (.nil)) (.nil)) (.cons (.iff (.cmp .NotEq (.calC [(14, [0, 2])] 8 (.cons (.lam 14) (.nil))) (.call 9 (.cons (.tup (.cons (.lit (.str s_same)) (.cons (.var 1) (.cons (.var 3) (.nil))))) (.nil)))) (.cons (.ret (.lit (.bl false))) (.nil)) (.nil)) (.cons (.iff (.cmp .NotEq (.calC [(15, [0, 2])] 8 (.cons (.lam 15) (.nil))) (.call 9 (.cons (.tup (.cons (.lit (.str s_when)) (.cons (.var 1) (.cons (.var 3) (.cons (.var 1) (.nil)))))) (.nil)))) (.cons (.ret (.lit (.bl false))) (.nil)) (.nil)) (.cons (.set 4 (.cmp .Eq (.var 1) (.var 3))) (.cons (.ret (.and (.cmp .Eq (.cmp .Eq (.var 0) (.var 2)) (.var 4)) (.cmp .NotEq (.cmp .NotEq (.var 0) (.var 2)) (.var 4)))) (.nil)))))))
def st12 : Stmt := topS P 22
def d12 : DefI := ⟨adG "_law_pair_right", "_law_pair_right", "_law_pair_right", defArgs st12, defBody st12, defScope st12, ["one", "mine", "two", "theirs", "due"], ["one", "mine", "two", "theirs"], ir12, some 1⟩
def ir13 : S := .cons (.set 1 (.mlst (.nil))) (.cons (.for (.nm 2) (.rng1 (.cons (.lit (.int 6)) (.nil))) b6) (.frz 1 (.cons (.set 4 (.lc0 (.nm 5) [5] (.seq (.var 1)) (.mk 3 (.cons (.var 5) (.nil))))) (.cons (.for (.tp (.cons (.nm 6) (.cons (.nm 7) (.nil)))) (.zip (.cons (.var 4) (.cons (.var 1) (.nil)))) b8) (.cons (.set 10 (.bin .Add (.lc0 (.nm 11) [11] (.rng1 (.cons (.lit (.int 3)) (.nil))) (.met 7 (.gcl 3) (.cons (.var 11) (.nil)))) (.lc0 (.nm 12) [12] (.rng1 (.cons (.lit (.int 2)) (.nil))) (.met 8 (.gcl 3) (.cons (.var 12) (.nil)))))) (.cons (.set 10 (.bin .Add (.bin .Add (.var 10) (.lc0 (.nm 13) [13] (.rng1 (.cons (.lit (.int 2)) (.nil))) (.met 9 (.gcl 3) (.cons (.var 13) (.nil))))) (.lst (.cons (.met 11 (.gcl 3) (.nil)) (.cons (.met 10 (.gcl 3) (.nil)) (.nil)))))) (.cons (.set 14 (.bin .Add (.lc0 (.nm 11) [11] (.rng1 (.cons (.lit (.int 3)) (.nil))) (.tup (.cons (.lit (.str s_number)) (.cons (.var 11) (.nil))))) (.lc0 (.nm 12) [12] (.rng1 (.cons (.lit (.int 2)) (.nil))) (.tup (.cons (.lit (.str s_column)) (.cons (.var 12) (.nil))))))) (.cons (.set 14 (.bin .Add (.bin .Add (.var 14) (.lc0 (.nm 13) [13] (.rng1 (.cons (.lit (.int 2)) (.nil))) (.tup (.cons (.lit (.str s_kept)) (.cons (.var 13) (.nil)))))) (.lst (.cons (.tup (.cons (.lit (.str s_given)) (.nil))) (.cons (.tup (.cons (.lit (.str s_setting)) (.nil))) (.nil)))))) (.cons (.ret (.and (.cmp .Eq (.lc0 (.nm 6) [6] (.seq (.var 10)) (.att 0 (.var 6))) (.var 14)) (.fb .all (.cons (.lc0 (.nm 6) [6] (.seq (.var 10)) (.isi (.cons (.var 6) (.cons (.gcl 3) (.nil))))) (.nil))))) (.nil))))))))))
def st13 : Stmt := topS P 23
def d13 : DefI := ⟨adG "law", "law", "law", defArgs st13, defBody st13, defScope st13, ["script", "trees", "turn", "most", "forms", "tree", "one", "mine", "two", "theirs", "made", "n", "c", "t", "due"], ["script"], ir13, none⟩
def ir14 : S := .cons (.iff (.cmp .Eq (.call 1 (.cons (.var 1) (.cons (.glb 2) (.nil)))) (.lit (.int 0))) (.cons (.rse 1) (.nil)) (.nil)) (.cons (.fld 0 (.var 0) (.var 1)) (.nil))
def st14 : Stmt := subS P 12 0
def d14 : DefI := ⟨adM "Form" "__init__", "__init__", "Form.__init__", defArgs st14, defBody st14, defScope st14, ["self", "tree"], ["self", "tree"], ir14, none⟩
def ir15 : S := .cons (.iff (.not (.call 0 (.cons (.var 2) (.cons (.lit (.int 0)) (.cons (.sub (.glb 1) (.sub (.glb 0) (.var 1))) (.nil)))))) (.cons (.rse 2) (.nil)) (.nil)) (.cons (.ret (.calV 0 (.cons (.tup (.cons (.var 1) (.cons (.var 2) (.nil)))) (.nil)))) (.nil))
def st15 : Stmt := subS P 12 1
def d15 : DefI := ⟨adR "classmethod" "Form" "leaf", "leaf", "Form.leaf", defArgs st15, defBody st15, defScope st15, ["cls", "word", "number"], ["cls", "word", "number"], ir15, none⟩
def ir16 : S := .cons (.ret (.met 12 (.var 0) (.cons (.lit (.str s_number)) (.cons (.var 1) (.nil))))) (.nil)
def st16 : Stmt := subS P 12 2
def d16 : DefI := ⟨adR "classmethod" "Form" "number", "number", "Form.number", defArgs st16, defBody st16, defScope st16, ["cls", "n"], ["cls", "n"], ir16, none⟩
def ir17 : S := .cons (.ret (.met 12 (.var 0) (.cons (.lit (.str s_column)) (.cons (.var 1) (.nil))))) (.nil)
def st17 : Stmt := subS P 12 3
def d17 : DefI := ⟨adR "classmethod" "Form" "column", "column", "Form.column", defArgs st17, defBody st17, defScope st17, ["cls", "c"], ["cls", "c"], ir17, none⟩
def ir18 : S := .cons (.ret (.met 12 (.var 0) (.cons (.lit (.str s_kept)) (.cons (.var 1) (.nil))))) (.nil)
def st18 : Stmt := subS P 12 4
def d18 : DefI := ⟨adR "classmethod" "Form" "kept", "kept", "Form.kept", defArgs st18, defBody st18, defScope st18, ["cls", "t"], ["cls", "t"], ir18, none⟩
def ir19 : S := .cons (.ret (.mk 3 (.cons (.tup (.cons (.lit (.str s_given)) (.nil))) (.nil)))) (.nil)
def st19 : Stmt := subS P 12 5
def d19 : DefI := ⟨adR "staticmethod" "Form" "given", "given", "Form.given", defArgs st19, defBody st19, defScope st19, [], [], ir19, none⟩
def ir20 : S := .cons (.ret (.mk 3 (.cons (.tup (.cons (.lit (.str s_setting)) (.nil))) (.nil)))) (.nil)
def st20 : Stmt := subS P 12 6
def d20 : DefI := ⟨adR "staticmethod" "Form" "setting", "setting", "Form.setting", defArgs st20, defBody st20, defScope st20, [], [], ir20, none⟩
def ir21 : S := .cons (.ret (.fb .tuple (.cons (.fc .sorted (.cons (.sc (.nm 2) [2] (.seq (.call 2 (.cons (.att 0 (.var 0)) (.nil)))) (.cmp .Eq (.sub (.var 2) (.lit (.int 0))) (.var 1)) (.sub (.var 2) (.lit (.int 1)))) (.nil))) (.nil)))) (.nil)
def st21 : Stmt := subS P 12 7
def d21 : DefI := ⟨adM "Form" "numbers_of", "numbers_of", "Form.numbers_of", defArgs st21, defBody st21, defScope st21, ["self", "word", "row"], ["self", "word"], ir21, none⟩
def ir22 : S := .cons (.ret (.met 13 (.var 0) (.cons (.lit (.str s_call)) (.nil)))) (.nil)
def st22 : Stmt := subS P 12 8
def d22 : DefI := ⟨adR "property" "Form" "calls", "calls", "Form.calls", defArgs st22, defBody st22, defScope st22, ["self"], ["self"], ir22, none⟩
def ir23 : S := .cons (.ret (.met 13 (.var 0) (.cons (.lit (.str s_column)) (.nil)))) (.nil)
def st23 : Stmt := subS P 12 9
def d23 : DefI := ⟨adR "property" "Form" "columns", "columns", "Form.columns", defArgs st23, defBody st23, defScope st23, ["self"], ["self"], ir23, none⟩
def ir24 : S := .cons (.ret (.met 13 (.var 0) (.cons (.lit (.str s_kept)) (.nil)))) (.nil)
def st24 : Stmt := subS P 12 10
def d24 : DefI := ⟨adR "property" "Form" "reads", "reads", "Form.reads", defArgs st24, defBody st24, defScope st24, ["self"], ["self"], ir24, none⟩
def ir25 : S := .cons (.ret (.mk 3 (.cons (.tup (.cons (.lit (.str s_sum)) (.cons (.att 0 (.var 0)) (.cons (.call 3 (.cons (.var 1) (.nil))) (.nil))))) (.nil)))) (.nil)
def st25 : Stmt := subS P 12 11
def d25 : DefI := ⟨adM "Form" "__add__", "__add__", "Form.__add__", defArgs st25, defBody st25, defScope st25, ["self", "other"], ["self", "other"], ir25, none⟩
def ir26 : S := .cons (.ret (.mk 3 (.cons (.tup (.cons (.lit (.str s_sum)) (.cons (.call 3 (.cons (.var 1) (.nil))) (.cons (.att 0 (.var 0)) (.nil))))) (.nil)))) (.nil)
def st26 : Stmt := subS P 12 12
def d26 : DefI := ⟨adM "Form" "__radd__", "__radd__", "Form.__radd__", defArgs st26, defBody st26, defScope st26, ["self", "other"], ["self", "other"], ir26, none⟩
def ir27 : S := .cons (.ret (.mk 3 (.cons (.tup (.cons (.lit (.str s_less)) (.cons (.att 0 (.var 0)) (.cons (.call 3 (.cons (.var 1) (.nil))) (.nil))))) (.nil)))) (.nil)
def st27 : Stmt := subS P 12 13
def d27 : DefI := ⟨adM "Form" "__sub__", "__sub__", "Form.__sub__", defArgs st27, defBody st27, defScope st27, ["self", "other"], ["self", "other"], ir27, none⟩
def ir28 : S := .cons (.ret (.mk 3 (.cons (.tup (.cons (.lit (.str s_less)) (.cons (.call 3 (.cons (.var 1) (.nil))) (.cons (.att 0 (.var 0)) (.nil))))) (.nil)))) (.nil)
def st28 : Stmt := subS P 12 14
def d28 : DefI := ⟨adM "Form" "__rsub__", "__rsub__", "Form.__rsub__", defArgs st28, defBody st28, defScope st28, ["self", "other"], ["self", "other"], ir28, none⟩
def ir29 : S := .cons (.ret (.mk 3 (.cons (.tup (.cons (.lit (.str s_times)) (.cons (.att 0 (.var 0)) (.cons (.call 3 (.cons (.var 1) (.nil))) (.nil))))) (.nil)))) (.nil)
def st29 : Stmt := subS P 12 15
def d29 : DefI := ⟨adM "Form" "__mul__", "__mul__", "Form.__mul__", defArgs st29, defBody st29, defScope st29, ["self", "other"], ["self", "other"], ir29, none⟩
def ir30 : S := .cons (.ret (.mk 3 (.cons (.tup (.cons (.lit (.str s_times)) (.cons (.call 3 (.cons (.var 1) (.nil))) (.cons (.att 0 (.var 0)) (.nil))))) (.nil)))) (.nil)
def st30 : Stmt := subS P 12 16
def d30 : DefI := ⟨adM "Form" "__rmul__", "__rmul__", "Form.__rmul__", defArgs st30, defBody st30, defScope st30, ["self", "other"], ["self", "other"], ir30, none⟩
def ir31 : S := .cons (.ret (.mk 3 (.cons (.tup (.cons (.lit (.str s_less)) (.cons (.tup (.cons (.lit (.str s_number)) (.cons (.lit (.int 0)) (.nil)))) (.cons (.att 0 (.var 0)) (.nil))))) (.nil)))) (.nil)
def st31 : Stmt := subS P 12 17
def d31 : DefI := ⟨adM "Form" "__neg__", "__neg__", "Form.__neg__", defArgs st31, defBody st31, defScope st31, ["self"], ["self"], ir31, none⟩
def ir32 : S := .cons (.ret (.mk 3 (.cons (.tup (.cons (.lit (.str s_same)) (.cons (.att 0 (.var 0)) (.cons (.call 3 (.cons (.var 1) (.nil))) (.nil))))) (.nil)))) (.nil)
def st32 : Stmt := subS P 12 18
def d32 : DefI := ⟨adM "Form" "same", "same", "Form.same", defArgs st32, defBody st32, defScope st32, ["self", "other"], ["self", "other"], ir32, none⟩
def ir33 : S := .cons (.ret (.mk 3 (.cons (.tup (.cons (.lit (.str s_when)) (.cons (.att 0 (.var 0)) (.cons (.call 3 (.cons (.var 1) (.nil))) (.cons (.call 3 (.cons (.var 2) (.nil))) (.nil)))))) (.nil)))) (.nil)
def st33 : Stmt := subS P 12 19
def d33 : DefI := ⟨adM "Form" "then", "then", "Form.then", defArgs st33, defBody st33, defScope st33, ["self", "one", "other"], ["self", "one", "other"], ir33, none⟩
def ir34 : S := .cons (.iff (.not (.call 0 (.cons (.var 1) (.cons (.lit (.int 0)) (.cons (.sub (.glb 1) (.lit (.str s_n))) (.nil)))))) (.cons (.rse 2) (.nil)) (.nil)) (.cons (.ret (.mk 3 (.cons (.tup (.cons (.lit (.str s_call)) (.cons (.var 1) (.cons (.att 0 (.var 0)) (.nil))))) (.nil)))) (.nil))
def st34 : Stmt := subS P 12 20
def d34 : DefI := ⟨adM "Form" "by", "by", "Form.by", defArgs st34, defBody st34, defScope st34, ["self", "k"], ["self", "k"], ir34, none⟩
def ir35 : S := .cons (.ret (.and (.isi (.cons (.var 1) (.cons (.ty .str) (.nil)))) (.isin false (.var 1) (.lc0 (.nm 2) [2] (.seq (.call 2 (.cons (.att 0 (.var 0)) (.nil)))) (.sub (.var 2) (.lit (.int 0))))))) (.nil)
def st35 : Stmt := subS P 12 21
def d35 : DefI := ⟨adM "Form" "__contains__", "__contains__", "Form.__contains__", defArgs st35, defBody st35, defScope st35, ["self", "word", "row"], ["self", "word"], ir35, none⟩
def ir36 : S := .cons (.ret (.len (.cons (.call 2 (.cons (.att 0 (.var 0)) (.nil))) (.nil)))) (.nil)
def st36 : Stmt := subS P 12 22
def d36 : DefI := ⟨adM "Form" "__len__", "__len__", "Form.__len__", defArgs st36, defBody st36, defScope st36, ["self"], ["self"], ir36, none⟩
def ir37 : S := .cons (.ret (.and (.isi (.cons (.var 1) (.cons (.gcl 3) (.nil)))) (.cmp .Eq (.att 0 (.var 0)) (.att 0 (.var 1))))) (.nil)
def st37 : Stmt := subS P 12 23
def d37 : DefI := ⟨adM "Form" "__eq__", "__eq__", "Form.__eq__", defArgs st37, defBody st37, defScope st37, ["self", "other"], ["self", "other"], ir37, none⟩
def l0 : NfI := ⟨["number", "one"], [], 2, .bin .Add (.var 1) (.var 0)⟩
def l1 : NfI := ⟨["number", "one"], [], 2, .bin .Add (.var 0) (.var 1)⟩
def l2 : NfI := ⟨["number", "one"], [], 2, .bin .Sub (.var 1) (.var 0)⟩
def l3 : NfI := ⟨["number", "one"], [], 2, .bin .Sub (.var 0) (.var 1)⟩
def l4 : NfI := ⟨["number", "one"], [], 2, .bin .Mult (.var 1) (.var 0)⟩
def l5 : NfI := ⟨["number", "one"], [], 2, .bin .Mult (.var 0) (.var 1)⟩
def l6 : NfI := ⟨["number", "one"], [], 2, .met 4 (.var 1) (.cons (.var 0) (.nil))⟩
def l7 : NfI := ⟨["number", "one"], [], 2, .met 5 (.var 1) (.cons (.var 0) (.cons (.var 1) (.nil)))⟩
def l8 : NfI := ⟨["number", "one"], [], 2, .met 5 (.var 1) (.cons (.var 1) (.cons (.var 0) (.nil)))⟩
def l9 : NfI := ⟨["number", "one"], [], 2, .met 6 (.var 1) (.cons (.var 0) (.nil))⟩
def l10 : NfI := ⟨["one"], [], 1, .neg (.var 0)⟩
def l11 : NfI := ⟨["one", "two"], [], 2, .bin .Add (.var 0) (.var 1)⟩
def l12 : NfI := ⟨["one", "two"], [], 2, .bin .Sub (.var 0) (.var 1)⟩
def l13 : NfI := ⟨["one", "two"], [], 2, .bin .Mult (.var 0) (.var 1)⟩
def l14 : NfI := ⟨["one", "two"], [], 2, .met 4 (.var 0) (.cons (.var 1) (.nil))⟩
def l15 : NfI := ⟨["one", "two"], [], 2, .met 5 (.var 0) (.cons (.var 1) (.cons (.var 0) (.nil)))⟩
def c0 : ClI := ⟨"MeaningError", [], true, none, [], [], none, none, none, none, [none, none, none, none, none, none, none, none, none, none, none, none, none, none], [none, none, none, none, none, none, none, none, none, none, none, none, none, none], [none, none, none, none, none, none, none, none, none, none, none, none, none, none], [none, none, none, none, none, none, none, none, none, none, none, none, none, none]⟩
def c1 : ClI := ⟨"BadForm", [], true, none, [], [], none, none, none, none, [none, none, none, none, none, none, none, none, none, none, none, none, none, none], [none, none, none, none, none, none, none, none, none, none, none, none, none, none], [none, none, none, none, none, none, none, none, none, none, none, none, none, none], [none, none, none, none, none, none, none, none, none, none, none, none, none, none]⟩
def c2 : ClI := ⟨"BadNumber", [], true, none, [], [], none, none, none, none, [none, none, none, none, none, none, none, none, none, none, none, none, none, none], [none, none, none, none, none, none, none, none, none, none, none, none, none, none], [none, none, none, none, none, none, none, none, none, none, none, none, none, none], [none, none, none, none, none, none, none, none, none, none, none, none, none, none]⟩
def c3 : ClI := ⟨"Form", ["tree"], false, some 14, [(.Add, 25), (.Sub, 27), (.Mult, 29)], [(.Add, 26), (.Sub, 28), (.Mult, 30)], some 37, some 35, some 36, some 31, [some 0, none, none, none, none, none, none, none, none, none, none, none, none, none], [none, some 24, some 23, some 22, none, none, none, none, none, none, none, none, none, none], [none, none, none, none, some 32, some 33, some 34, none, none, none, none, none, none, some 21], [none, none, none, none, none, none, none, some (true, 16), some (true, 17), some (true, 18), some (false, 20), some (false, 19), some (true, 15), none]⟩
def DS_0 : List (DefI) := [d0, d1, d2, d3, d4, d5, d6, d7, d8, d9, d10, d11, d12, d13, d14, d15, d16, d17, d18, d19, d20, d21, d22, d23, d24]
def DS_1 : List (DefI) := [d25, d26, d27, d28, d29, d30, d31, d32, d33, d34, d35, d36, d37]
def DS : List (DefI) := DS_0 ++ DS_1
def LS : List (NfI) := [l0, l1, l2, l3, l4, l5, l6, l7, l8, l9, l10, l11, l12, l13, l14, l15]
def CS : List (ClI) := [c0, c1, c2, c3]
def FN : List (Str) := ["is_between", "count_in", "trees_in", "tree_of", "_law_number", "_law_tree", "_law_any_tree", "_law_in", "_law_heard", "_law_due", "_law_one_right", "_law_numbers_right", "_law_pair_right", "law"]
def NM : List (List (Nat × Nat × Str)) := [[(188, 22, "_law_numbers_right.<locals>.<lambda>"), (190, 22, "_law_numbers_right.<locals>.<lambda>"), (192, 22, "_law_numbers_right.<locals>.<lambda>"), (194, 22, "_law_numbers_right.<locals>.<lambda>"), (196, 22, "_law_numbers_right.<locals>.<lambda>"), (198, 22, "_law_numbers_right.<locals>.<lambda>"), (200, 22, "_law_numbers_right.<locals>.<lambda>"), (202, 22, "_law_numbers_right.<locals>.<lambda>"), (204, 22, "_law_numbers_right.<locals>.<lambda>"), (206, 22, "_law_numbers_right.<locals>.<lambda>"), (208, 22, "_law_numbers_right.<locals>.<lambda>")], [(210, 18, "_law_pair_right.<locals>.<lambda>"), (212, 18, "_law_pair_right.<locals>.<lambda>"), (214, 18, "_law_pair_right.<locals>.<lambda>"), (216, 18, "_law_pair_right.<locals>.<lambda>"), (218, 18, "_law_pair_right.<locals>.<lambda>")]]
def IC : List (List (Option Bool)) := [[none, none, none, none], [none, none, none, none], [none, none, none, none], [none, none, none, some true]]
def XI : List (List (Option Bool)) := [[some true, some false, some false, none], [some true, some true, some false, none], [some true, some false, some true, none], [none, none, none, none]]
def GL : List D := [.dct [(.str ⟨#[110, 117, 109, 98, 101, 114]⟩, .str ⟨#[110]⟩), (.str ⟨#[103, 105, 118, 101, 110]⟩, .str ⟨#[]⟩), (.str ⟨#[115, 101, 116, 116, 105, 110, 103]⟩, .str ⟨#[]⟩), (.str ⟨#[99, 111, 108, 117, 109, 110]⟩, .str ⟨#[99]⟩), (.str ⟨#[107, 101, 112, 116]⟩, .str ⟨#[99]⟩), (.str ⟨#[99, 97, 108, 108]⟩, .str ⟨#[110, 102]⟩), (.str ⟨#[115, 117, 109]⟩, .str ⟨#[102, 102]⟩), (.str ⟨#[108, 101, 115, 115]⟩, .str ⟨#[102, 102]⟩), (.str ⟨#[116, 105, 109, 101, 115]⟩, .str ⟨#[102, 102]⟩), (.str ⟨#[115, 97, 109, 101]⟩, .str ⟨#[102, 102]⟩), (.str ⟨#[119, 104, 101, 110]⟩, .str ⟨#[102, 102, 102]⟩)], .dct [(.str ⟨#[110]⟩, .int 2), (.str ⟨#[99]⟩, .int 1)], .int 12]
def G : Pg := ⟨DS, LS, CS, ["all", "any", "bool", "int", "isinstance", "len", "range", "set", "sorted", "str", "sum", "tuple", "zip"], ["SIGNS", "MOST", "MOST_FORMS"], GL, FN, ["tree", "reads", "columns", "calls", "same", "then", "by", "number", "column", "kept", "setting", "given", "leaf", "numbers_of"], NM, IC, XI⟩
def loose : List Str := (["MeaningError", "BadForm", "BadNumber", "SIGNS", "MOST", "MOST_FORMS", "is_between", "count_in", "trees_in", "tree_of", "Form", "_law_number", "_law_tree", "_law_any_tree", "_law_in", "_law_heard", "_law_due", "_law_one_right", "_law_numbers_right", "_law_pair_right"] : List Str)
abbrev iLaw : Nat := 23
abbrev kLaw : Nat := 13
theorem ck : ckB G = true := by decide +kernel
end K01
namespace K01
open PySem PySem.Spec PyProof.Rows L2 Q
/-- a store whose things lean on nothing beyond it -/
def Wf (μ : Sto) : Prop := fitS μ.length μ = true
theorem trim_same {μ : Sto} {d : D} (w : Wf μ) (h : fitD μ.length d = true) : trimR μ.length (.ok d μ) = .ok d μ := by
  have w : fitS μ.length μ = true := w
  simp [trimR, h, w]
theorem trim_ex {μ : Sto} {x : Ex} (w : Wf μ) : trimR μ.length (.ex x μ) = .ex x μ := by
  have w : fitS μ.length μ = true := w
  simp [trimR, w]
theorem trim_push {μ τ : Sto} {d : D} (w : Wf μ) (h : fitD μ.length d = true) : trimR μ.length (.ok d (μ ++ τ)) = .ok d μ := by
  have w : fitS μ.length μ = true := w
  simp [trimR, h, w]
theorem trim_push_ex {μ τ : Sto} {x : Ex} (w : Wf μ) : trimR μ.length (.ex x (μ ++ τ)) = .ex x μ := by
  have w : fitS μ.length μ = true := w
  simp [trimR, w]
theorem run_def {n k : Nat} {d : DefI} {ds : List D} {μ : Sto} (hd : G.defs[k]? = some d) (hl : ds.length = d.ps.length) : (G.g (n + 1)).Φ k ds μ = trimR μ.length (outO (evS (G.g n) d.ir (startS d.N.length ds) μ)) := by
  show runD (G.g n) G.defs[k]? ds μ = _
  rw [hd]
  show trimR μ.length (if _ then _ else _) = _
  rw [if_pos hl]
/-- a def that hands back something and leaves the store as it was -/
theorem run_ok {n k : Nat} {d : DefI} {ds : List D} {μ : Sto} {r : D} (hd : G.defs[k]? = some d) (hl : ds.length = d.ps.length) (w : Wf μ) (hr : fitD μ.length r = true) (h : outO (evS (G.g n) d.ir (startS d.N.length ds) μ) = .ok r μ) : (G.g (n + 1)).Φ k ds μ = .ok r μ := by
  rw [run_def hd hl, h]
  exact trim_same w hr
/-- is_between of an int -/
theorem between (n : Nat) (i lo hi : Int) {μ : Sto} (w : Wf μ) : (G.g (n + 1)).Φ 0 [.int i, .int lo, .int hi] μ = .ok (.bl (decide (lo ≤ i) && decide (i ≤ hi))) μ := by
  refine run_ok (d := d0) rfl rfl w rfl ?_
  show outO (evS (G.g n) ir0 (startS 3 [.int i, .int lo, .int hi]) μ) = _
  simp [ir0, evS, evE, evL, subTy, chnR, leR, cmpD]
  by_cases h : lo ≤ i <;> simp [h]
/-! ### trees -/
inductive Lf where
  | giv | stg | num (i : Fin 3) | col (i : Fin 2) | kep (i : Fin 2)
inductive Tr where
  | lf (l : Lf) | cal (k : Fin 3) (t : Tr) | bin (o : Fin 4) (a b : Tr) | whe (a b c : Tr)
def opW : Fin 4 → Str
  | 0 => s_sum
  | 1 => s_less
  | 2 => s_times
  | 3 => s_same
def Lf.wd : Lf → Str
  | .giv => s_given
  | .stg => s_setting
  | .num _ => s_number
  | .col _ => s_column
  | .kep _ => s_kept
def Lf.tl : Lf → List D
  | .giv => []
  | .stg => []
  | .num i => [.int i.val]
  | .col i => [.int i.val]
  | .kep i => [.int i.val]
def Tr.wd : Tr → Str
  | .lf l => l.wd
  | .cal _ _ => s_call
  | .bin o _ _ => opW o
  | .whe _ _ _ => s_when
def Tr.toD : Tr → D
  | .lf l => .tup (.str l.wd :: l.tl)
  | .cal k t => .tup [.str s_call, .int k.val, t.toD]
  | .bin o a b => .tup [.str (opW o), a.toD, b.toD]
  | .whe a b c => .tup [.str s_when, a.toD, b.toD, c.toD]
def Tr.tl : Tr → List D
  | .lf l => l.tl
  | .cal k t => [.int k.val, t.toD]
  | .bin o a b => [a.toD, b.toD]
  | .whe a b c => [a.toD, b.toD, c.toD]
theorem Tr.toD_eq (t : Tr) : t.toD = .tup (.str t.wd :: t.tl) := by cases t <;> rfl
def Tr.size : Tr → Nat
  | .lf _ => 1
  | .cal _ t => 1 + t.size
  | .bin _ a b => 1 + a.size + b.size
  | .whe a b c => 1 + a.size + b.size + c.size
def Tr.dep : Tr → Nat
  | .lf _ => 1
  | .cal _ t => 1 + t.dep
  | .bin _ a b => 1 + max a.dep b.dep
  | .whe a b c => 1 + max a.dep (max b.dep c.dep)
theorem dep_pos (t : Tr) : 1 ≤ t.dep := by cases t <;> simp [Tr.dep] <;> omega
theorem size_pos (t : Tr) : 1 ≤ t.size := by cases t <;> simp [Tr.size] <;> omega
theorem dep_size (t : Tr) : t.dep ≤ t.size := by
  induction t with
  | lf l => simp [Tr.dep, Tr.size]
  | cal k t ih => simp only [Tr.dep, Tr.size]; omega
  | bin o a b i1 i2 => simp only [Tr.dep, Tr.size]; omega
  | whe a b c i1 i2 i3 => simp only [Tr.dep, Tr.size]; omega
/-! ### a tree as data -/
section
variable {μ : Sto} (t : Tr)
theorem tag_t : tagOf μ t.toD = some (.b .tuple) := by rw [t.toD_eq]; rfl
theorem ins_t : insOf μ t.toD = none := by rw [t.toD_eq]; rfl
theorem view_t : view μ t.toD = t.toD := by rw [t.toD_eq]; rfl
theorem isP_t : isP t.toD = true := by rw [t.toD_eq]; rfl
theorem isA_t : isA t.toD = true := by rw [t.toD_eq]; rfl
theorem isV_t : isV t.toD = true := by rw [t.toD_eq]; rfl
theorem fit_t (n : Nat) : fitD n t.toD = true := by rw [t.toD_eq]; rfl
theorem sub0_t : subD μ t.toD (.int 0) = some (.str t.wd) := by
  rw [t.toD_eq]
  show L2.atI (D.str t.wd :: t.tl) 0 = _
  simp [L2.atI, L2.ixN]
theorem len_t : lenD μ t.toD = some (t.tl.length + 1) := by rw [t.toD_eq]; rfl
theorem cut1 {α : Type} (x : α) (xs : List α) : cutL (x :: xs) (some 1) none = xs := by
  unfold cutL
  have e : HT.sIx (x :: xs).length 0 (some 1) = 1 := by
    show (if (1 : Int) < 0 then ((1 : Int) + ((x :: xs).length : Int)).toNat else min (1 : Int).toNat (x :: xs).length) = 1
    rw [if_neg (by decide)]
    simp
  rw [e, HT.sIx_none]
  simp
theorem cut_t : cutR t.toD (some 1) none μ = .ok (.tup t.tl) μ := by
  rw [t.toD_eq]
  show R.ok (D.tup (cutL (D.str t.wd :: t.tl) (some 1) none)) μ = _
  rw [cut1]
def Tr.py : Tr → PyData
  | .lf .giv => .tuple [.str s_given]
  | .lf .stg => .tuple [.str s_setting]
  | .lf (.num i) => .tuple [.str s_number, .int i.val]
  | .lf (.col i) => .tuple [.str s_column, .int i.val]
  | .lf (.kep i) => .tuple [.str s_kept, .int i.val]
  | .cal k t => .tuple [.str s_call, .int k.val, t.py]
  | .bin o a b => .tuple [.str (opW o), a.py, b.py]
  | .whe a b c => .tuple [.str s_when, a.py, b.py, c.py]
theorem py_t : t.toD.py = some t.py := by
  induction t with
  | lf l => cases l <;> rfl
  | cal k t ih => simp only [Tr.toD, Tr.py, D.py, D.pys, ih]; rfl
  | bin o a b i1 i2 => simp only [Tr.toD, Tr.py, D.py, D.pys, i1, i2]; rfl
  | whe a b c i1 i2 i3 => simp only [Tr.toD, Tr.py, D.py, D.pys, i1, i2, i3]; rfl
theorem lay_t : t.py.canLay0 = true := by
  induction t with
  | lf l => cases l <;> (simp only [Tr.py, PyData.canLay0, PyData.canLayAll0]; decide +kernel)
  | cal k t ih => simp only [Tr.py, PyData.canLay0, PyData.canLayAll0, ih]; decide +kernel
  | bin o a b i1 i2 => simp only [Tr.py, PyData.canLay0, PyData.canLayAll0, i1, i2]; revert o; decide +kernel
  | whe a b c i1 i2 i3 => simp only [Tr.py, PyData.canLay0, PyData.canLayAll0, i1, i2, i3]; decide +kernel
theorem pydep_t : t.py.depth ≤ t.dep := by
  induction t with
  | lf l => cases l <;> simp [Tr.py, PyData.depth, PyData.depthAll, Tr.dep]
  | cal k t ih => simp only [Tr.py, PyData.depth, PyData.depthAll, Tr.dep]; omega
  | bin o a b i1 i2 => simp only [Tr.py, PyData.depth, PyData.depthAll, Tr.dep]; omega
  | whe a b c i1 i2 i3 => simp only [Tr.py, PyData.depth, PyData.depthAll, Tr.dep]; omega
theorem shp_t (h : t.dep ≤ 60) : SeqAt.shaped t.py = true := by
  unfold SeqAt.shaped
  rw [lay_t, Bool.true_and, decide_eq_true_eq]
  have := pydep_t t
  omega
theorem eq_tt (a b : Tr) (ha : a.dep ≤ 60) (hb : b.dep ≤ 60) : eqD μ a.toD b.toD = some (PyData.eqv a.py b.py) := by
  unfold eqD
  rw [view_t, view_t, py_t, py_t]
  simp [shp_t a ha, shp_t b hb]
theorem eq_self (a : Tr) (ha : a.dep ≤ 60) : eqD μ a.toD a.toD = some true := by rw [eq_tt a a ha ha, SeqAt.eqv_refl _ (lay_t a)]
theorem py_tup : ∃ ps, t.py = .tuple (.str t.wd :: ps) := by
  cases t with
  | lf l => cases l <;> exact ⟨_, rfl⟩
  | _ => exact ⟨_, rfl⟩
theorem eq_nil (h : t.dep ≤ 60) : eqD μ t.toD (.tup []) = some false := by
  unfold eqD
  rw [view_t, py_t]
  show (if (SeqAt.shaped t.py && SeqAt.shaped (.tuple [])) = true then some (PyData.eqv t.py (.tuple [])) else none) = _
  obtain ⟨ps, e⟩ := py_tup t
  rw [shp_t t h, if_pos (by decide +kernel), e]
  rfl
end
def cnt (t : Tr) (room : Int) : Int := if (t.size : Int) ≤ room then t.size else 0
/-- the signs of a word -/
def Tr.sig : Tr → Str
  | .lf .giv => s_e
  | .lf .stg => s_e
  | .lf (.num _) => s_n
  | .lf (.col _) => ⟨#[99]⟩
  | .lf (.kep _) => ⟨#[99]⟩
  | .cal _ _ => ⟨#[110, 102]⟩
  | .bin _ _ _ => ⟨#[102, 102]⟩
  | .whe _ _ _ => ⟨#[102, 102, 102]⟩
def SG : D := GL.getD 0 .non
theorem gl0 (n : Nat) : (G.g n).gl 0 = SG := by cases n <;> rfl
theorem sig_t {μ : Sto} (t : Tr) : subD μ SG (.str t.wd) = some (.str t.sig) := by
  cases t with
  | lf l => cases l <;> rfl
  | cal k t => rfl
  | bin o a b => revert o; exact fun o => match o with | 0 => rfl | 1 => rfl | 2 => rfl | 3 => rfl
  | whe a b c => rfl
theorem in_sig {μ : Sto} (t : Tr) : inD μ (.str t.wd) SG = some true := by
  cases t with
  | lf l => cases l <;> rfl
  | cal k t => rfl
  | bin o a b => revert o; exact fun o => match o with | 0 => rfl | 1 => rfl | 2 => rfl | 3 => rfl
  | whe a b c => rfl
theorem sig_len (t : Tr) : t.sig.length = t.tl.length := by
  cases t with
  | lf l => cases l <;> rfl
  | _ => rfl
theorem zip_eq {μ : Sto} {x y : D} {xs ys : List D} (h1 : itemsF x = some xs) (h2 : itemsF y = some ys) : zipR [x, y] μ = .ok (zipD xs ys) μ := by
  unfold zipR
  dsimp only
  rw [h1, h2]
theorem sigs_t (t : Tr) : itemsF (.str t.sig) = some (t.sig.cps.toList.map fun c => .str ⟨#[c]⟩) := rfl
/-- what the loop of count_in walks -/
def Tr.zs (t : Tr) : List D := zipD (t.sig.cps.toList.map fun c => .str ⟨#[c]⟩) t.tl
theorem lim_line' : (lim : Nat) = 16777216 := rfl
theorem sig_lim (t : Tr) : t.sig.length ≤ lim := by
  cases t with
  | lf l => cases l <;> exact Nat.le_of_ble_eq_true rfl
  | _ => exact Nat.le_of_ble_eq_true rfl
theorem slen {μ : Sto} (t : Tr) : lenD μ (.str t.sig) = some t.tl.length := by
  show (if t.sig.length ≤ lim then some t.sig.length else none) = _
  rw [if_pos (sig_lim t), sig_len]
theorem count_start (t : Tr) (n : Nat) (room : Int) {μ : Sto} (hd : t.dep ≤ 60) (hr : ¬ room < 1) : evS (G.g n) ir1 (startS 7 [t.toD, .int room]) μ = thenO (forO (.tp (.cons (.nm 4) (.cons (.nm 5) .nil))) (evS (G.g n) b0) t.zs [some t.toD, some (.int room), some (.str t.wd), some (.int 1), none, none, none] μ) (evS (G.g n) (.cons (.ret (.var 3)) .nil)) := by
  have e1 : zipR [.str t.sig, .tup t.tl] μ = .ok t.zs μ := zip_eq rfl rfl
  simp [ir1, evS, evE, evL, evI, subTy, hr, tag_t, sub0_t, cmp_eq (eq_nil t hd), gl0, sig_t, in_some (in_sig t), len_some (len_t t), len_some (slen t), isNil, cut_t, e1, List.replicate]
theorem eq_w {μ : Sto} {a c : Str} {eq : Nat → Option Nat} {Φ : Nat → List D → Sto → R D} (ha : PyData.strOk a = true) (hc : PyData.strOk c = true) : cmpR .Eq eq Φ (.str a) (.str c) μ = .ok (.bl (a == c)) μ := cmp_eq (eq_str ha hc)
theorem body_f {n : Nat} {a : Tr} {room f k : Int} {μ : Sto} {x y : Option D} {o : Option D} (h : (G.g n).Φ 1 [a.toD, .int (room - f)] μ = .ok (.int k) μ) :
    evS (G.g n) b0 [x, some (.int room), y, some (.int f), some (.str s_f), some a.toD, o] μ = if k == 0 then .rt (.int 0) μ else .nx [x, some (.int room), y, some (.int (f + k)), some (.str s_f), some a.toD, some (.int k)] μ := by
  have e : ((s_f == s_f : Bool)) = true := rfl
  simp [b0, evS, evE, evL, eq_w (show PyData.strOk s_f = true by decide +kernel) (show PyData.strOk s_f = true by decide +kernel), isA_t, h]
def MO1 : D := GL.getD 1 .non
theorem gl1 (n : Nat) : (G.g n).gl 1 = MO1 := by cases n <;> rfl
theorem body_c {n : Nat} {room f i j : Int} {μ : Sto} {x y : Option D} {o : Option D} {z : Str} (w : Wf μ) (hz : PyData.strOk z = true) (hf : (z == s_f) = false) (hm : subD μ MO1 (.str z) = some (.int j)) (h0 : 0 ≤ i) (hj : i ≤ j) :
    evS (G.g (n + 1)) b0 [x, some (.int room), y, some (.int f), some (.str z), some (.int i), o] μ = .nx [x, some (.int room), y, some (.int f), some (.str z), some (.int i), o] μ := by
  simp [b0, evS, evE, evL, eq_w hz (show PyData.strOk s_f = true by decide +kernel), hf, gl1, hm, between n i 0 j w, h0, hj]
theorem cnt_0 {t : Tr} {r : Int} : (cnt t r == 0) = !decide ((t.size : Int) ≤ r) := by
  have := size_pos t
  unfold cnt
  by_cases h : (t.size : Int) ≤ r
  · rw [if_pos h, decide_eq_true h]
    simp
    omega
  · rw [if_neg h, decide_eq_false h]
    rfl
theorem count (t : Tr) : ∀ (n : Nat) (room : Int) {μ : Sto}, t.dep < n → t.dep ≤ 60 → Wf μ → (G.g n).Φ 1 [t.toD, .int room] μ = .ok (.int (cnt t room)) μ := by
  have main : ∀ (t : Tr) (n : Nat) (room : Int) {μ : Sto}, t.dep < n → t.dep ≤ 60 → Wf μ → (¬ room < 1 → ∃ n', n = n' + 1 ∧ outO (thenO (forO (.tp (.cons (.nm 4) (.cons (.nm 5) .nil))) (evS (G.g n') b0) t.zs [some t.toD, some (.int room), some (.str t.wd), some (.int 1), none, none, none] μ) (evS (G.g n') (.cons (.ret (.var 3)) .nil))) = .ok (.int (cnt t room)) μ) → (G.g n).Φ 1 [t.toD, .int room] μ = .ok (.int (cnt t room)) μ := by
    intro t n room μ hn hd w h
    by_cases hr : room < 1
    · obtain ⟨n, rfl⟩ : ∃ m, n = m + 1 := ⟨n - 1, by omega⟩
      refine run_ok (d := d1) rfl rfl w rfl ?_
      show outO (evS (G.g n) ir1 (startS 7 [t.toD, .int room]) μ) = _
      have hp := size_pos t
      simp [ir1, evS, evE, evL, hr, cnt, show ¬ ((t.size : Int) ≤ room) by omega]
    · obtain ⟨n, rfl, e⟩ := h hr
      refine run_ok (d := d1) rfl rfl w rfl ?_
      show outO (evS (G.g n) ir1 (startS 7 [t.toD, .int room]) μ) = _
      rw [count_start t n room hd hr, e]
  induction t with
  | lf l =>
    intro n room μ hn hd w
    refine main _ n room hn hd w fun hr => ?_
    obtain ⟨n, rfl⟩ : ∃ m, n = m + 2 := ⟨n - 2, by simp [Tr.dep] at hn; omega⟩
    refine ⟨n + 1, rfl, ?_⟩
    have h1 : (1 : Int) ≤ room := by omega
    cases l with
    | giv => simp [Tr.zs, Tr.sig, Tr.tl, Lf.tl, zipD, evS, evE, cnt, Tr.size, h1]
    | stg => simp [Tr.zs, Tr.sig, Tr.tl, Lf.tl, zipD, evS, evE, cnt, Tr.size, h1]
    | num i =>
      have hi := i.isLt
      show outO (thenO (forO _ _ [.tup [.str s_n, .int i.val]] _ _) _) = _
      rw [for_nx (sl1 := [some (Tr.lf (.num i)).toD, some (.int room), some (.str (Tr.lf (.num i)).wd), some (.int 1), some (.str s_n), some (.int i.val), none]) rfl (body_c (j := 2) w (by decide +kernel) rfl rfl (by omega) (by omega))]
      simp [evS, evE, cnt, Tr.size, h1]
    | col i =>
      have hi := i.isLt
      show outO (thenO (forO _ _ [.tup [.str ⟨#[99]⟩, .int i.val]] _ _) _) = _
      rw [for_nx (sl1 := [some (Tr.lf (.col i)).toD, some (.int room), some (.str (Tr.lf (.col i)).wd), some (.int 1), some (.str ⟨#[99]⟩), some (.int i.val), none]) rfl (body_c (j := 1) w (by decide +kernel) rfl rfl (by omega) (by omega))]
      simp [evS, evE, cnt, Tr.size, h1]
    | kep i =>
      have hi := i.isLt
      show outO (thenO (forO _ _ [.tup [.str ⟨#[99]⟩, .int i.val]] _ _) _) = _
      rw [for_nx (sl1 := [some (Tr.lf (.kep i)).toD, some (.int room), some (.str (Tr.lf (.kep i)).wd), some (.int 1), some (.str ⟨#[99]⟩), some (.int i.val), none]) rfl (body_c (j := 1) w (by decide +kernel) rfl rfl (by omega) (by omega))]
      simp [evS, evE, cnt, Tr.size, h1]
  | cal k t ih =>
    intro n room μ hn hd w
    refine main _ n room hn hd w fun hr => ?_
    simp only [Tr.dep] at hn hd
    obtain ⟨n, rfl⟩ : ∃ m, n = m + 2 := ⟨n - 2, by omega⟩
    refine ⟨n + 1, rfl, ?_⟩
    have hi := k.isLt
    show outO (thenO (forO _ _ [.tup [.str s_n, .int k.val], .tup [.str s_f, t.toD]] _ _) _) = _
    rw [for_nx (sl1 := [some (Tr.cal k t).toD, some (.int room), some (.str s_call), some (.int 1), some (.str s_n), some (.int k.val), none]) rfl (body_c (j := 2) w (by decide +kernel) rfl rfl (by omega) (by omega))]
    have e := body_f (x := some (Tr.cal k t).toD) (y := some (.str s_call)) (o := none) (f := 1) (ih (n + 1) (room - 1) (by omega) (by omega) w)
    rw [cnt_0] at e
    by_cases hs : (t.size : Int) ≤ room - 1
    · rw [decide_eq_true hs] at e
      rw [for_nx (sl1 := [some (Tr.cal k t).toD, some (.int room), some (.str s_call), some (.int 1), some (.str s_f), some t.toD, none]) rfl (by simpa using e)]
      simp [evS, evE, cnt, Tr.size, hs, show (1 + (t.size : Int) ≤ room) by omega]
    · rw [decide_eq_false hs] at e
      rw [for_rt (sl1 := [some (Tr.cal k t).toD, some (.int room), some (.str s_call), some (.int 1), some (.str s_f), some t.toD, none]) rfl (by simpa using e)]
      simp [cnt, Tr.size, show ¬ (1 + (t.size : Int) ≤ room) by omega]
  | bin o a b iha ihb =>
    intro n room μ hn hd w
    refine main _ n room hn hd w fun hr => ?_
    simp only [Tr.dep] at hn hd
    obtain ⟨n, rfl⟩ : ∃ m, n = m + 2 := ⟨n - 2, by omega⟩
    refine ⟨n + 1, rfl, ?_⟩
    show outO (thenO (forO _ _ [.tup [.str s_f, a.toD], .tup [.str s_f, b.toD]] _ _) _) = _
    have pa := size_pos a
    have pb := size_pos b
    have e := body_f (x := some (Tr.bin o a b).toD) (y := some (.str (opW o))) (o := none) (f := 1) (iha (n + 1) (room - 1) (by omega) (by omega) w)
    rw [cnt_0] at e
    by_cases hs : (a.size : Int) ≤ room - 1
    · rw [decide_eq_true hs] at e
      rw [for_nx (sl1 := [some (Tr.bin o a b).toD, some (.int room), some (.str (opW o)), some (.int 1), some (.str s_f), some a.toD, none]) rfl (by simpa using e)]
      rw [show cnt a (room - 1) = a.size from if_pos hs]
      have e2 := body_f (x := some (Tr.bin o a b).toD) (y := some (.str (opW o))) (o := some (.int a.size)) (f := 1 + a.size) (ihb (n + 1) (room - (1 + a.size)) (by omega) (by omega) w)
      rw [cnt_0] at e2
      by_cases ht : (b.size : Int) ≤ room - (1 + a.size)
      · rw [decide_eq_true ht] at e2
        rw [for_nx (sl1 := [some (Tr.bin o a b).toD, some (.int room), some (.str (opW o)), some (.int (1 + a.size)), some (.str s_f), some b.toD, some (.int a.size)]) rfl (by simpa using e2)]
        simp [evS, evE, cnt, Tr.size, ht, show (1 + (a.size : Int) + b.size ≤ room) by omega]
      · rw [decide_eq_false ht] at e2
        rw [for_rt (sl1 := [some (Tr.bin o a b).toD, some (.int room), some (.str (opW o)), some (.int (1 + a.size)), some (.str s_f), some b.toD, some (.int a.size)]) rfl (by simpa using e2)]
        simp [cnt, Tr.size, show ¬ (1 + (a.size : Int) + b.size ≤ room) by omega]
    · rw [decide_eq_false hs] at e
      rw [for_rt (sl1 := [some (Tr.bin o a b).toD, some (.int room), some (.str (opW o)), some (.int 1), some (.str s_f), some a.toD, none]) rfl (by simpa using e)]
      simp [cnt, Tr.size, show ¬ (1 + (a.size : Int) + b.size ≤ room) by omega]
  | whe a b c iha ihb ihc =>
    intro n room μ hn hd w
    refine main _ n room hn hd w fun hr => ?_
    simp only [Tr.dep] at hn hd
    obtain ⟨n, rfl⟩ : ∃ m, n = m + 2 := ⟨n - 2, by omega⟩
    refine ⟨n + 1, rfl, ?_⟩
    show outO (thenO (forO _ _ [.tup [.str s_f, a.toD], .tup [.str s_f, b.toD], .tup [.str s_f, c.toD]] _ _) _) = _
    have pa := size_pos a
    have pb := size_pos b
    have pc := size_pos c
    have e := body_f (x := some (Tr.whe a b c).toD) (y := some (.str s_when)) (o := none) (f := 1) (iha (n + 1) (room - 1) (by omega) (by omega) w)
    rw [cnt_0] at e
    by_cases hs : (a.size : Int) ≤ room - 1
    · rw [decide_eq_true hs] at e
      rw [for_nx (sl1 := [some (Tr.whe a b c).toD, some (.int room), some (.str s_when), some (.int 1), some (.str s_f), some a.toD, none]) rfl (by simpa using e)]
      rw [show cnt a (room - 1) = a.size from if_pos hs]
      have e2 := body_f (x := some (Tr.whe a b c).toD) (y := some (.str s_when)) (o := some (.int a.size)) (f := 1 + a.size) (ihb (n + 1) (room - (1 + a.size)) (by omega) (by omega) w)
      rw [cnt_0] at e2
      by_cases ht : (b.size : Int) ≤ room - (1 + a.size)
      · rw [decide_eq_true ht] at e2
        rw [for_nx (sl1 := [some (Tr.whe a b c).toD, some (.int room), some (.str s_when), some (.int (1 + a.size)), some (.str s_f), some b.toD, some (.int a.size)]) rfl (by simpa using e2)]
        rw [show cnt b (room - (1 + a.size)) = b.size from if_pos ht]
        have e3 := body_f (x := some (Tr.whe a b c).toD) (y := some (.str s_when)) (o := some (.int b.size)) (f := 1 + a.size + b.size) (ihc (n + 1) (room - (1 + a.size + b.size)) (by omega) (by omega) w)
        rw [cnt_0] at e3
        by_cases hu : (c.size : Int) ≤ room - (1 + a.size + b.size)
        · rw [decide_eq_true hu] at e3
          rw [for_nx (sl1 := [some (Tr.whe a b c).toD, some (.int room), some (.str s_when), some (.int (1 + a.size + b.size)), some (.str s_f), some c.toD, some (.int b.size)]) rfl (by simpa using e3)]
          simp [evS, evE, cnt, Tr.size, hu, show (1 + (a.size : Int) + b.size + c.size ≤ room) by omega]
        · rw [decide_eq_false hu] at e3
          rw [for_rt (sl1 := [some (Tr.whe a b c).toD, some (.int room), some (.str s_when), some (.int (1 + a.size + b.size)), some (.str s_f), some c.toD, some (.int b.size)]) rfl (by simpa using e3)]
          simp [cnt, Tr.size, show ¬ (1 + (a.size : Int) + b.size + c.size ≤ room) by omega]
      · rw [decide_eq_false ht] at e2
        rw [for_rt (sl1 := [some (Tr.whe a b c).toD, some (.int room), some (.str s_when), some (.int (1 + a.size)), some (.str s_f), some b.toD, some (.int a.size)]) rfl (by simpa using e2)]
        simp [cnt, Tr.size, show ¬ (1 + (a.size : Int) + b.size + c.size ≤ room) by omega]
    · rw [decide_eq_false hs] at e
      rw [for_rt (sl1 := [some (Tr.whe a b c).toD, some (.int room), some (.str s_when), some (.int 1), some (.str s_f), some a.toD, none]) rfl (by simpa using e)]
      simp [cnt, Tr.size, show ¬ (1 + (a.size : Int) + b.size + c.size ≤ room) by omega]
end K01
namespace K01
open PySem PySem.Spec PyProof.Rows L2 Q
/-! ### stores -/
theorem fitD_mono {n m : Nat} (h : n ≤ m) {d : D} (f : fitD n d = true) : fitD m d = true := by
  cases d with
  | ref i =>
    have f : decide (i < n) = true := f
    rw [decide_eq_true_eq] at f
    show decide (i < m) = true
    rw [decide_eq_true_eq]
    omega
  | _ => rfl
theorem fitL_mono {n m : Nat} (h : n ≤ m) : ∀ {ds : List D}, fitL n ds = true → fitL m ds = true
  | [], _ => rfl
  | d :: ds, f => by
    unfold fitL at f ⊢
    rw [Bool.and_eq_true] at f ⊢
    exact ⟨fitD_mono h f.1, fitL_mono h f.2⟩
theorem fitM_mono {n m : Nat} (h : n ≤ m) {o : MO} (f : fitM n o = true) : fitM m o = true := by
  cases o with
  | ins c ds => exact fitL_mono h f
  | _ => rfl
theorem fitS_mono {n m : Nat} (h : n ≤ m) : ∀ {μ : Sto}, fitS n μ = true → fitS m μ = true
  | [], _ => rfl
  | o :: μ, f => by
    unfold fitS at f ⊢
    rw [Bool.and_eq_true] at f ⊢
    exact ⟨fitM_mono h f.1, fitS_mono h f.2⟩
theorem fitS_app {n : Nat} : ∀ {μ ν : Sto}, fitS n μ = true → fitS n ν = true → fitS n (μ ++ ν) = true
  | [], _, _, g => g
  | o :: μ, ν, f, g => by
    unfold fitS at f
    rw [Bool.and_eq_true] at f
    show (fitM n o && fitS n (μ ++ ν)) = true
    rw [f.1, fitS_app f.2 g]
    rfl
theorem wf_push {μ : Sto} {o : MO} (w : Wf μ) (h : fitM (μ.length + 1) o = true) : Wf (μ ++ [o]) := by
  show fitS (μ ++ [o]).length (μ ++ [o]) = true
  rw [List.length_append]
  refine fitS_app (fitS_mono (by omega) w) ?_
  show (fitM (μ.length + 1) o && true) = true
  rw [h]
  rfl
theorem wf_lst {μ : Sto} {xs : List D} (w : Wf μ) : Wf (μ ++ [.lst xs]) := wf_push w rfl
theorem at_push {μ : Sto} {o : MO} : (μ ++ [o])[μ.length]? = some o := by simp
theorem set_push {μ : Sto} {o o' : MO} : (μ ++ [o]).set μ.length o' = μ ++ [o'] := by
  rw [List.set_append_right _ _ (Nat.le_refl _)]
  simp
/-! ### trees_in, _law_in -/
def Tr.subs : Tr → List Tr
  | .lf l => [.lf l]
  | .cal k t => .cal k t :: t.subs
  | .bin o a b => .bin o a b :: (a.subs ++ b.subs)
  | .whe a b c => .whe a b c :: (a.subs ++ b.subs ++ c.subs)
theorem subs_len (t : Tr) : t.subs.length = t.size := by
  induction t with
  | lf l => rfl
  | cal k t ih => simp only [Tr.subs, Tr.size, List.length_cons, ih]; omega
  | bin o a b i1 i2 => simp only [Tr.subs, Tr.size, List.length_cons, List.length_append, i1, i2]; omega
  | whe a b c i1 i2 i3 => simp only [Tr.subs, Tr.size, List.length_cons, List.length_append, i1, i2, i3]; omega
abbrev rows (t : Tr) : List D := t.subs.map Tr.toD
theorem rows_len (t : Tr) : (rows t).length = t.size := by rw [List.length_map, subs_len]
theorem isML_ref {μ : Sto} {xs : List D} : isML (μ ++ [.lst xs]) (.ref μ.length) = true := by
  show (match (μ ++ [MO.lst xs])[μ.length]? with | some (.lst _) => true | _ => false) = true
  rw [at_push]
theorem ext_ok {μ : Sto} {xs ys : List D} (h : xs.length + ys.length ≤ lim) : extR (.ref μ.length) [.lst ys] (μ ++ [.lst xs]) = .ok .non (μ ++ [.lst (xs ++ ys)]) := by
  unfold extR
  simp only [at_push, plItems, set_push]
  rw [if_pos h]
theorem body1_i {n : Nat} {i : Int} {μ : Sto} {x y : Option D} : evS (G.g n) b1 [x, y, some (.int i)] μ = .nx [x, y, some (.int i)] μ := by
  simp [b1, evS, evE, evL, subTy]
theorem body1_t {n : Nat} {a : Tr} {μ : Sto} {x : Option D} {acc : List D} (w : Wf μ) (h : ∀ {μ : Sto}, Wf μ → (G.g n).Φ 2 [a.toD] μ = .ok (.lst (rows a)) μ) (hl : acc.length + a.size ≤ lim) :
    evS (G.g n) b1 [x, some (.ref μ.length), some a.toD] (μ ++ [.lst acc]) = .nx [x, some (.ref μ.length), some a.toD] (μ ++ [.lst (acc ++ rows a)]) := by
  have e := h (wf_lst (xs := acc) w)
  have e2 := ext_ok (μ := μ) (xs := acc) (ys := rows a) (by rw [rows_len]; exact hl)
  simp [b1, evS, evE, evL, subTy, tag_t, isA_t, bmR, isML_ref, bmX, e, e2]
theorem wf_tail {μ : Sto} : (μ ++ [MO.gone]).take μ.length = μ := by simp
theorem trees_start (t : Tr) (n : Nat) {μ : Sto} : evS (G.g n) ir2 (startS 3 [t.toD]) μ = thenO (forO (.nm 2) (evS (G.g n) b1) t.tl [some t.toD, some (.ref μ.length), none] (μ ++ [.lst [t.toD]])) (evS (G.g n) (.frz 1 (.cons (.ret (.var 1)) .nil))) := by
  simp [lim, ir2, evS, evE, evL, evI, mlstR, isP_t, isNil, cut_t, List.replicate]
theorem trees_end {n : Nat} {μ : Sto} {x y : Option D} {xs : List D} : evS (G.g n) (.frz 1 (.cons (.ret (.var 1)) .nil)) [x, some (.ref μ.length), y] (μ ++ [.lst xs]) = .rt (.lst xs) (μ ++ [.gone]) := by
  have h1 : getS [x, some (.ref μ.length), y] 1 = some (.ref μ.length) := rfl
  simp only [evS, frzS_eq h1 at_push, set_push]
  simp [evE]
theorem trees_in (t : Tr) : ∀ (n : Nat) {μ : Sto}, t.dep < n → t.size ≤ 1000 → Wf μ → (G.g n).Φ 2 [t.toD] μ = .ok (.lst (rows t)) μ := by
  have fin : ∀ (t : Tr) (n : Nat) {μ : Sto} {y : Option D}, Wf μ → forO (.nm 2) (evS (G.g n) b1) t.tl [some t.toD, some (.ref μ.length), none] (μ ++ [.lst [t.toD]]) = .nx [some t.toD, some (.ref μ.length), y] (μ ++ [.lst (rows t)]) → (G.g (n + 1)).Φ 2 [t.toD] μ = .ok (.lst (rows t)) μ := by
    intro t n μ y w h
    rw [run_def (d := d2) rfl rfl]
    show trimR μ.length (outO (evS (G.g n) ir2 (startS 3 [t.toD]) μ)) = _
    rw [trees_start, h, then_nx, trees_end, out_lst]
    exact trim_push w rfl
  induction t with
  | lf l =>
    intro n μ hn hs w
    simp only [Tr.dep] at hn
    obtain ⟨n, rfl⟩ : ∃ m, n = m + 1 := ⟨n - 1, by omega⟩
    cases l with
    | giv => exact fin _ n w rfl
    | stg => exact fin _ n w rfl
    | num i => exact fin _ n w (by show forO _ _ [.int i.val] _ _ = _; rw [for_nx (sl1 := [some (Tr.lf (.num i)).toD, some (.ref μ.length), some (.int i.val)]) rfl body1_i]; rfl)
    | col i => exact fin _ n w (by show forO _ _ [.int i.val] _ _ = _; rw [for_nx (sl1 := [some (Tr.lf (.col i)).toD, some (.ref μ.length), some (.int i.val)]) rfl body1_i]; rfl)
    | kep i => exact fin _ n w (by show forO _ _ [.int i.val] _ _ = _; rw [for_nx (sl1 := [some (Tr.lf (.kep i)).toD, some (.ref μ.length), some (.int i.val)]) rfl body1_i]; rfl)
  | cal k t ih =>
    intro n μ hn hs w
    simp only [Tr.dep, Tr.size] at hn hs
    obtain ⟨n, rfl⟩ : ∃ m, n = m + 1 := ⟨n - 1, by omega⟩
    refine fin _ n (y := some t.toD) w ?_
    show forO _ _ [.int k.val, t.toD] _ _ = _
    rw [for_nx (sl1 := [some (Tr.cal k t).toD, some (.ref μ.length), some (.int k.val)]) rfl body1_i,
      for_nx (sl1 := [some (Tr.cal k t).toD, some (.ref μ.length), some t.toD]) rfl (body1_t w (fun w => ih n (by omega) (by omega) w) (by show 1 + t.size ≤ lim; rw [lim_line']; omega))]
    rfl
  | bin o a b iha ihb =>
    intro n μ hn hs w
    simp only [Tr.dep, Tr.size] at hn hs
    obtain ⟨n, rfl⟩ : ∃ m, n = m + 1 := ⟨n - 1, by omega⟩
    refine fin _ n (y := some b.toD) w ?_
    show forO _ _ [a.toD, b.toD] _ _ = _
    have la := rows_len a
    rw [for_nx (sl1 := [some (Tr.bin o a b).toD, some (.ref μ.length), some a.toD]) rfl (body1_t w (fun w => iha n (by omega) (by omega) w) (by show 1 + a.size ≤ lim; rw [lim_line']; omega)),
      for_nx (sl1 := [some (Tr.bin o a b).toD, some (.ref μ.length), some b.toD]) rfl (body1_t w (fun w => ihb n (by omega) (by omega) w) (by rw [List.length_append, la, lim_line']; show 1 + a.size + b.size ≤ _; omega))]
    rw [for_nil]
    simp [rows, Tr.subs]
  | whe a b c iha ihb ihc =>
    intro n μ hn hs w
    simp only [Tr.dep, Tr.size] at hn hs
    obtain ⟨n, rfl⟩ : ∃ m, n = m + 1 := ⟨n - 1, by omega⟩
    refine fin _ n (y := some c.toD) w ?_
    show forO _ _ [a.toD, b.toD, c.toD] _ _ = _
    have la := rows_len a
    have lb := rows_len b
    rw [for_nx (sl1 := [some (Tr.whe a b c).toD, some (.ref μ.length), some a.toD]) rfl (body1_t w (fun w => iha n (by omega) (by omega) w) (by show 1 + a.size ≤ lim; rw [lim_line']; omega)),
      for_nx (sl1 := [some (Tr.whe a b c).toD, some (.ref μ.length), some b.toD]) rfl (body1_t w (fun w => ihb n (by omega) (by omega) w) (by rw [List.length_append, la, lim_line']; show 1 + a.size + b.size ≤ _; omega)),
      for_nx (sl1 := [some (Tr.whe a b c).toD, some (.ref μ.length), some c.toD]) rfl (body1_t w (fun w => ihc n (by omega) (by omega) w) (by rw [List.length_append, List.length_append, la, lb, lim_line']; show 1 + a.size + b.size + c.size ≤ _; omega))]
    rw [for_nil]
    simp [rows, Tr.subs]
/-! _law_in -/
theorem add_lst {μ : Sto} {xs ys : List D} {fw rv : Nat → Option Nat} {Φ : Nat → List D → Sto → R D} (h : xs.length + ys.length ≤ lim) : binR .Add fw rv Φ (.lst xs) (.lst ys) μ = .ok (.lst (xs ++ ys)) μ := bin_some (by show (if _ then _ else _) = _; rw [if_pos h])
theorem body2_i {n : Nat} {i : Int} {μ : Sto} {x y : Option D} : evS (G.g n) b2 [x, y, some (.int i)] μ = .nx [x, y, some (.int i)] μ := by
  simp [b2, evS, evE, evL, subTy]
theorem body2_t {n : Nat} {a : Tr} {μ : Sto} {x : Option D} {acc : List D} (h : (G.g n).Φ 7 [a.toD] μ = .ok (.lst (rows a)) μ) (hl : acc.length + a.size ≤ lim) :
    evS (G.g n) b2 [x, some (.lst acc), some a.toD] μ = .nx [x, some (.lst (acc ++ rows a)), some a.toD] μ := by
  simp [b2, evS, evE, evL, subTy, tag_t, isA_t, h, add_lst (xs := acc) (ys := rows a) (by rw [rows_len]; exact hl)]
theorem in_start (t : Tr) (n : Nat) {μ : Sto} : evS (G.g n) ir7 (startS 3 [t.toD]) μ = thenO (forO (.nm 2) (evS (G.g n) b2) t.tl [some t.toD, some (.lst [t.toD]), none] μ) (evS (G.g n) (.cons (.ret (.var 1)) .nil)) := by
  simp [lim, ir7, evS, evE, evL, evI, isP_t, isNil, cut_t, List.replicate]
theorem law_in (t : Tr) : ∀ (n : Nat) {μ : Sto}, t.dep < n → t.size ≤ 1000 → Wf μ → (G.g n).Φ 7 [t.toD] μ = .ok (.lst (rows t)) μ := by
  have fin : ∀ (t : Tr) (n : Nat) {μ : Sto} {y : Option D}, Wf μ → forO (.nm 2) (evS (G.g n) b2) t.tl [some t.toD, some (.lst [t.toD]), none] μ = .nx [some t.toD, some (.lst (rows t)), y] μ → (G.g (n + 1)).Φ 7 [t.toD] μ = .ok (.lst (rows t)) μ := by
    intro t n μ y w h
    refine run_ok (d := d7) rfl rfl w rfl ?_
    show outO (evS (G.g n) ir7 (startS 3 [t.toD]) μ) = _
    rw [in_start, h, then_nx]
    simp [evS, evE]
  induction t with
  | lf l =>
    intro n μ hn hs w
    simp only [Tr.dep] at hn
    obtain ⟨n, rfl⟩ : ∃ m, n = m + 1 := ⟨n - 1, by omega⟩
    cases l with
    | giv => exact fin _ n w rfl
    | stg => exact fin _ n w rfl
    | num i => exact fin _ n w (by show forO _ _ [.int i.val] _ _ = _; rw [for_nx (sl1 := [some (Tr.lf (.num i)).toD, some (.lst [(Tr.lf (.num i)).toD]), some (.int i.val)]) rfl body2_i]; rfl)
    | col i => exact fin _ n w (by show forO _ _ [.int i.val] _ _ = _; rw [for_nx (sl1 := [some (Tr.lf (.col i)).toD, some (.lst [(Tr.lf (.col i)).toD]), some (.int i.val)]) rfl body2_i]; rfl)
    | kep i => exact fin _ n w (by show forO _ _ [.int i.val] _ _ = _; rw [for_nx (sl1 := [some (Tr.lf (.kep i)).toD, some (.lst [(Tr.lf (.kep i)).toD]), some (.int i.val)]) rfl body2_i]; rfl)
  | cal k t ih =>
    intro n μ hn hs w
    simp only [Tr.dep, Tr.size] at hn hs
    obtain ⟨n, rfl⟩ : ∃ m, n = m + 1 := ⟨n - 1, by omega⟩
    refine fin _ n (y := some t.toD) w ?_
    show forO _ _ [.int k.val, t.toD] _ _ = _
    rw [for_nx (sl1 := [some (Tr.cal k t).toD, some (.lst [(Tr.cal k t).toD]), some (.int k.val)]) rfl body2_i,
      for_nx (sl1 := [some (Tr.cal k t).toD, some (.lst [(Tr.cal k t).toD]), some t.toD]) rfl (body2_t (ih n (by omega) (by omega) w) (by show 1 + t.size ≤ lim; rw [lim_line']; omega))]
    rfl
  | bin o a b iha ihb =>
    intro n μ hn hs w
    simp only [Tr.dep, Tr.size] at hn hs
    obtain ⟨n, rfl⟩ : ∃ m, n = m + 1 := ⟨n - 1, by omega⟩
    refine fin _ n (y := some b.toD) w ?_
    show forO _ _ [a.toD, b.toD] _ _ = _
    have la := rows_len a
    rw [for_nx (sl1 := [some (Tr.bin o a b).toD, some (.lst [(Tr.bin o a b).toD]), some a.toD]) rfl (body2_t (iha n (by omega) (by omega) w) (by show 1 + a.size ≤ lim; rw [lim_line']; omega)),
      for_nx (sl1 := [some (Tr.bin o a b).toD, some (.lst ([(Tr.bin o a b).toD] ++ rows a)), some b.toD]) rfl (body2_t (ihb n (by omega) (by omega) w) (by rw [List.length_append, la, lim_line']; show 1 + a.size + b.size ≤ _; omega))]
    rw [for_nil]
    simp [rows, Tr.subs]
  | whe a b c iha ihb ihc =>
    intro n μ hn hs w
    simp only [Tr.dep, Tr.size] at hn hs
    obtain ⟨n, rfl⟩ : ∃ m, n = m + 1 := ⟨n - 1, by omega⟩
    refine fin _ n (y := some c.toD) w ?_
    show forO _ _ [a.toD, b.toD, c.toD] _ _ = _
    have la := rows_len a
    have lb := rows_len b
    rw [for_nx (sl1 := [some (Tr.whe a b c).toD, some (.lst [(Tr.whe a b c).toD]), some a.toD]) rfl (body2_t (iha n (by omega) (by omega) w) (by show 1 + a.size ≤ lim; rw [lim_line']; omega)),
      for_nx (sl1 := [some (Tr.whe a b c).toD, some (.lst ([(Tr.whe a b c).toD] ++ rows a)), some b.toD]) rfl (body2_t (ihb n (by omega) (by omega) w) (by rw [List.length_append, la, lim_line']; show 1 + a.size + b.size ≤ _; omega)),
      for_nx (sl1 := [some (Tr.whe a b c).toD, some (.lst ([(Tr.whe a b c).toD] ++ rows a ++ rows b)), some c.toD]) rfl (body2_t (ihc n (by omega) (by omega) w) (by rw [List.length_append, List.length_append, la, lb, lim_line']; show 1 + a.size + b.size + c.size ≤ _; omega))]
    rw [for_nil]
    simp [rows, Tr.subs]
end K01
namespace K01
open PySem PySem.Spec PyProof.Rows L2 Q
abbrev fm (t : Tr) : D := .ins 3 [t.toD]
def made (t : Tr) (μ : Sto) : R D := if t.size ≤ 12 then .ok (fm t) μ else .ex ⟨1, none⟩ μ
def dueD (t : Tr) : D := if t.size ≤ 12 then t.toD else .non
theorem gl2 (n : Nat) : (G.g n).gl 2 = .int 12 := by cases n <;> rfl
theorem ix0 (n : Nat) : (G.g n).ix 0 3 = some 0 := by cases n <;> rfl
theorem mk3 (n : Nat) : (G.g n).mk' 3 = some (mkT 3 1 ((G.g n).Φ 14)) := by cases n <;> rfl
theorem init_ok (t : Tr) (n : Nat) {μ : Sto} (hn : 30 ≤ n) (hs : t.dep ≤ 25) (w : Wf μ) : (G.g (n + 1)).Φ 14 [.ref μ.length, t.toD] (μ ++ [.ins 3 []]) = if t.size ≤ 12 then .ok .non (μ ++ [.ins 3 [t.toD]]) else .ex ⟨1, none⟩ (μ ++ [.ins 3 []]) := by
  have w1 : Wf (μ ++ [.ins 3 []]) := wf_push w rfl
  have e := count t n 12 (μ := μ ++ [.ins 3 []]) (by omega) (by omega) w1
  have c0 : (cnt t 12 == 0) = !decide ((t.size : Int) ≤ 12) := cnt_0
  rw [run_def (d := d14) rfl rfl]
  show trimR _ (outO (evS (G.g n) ir14 (startS 2 [.ref μ.length, t.toD]) _)) = _
  by_cases h : t.size ≤ 12
  · rw [if_pos h]
    have h' : (t.size : Int) ≤ 12 := by omega
    rw [decide_eq_true h'] at c0
    have sf : setF ((G.g n).ix 0) t.toD (.ref μ.length) (μ ++ [.ins 3 []]) = some (μ ++ [.ins 3 [t.toD]]) := by
      unfold setF
      simp only [at_push, ix0, isV_t, if_true]
      simp [set_push]
    have ev : evS (G.g n) ir14 (startS 2 [.ref μ.length, t.toD]) (μ ++ [.ins 3 []]) = .nx [some (.ref μ.length), some t.toD] (μ ++ [.ins 3 [t.toD]]) := by
      simp [ir14, evS, evE, evL, isA_t, gl2, e, c0, fldO, sf]
    rw [ev, out_nx]
    have w2 : fitS (μ ++ [MO.ins 3 [t.toD]]).length (μ ++ [.ins 3 [t.toD]]) = true := wf_push w (by show (fitD _ t.toD && true) = true; rw [fit_t]; rfl)
    have l2 : (μ ++ [MO.ins 3 []]).length = (μ ++ [MO.ins 3 [t.toD]]).length := by simp
    rw [l2]
    exact trim_same w2 rfl
  · rw [if_neg h]
    have h' : ¬ (t.size : Int) ≤ 12 := by omega
    rw [decide_eq_false h'] at c0
    have ev : evS (G.g n) ir14 (startS 2 [.ref μ.length, t.toD]) (μ ++ [.ins 3 []]) = .ex ⟨1, none⟩ [some (.ref μ.length), some t.toD] (μ ++ [.ins 3 []]) := by
      simp [ir14, evS, evE, evL, isA_t, gl2, e, c0]
    rw [ev, out_ex]
    exact trim_ex w1
theorem form_ok (t : Tr) (n : Nat) {μ : Sto} (hn : 31 ≤ n) (hs : t.dep ≤ 25) (w : Wf μ) : mkO ((G.g n).mk' 3) [t.toD] μ = made t μ := by
  obtain ⟨n, rfl⟩ : ∃ m, n = m + 1 := ⟨n - 1, by omega⟩
  rw [mk3]
  show trimR μ.length (mkR 3 1 ((G.g (n + 1)).Φ 14) [t.toD] μ) = _
  unfold mkR made
  rw [if_pos (show allA [t.toD] = true by simp [isA_t]), init_ok t n (by omega) hs w]
  by_cases h : t.size ≤ 12
  · rw [if_pos h, if_pos h, bind_ok]
    have e : mkEnd 3 1 μ.length .non (μ ++ [.ins 3 [t.toD]]) = .ok (fm t) (μ ++ [.gone]) := by
      unfold mkEnd
      simp only [at_push]
      simp [isP_t, set_push]
    rw [e]
    exact trim_push w rfl
  · rw [if_neg h, if_neg h, bind_ex]
    exact trim_push_ex w
/-! ### operands -/
inductive Od where
  | f (t : Tr) | i (k : Fin 3)
def Od.d : Od → D
  | .f t => fm t
  | .i k => .int k.val
def Od.tr : Od → Tr
  | .f t => t
  | .i k => .lf (.num k)
theorem Od.isA (o : Od) : Q.isA o.d = true := by cases o <;> rfl
theorem isc33 (n : Nat) : (G.g n).isc 3 3 = some true := by cases n <;> rfl
theorem att_f {n : Nat} {t : Tr} {μ : Sto} : attR ((G.g n).ix 0) ((G.g n).pr 0) (G.g n).Φ (fm t) μ = .ok t.toD μ := by
  unfold attR
  simp [insOf, ix0]
theorem tree_of (o : Od) (n : Nat) {μ : Sto} (hn : 2 ≤ n) (w : Wf μ) : (G.g n).Φ 3 [o.d] μ = .ok o.tr.toD μ := by
  obtain ⟨n, rfl⟩ : ∃ m, n = m + 2 := ⟨n - 2, by omega⟩
  refine run_ok (d := d3) rfl rfl w (fit_t _ _) ?_
  show outO (evS (G.g (n + 1)) ir3 (startS 1 [o.d]) μ) = _
  cases o with
  | f t =>
    show outO (evS (G.g (n + 1)) ir3 (startS 1 [fm t]) μ) = _
    simp [ir3, evS, evE, evL, isc33, att_f]
    exact out_rt (isV_t t)
  | i k =>
    have hk := k.isLt
    have hm : subD μ MO1 (.str s_n) = some (.int 2) := rfl
    show outO (evS (G.g (n + 1)) ir3 (startS 1 [.int k.val]) μ) = _
    simp [lim, ir3, evS, evE, evL, isc33, gl1, hm, between n k.val 0 2 w, show ((k.val : Int) ≤ 2) by omega, Od.tr, Tr.toD, Lf.wd, Lf.tl]
theorem out_made {t : Tr} {μ : Sto} : outO (seqO (made t μ) sl fun d μ => .rt d μ) = made t μ := by
  unfold made
  split <;> simp
theorem out_thn {t : Tr} {μ : Sto} : outO (thenO (seqO (made t μ) sl fun d μ => .rt d μ) fun sl μ => .nx sl μ) = made t μ := by
  unfold made
  split <;> simp
theorem trim_made {t : Tr} {μ : Sto} (w : Wf μ) : trimR μ.length (made t μ) = made t μ := by
  unfold made
  split
  · exact trim_same w rfl
  · exact trim_ex w
theorem m25 {a : Tr} {o : Od} (n : Nat) {μ : Sto} (hn : 40 ≤ n) (ha : a.dep ≤ 20) (ho : o.tr.dep ≤ 20) (w : Wf μ) : (G.g n).Φ 25 [fm a, o.d] μ = made (.bin 0 a o.tr) μ := by
  obtain ⟨n, rfl⟩ : ∃ m, n = m + 1 := ⟨n - 1, by omega⟩
  rw [run_def (d := d25) rfl rfl]
  have e : mkO ((G.g n).mk' 3) [.tup [.str s_sum, a.toD, o.tr.toD]] μ = made (.bin 0 a o.tr) μ := form_ok (.bin 0 a o.tr) n (by omega) (by simp only [Tr.dep]; omega) w
  show trimR _ (outO (evS (G.g n) ir25 (startS 2 [fm a, o.d]) μ)) = _
  have ev : outO (evS (G.g n) ir25 (startS 2 [fm a, o.d]) μ) = made (.bin 0 a o.tr) μ := by
    simp [lim, ir25, evS, evE, evL, att_f, o.isA, tree_of o n (by omega) w, isP_t, e, out_thn]
  rw [ev]
  exact trim_made w
theorem m26 {a : Tr} {o : Od} (n : Nat) {μ : Sto} (hn : 40 ≤ n) (ha : a.dep ≤ 20) (ho : o.tr.dep ≤ 20) (w : Wf μ) : (G.g n).Φ 26 [fm a, o.d] μ = made (.bin 0 o.tr a) μ := by
  obtain ⟨n, rfl⟩ : ∃ m, n = m + 1 := ⟨n - 1, by omega⟩
  rw [run_def (d := d26) rfl rfl]
  have e : mkO ((G.g n).mk' 3) [.tup [.str s_sum, o.tr.toD, a.toD]] μ = made (.bin 0 o.tr a) μ := form_ok (.bin 0 o.tr a) n (by omega) (by simp only [Tr.dep]; omega) w
  show trimR _ (outO (evS (G.g n) ir26 (startS 2 [fm a, o.d]) μ)) = _
  have ev : outO (evS (G.g n) ir26 (startS 2 [fm a, o.d]) μ) = made (.bin 0 o.tr a) μ := by
    simp [lim, ir26, evS, evE, evL, att_f, o.isA, tree_of o n (by omega) w, isP_t, e, out_thn]
  rw [ev]
  exact trim_made w
theorem m27 {a : Tr} {o : Od} (n : Nat) {μ : Sto} (hn : 40 ≤ n) (ha : a.dep ≤ 20) (ho : o.tr.dep ≤ 20) (w : Wf μ) : (G.g n).Φ 27 [fm a, o.d] μ = made (.bin 1 a o.tr) μ := by
  obtain ⟨n, rfl⟩ : ∃ m, n = m + 1 := ⟨n - 1, by omega⟩
  rw [run_def (d := d27) rfl rfl]
  have e : mkO ((G.g n).mk' 3) [.tup [.str s_less, a.toD, o.tr.toD]] μ = made (.bin 1 a o.tr) μ := form_ok (.bin 1 a o.tr) n (by omega) (by simp only [Tr.dep]; omega) w
  show trimR _ (outO (evS (G.g n) ir27 (startS 2 [fm a, o.d]) μ)) = _
  have ev : outO (evS (G.g n) ir27 (startS 2 [fm a, o.d]) μ) = made (.bin 1 a o.tr) μ := by
    simp [lim, ir27, evS, evE, evL, att_f, o.isA, tree_of o n (by omega) w, isP_t, e, out_thn]
  rw [ev]
  exact trim_made w
theorem m28 {a : Tr} {o : Od} (n : Nat) {μ : Sto} (hn : 40 ≤ n) (ha : a.dep ≤ 20) (ho : o.tr.dep ≤ 20) (w : Wf μ) : (G.g n).Φ 28 [fm a, o.d] μ = made (.bin 1 o.tr a) μ := by
  obtain ⟨n, rfl⟩ : ∃ m, n = m + 1 := ⟨n - 1, by omega⟩
  rw [run_def (d := d28) rfl rfl]
  have e : mkO ((G.g n).mk' 3) [.tup [.str s_less, o.tr.toD, a.toD]] μ = made (.bin 1 o.tr a) μ := form_ok (.bin 1 o.tr a) n (by omega) (by simp only [Tr.dep]; omega) w
  show trimR _ (outO (evS (G.g n) ir28 (startS 2 [fm a, o.d]) μ)) = _
  have ev : outO (evS (G.g n) ir28 (startS 2 [fm a, o.d]) μ) = made (.bin 1 o.tr a) μ := by
    simp [lim, ir28, evS, evE, evL, att_f, o.isA, tree_of o n (by omega) w, isP_t, e, out_thn]
  rw [ev]
  exact trim_made w
theorem m29 {a : Tr} {o : Od} (n : Nat) {μ : Sto} (hn : 40 ≤ n) (ha : a.dep ≤ 20) (ho : o.tr.dep ≤ 20) (w : Wf μ) : (G.g n).Φ 29 [fm a, o.d] μ = made (.bin 2 a o.tr) μ := by
  obtain ⟨n, rfl⟩ : ∃ m, n = m + 1 := ⟨n - 1, by omega⟩
  rw [run_def (d := d29) rfl rfl]
  have e : mkO ((G.g n).mk' 3) [.tup [.str s_times, a.toD, o.tr.toD]] μ = made (.bin 2 a o.tr) μ := form_ok (.bin 2 a o.tr) n (by omega) (by simp only [Tr.dep]; omega) w
  show trimR _ (outO (evS (G.g n) ir29 (startS 2 [fm a, o.d]) μ)) = _
  have ev : outO (evS (G.g n) ir29 (startS 2 [fm a, o.d]) μ) = made (.bin 2 a o.tr) μ := by
    simp [lim, ir29, evS, evE, evL, att_f, o.isA, tree_of o n (by omega) w, isP_t, e, out_thn]
  rw [ev]
  exact trim_made w
theorem m30 {a : Tr} {o : Od} (n : Nat) {μ : Sto} (hn : 40 ≤ n) (ha : a.dep ≤ 20) (ho : o.tr.dep ≤ 20) (w : Wf μ) : (G.g n).Φ 30 [fm a, o.d] μ = made (.bin 2 o.tr a) μ := by
  obtain ⟨n, rfl⟩ : ∃ m, n = m + 1 := ⟨n - 1, by omega⟩
  rw [run_def (d := d30) rfl rfl]
  have e : mkO ((G.g n).mk' 3) [.tup [.str s_times, o.tr.toD, a.toD]] μ = made (.bin 2 o.tr a) μ := form_ok (.bin 2 o.tr a) n (by omega) (by simp only [Tr.dep]; omega) w
  show trimR _ (outO (evS (G.g n) ir30 (startS 2 [fm a, o.d]) μ)) = _
  have ev : outO (evS (G.g n) ir30 (startS 2 [fm a, o.d]) μ) = made (.bin 2 o.tr a) μ := by
    simp [lim, ir30, evS, evE, evL, att_f, o.isA, tree_of o n (by omega) w, isP_t, e, out_thn]
  rw [ev]
  exact trim_made w
theorem m32 {a : Tr} {o : Od} (n : Nat) {μ : Sto} (hn : 40 ≤ n) (ha : a.dep ≤ 20) (ho : o.tr.dep ≤ 20) (w : Wf μ) : (G.g n).Φ 32 [fm a, o.d] μ = made (.bin 3 a o.tr) μ := by
  obtain ⟨n, rfl⟩ : ∃ m, n = m + 1 := ⟨n - 1, by omega⟩
  rw [run_def (d := d32) rfl rfl]
  have e : mkO ((G.g n).mk' 3) [.tup [.str s_same, a.toD, o.tr.toD]] μ = made (.bin 3 a o.tr) μ := form_ok (.bin 3 a o.tr) n (by omega) (by simp only [Tr.dep]; omega) w
  show trimR _ (outO (evS (G.g n) ir32 (startS 2 [fm a, o.d]) μ)) = _
  have ev : outO (evS (G.g n) ir32 (startS 2 [fm a, o.d]) μ) = made (.bin 3 a o.tr) μ := by
    simp [lim, ir32, evS, evE, evL, att_f, o.isA, tree_of o n (by omega) w, isP_t, e, out_thn]
  rw [ev]
  exact trim_made w
theorem m31 {a : Tr} (n : Nat) {μ : Sto} (hn : 40 ≤ n) (ha : a.dep ≤ 20) (w : Wf μ) : (G.g n).Φ 31 [fm a] μ = made (.bin 1 (.lf (.num 0)) a) μ := by
  obtain ⟨n, rfl⟩ : ∃ m, n = m + 1 := ⟨n - 1, by omega⟩
  rw [run_def (d := d31) rfl rfl]
  have e : mkO ((G.g n).mk' 3) [.tup [.str s_less, .tup [.str s_number, .int 0], a.toD]] μ = made (.bin 1 (.lf (.num 0)) a) μ := form_ok (.bin 1 (.lf (.num 0)) a) n (by omega) (by simp only [Tr.dep]; omega) w
  show trimR _ (outO (evS (G.g n) ir31 (startS 1 [fm a]) μ)) = _
  have ev : outO (evS (G.g n) ir31 (startS 1 [fm a]) μ) = made (.bin 1 (.lf (.num 0)) a) μ := by
    simp [lim, ir31, evS, evE, evL, att_f, isP_t, e, out_thn]
  rw [ev]
  exact trim_made w
theorem m33 {a : Tr} {o p : Od} (n : Nat) {μ : Sto} (hn : 40 ≤ n) (ha : a.dep ≤ 20) (ho : o.tr.dep ≤ 20) (hp : p.tr.dep ≤ 20) (w : Wf μ) : (G.g n).Φ 33 [fm a, o.d, p.d] μ = made (.whe a o.tr p.tr) μ := by
  obtain ⟨n, rfl⟩ : ∃ m, n = m + 1 := ⟨n - 1, by omega⟩
  rw [run_def (d := d33) rfl rfl]
  have e : mkO ((G.g n).mk' 3) [.tup [.str s_when, a.toD, o.tr.toD, p.tr.toD]] μ = made (.whe a o.tr p.tr) μ := form_ok (.whe a o.tr p.tr) n (by omega) (by simp only [Tr.dep]; omega) w
  show trimR _ (outO (evS (G.g n) ir33 (startS 3 [fm a, o.d, p.d]) μ)) = _
  have ev : outO (evS (G.g n) ir33 (startS 3 [fm a, o.d, p.d]) μ) = made (.whe a o.tr p.tr) μ := by
    simp [lim, ir33, evS, evE, evL, att_f, o.isA, p.isA, tree_of o n (by omega) w, tree_of p n (by omega) w, isP_t, e, out_thn]
  rw [ev]
  exact trim_made w
theorem m34 {a : Tr} {k : Fin 3} (n : Nat) {μ : Sto} (hn : 40 ≤ n) (ha : a.dep ≤ 20) (w : Wf μ) : (G.g n).Φ 34 [fm a, .int k.val] μ = made (.cal k a) μ := by
  obtain ⟨n, rfl⟩ : ∃ m, n = m + 2 := ⟨n - 2, by omega⟩
  rw [run_def (d := d34) rfl rfl]
  have hk := k.isLt
  have hm : subD μ MO1 (.str s_n) = some (.int 2) := rfl
  have e : mkO ((G.g (n + 1)).mk' 3) [.tup [.str s_call, .int k.val, a.toD]] μ = made (.cal k a) μ := form_ok (.cal k a) (n + 1) (by omega) (by simp only [Tr.dep]; omega) w
  show trimR _ (outO (evS (G.g (n + 1)) ir34 (startS 2 [fm a, .int k.val]) μ)) = _
  have ev : outO (evS (G.g (n + 1)) ir34 (startS 2 [fm a, .int k.val]) μ) = made (.cal k a) μ := by
    simp [lim, ir34, evS, evE, evL, att_f, gl1, hm, between n k.val 0 2 w, show ((k.val : Int) ≤ 2) by omega, isP_t, e, out_thn]
  rw [ev]
  exact trim_made w
end K01
namespace K01
open PySem PySem.Spec PyProof.Rows L2 Q
theorem run_lam {n k : Nat} {d : NfI} {cs : List D} {μ : Sto} (hd : G.nfs[k]? = some d) (hl : cs.length = d.ps.length + d.fr) : (G.g (n + 1)).Ψ k cs μ = trimR μ.length (outR (evE (G.g n) d.ir (startS d.N.length cs) μ)) := by
  show runL (G.g n) G.nfs[k]? cs μ = _
  rw [hd]
  show trimR μ.length (if _ then _ else _) = _
  rw [if_pos hl]
theorem lam_made {n k : Nat} {d : NfI} {cs : List D} {μ : Sto} {t : Tr} (hd : G.nfs[k]? = some d) (hl : cs.length = d.ps.length + d.fr) (w : Wf μ) (h : evE (G.g n) d.ir (startS d.N.length cs) μ = made t μ) : (G.g (n + 1)).Ψ k cs μ = made t μ := by
  rw [run_lam hd hl, h]
  have e : outR (made t μ) = made t μ := by
    unfold made
    split <;> rfl
  rw [e]
  exact trim_made w
theorem exi11 (n : Nat) : (G.g n).exi 1 1 = some true := by cases n <;> rfl
theorem fit_due (n : Nat) (t : Tr) : fitD n (dueD t) = true := by
  unfold dueD
  split
  · exact fit_t t n
  · rfl
theorem heard {n k : Nat} {cs : List D} {t : Tr} {μ : Sto} (w : Wf μ) (h : (G.g n).Ψ k cs μ = made t μ) : (G.g (n + 1)).Φ 8 [.clo k cs] μ = .ok (dueD t) μ := by
  refine run_ok (d := d8) rfl rfl w (fit_due _ _) ?_
  show outO (evS (G.g n) ir8 (startS 1 [.clo k cs]) μ) = _
  unfold made at h
  unfold dueD
  by_cases hs : t.size ≤ 12
  · rw [if_pos hs] at h ⊢
    simp [ir8, evS, evE, evL, calV, h, att_f, tryO]
    exact out_rt (isV_t t)
  · rw [if_neg hs] at h ⊢
    simp [ir8, evS, evE, evL, calV, h, tryO, exi11]
theorem due (t : Tr) (n : Nat) {μ : Sto} (hn : 40 ≤ n) (hd : t.dep ≤ 25) (hs : t.size ≤ 1000) (w : Wf μ) : (G.g n).Φ 9 [t.toD] μ = .ok (dueD t) μ := by
  obtain ⟨n, rfl⟩ : ∃ m, n = m + 1 := ⟨n - 1, by omega⟩
  refine run_ok (d := d9) rfl rfl w (fit_due _ _) ?_
  show outO (evS (G.g n) ir9 (startS 1 [t.toD]) μ) = _
  have e := law_in t n (by omega) hs w
  have l : lenD μ (.lst (rows t)) = some t.size := by show some (rows t).length = _; rw [rows_len]
  unfold dueD
  by_cases h : t.size ≤ 12
  · simp [ir9, evS, evE, evL, isA_t, e, len_some l, show ((t.size : Int) ≤ 12) by omega, h]
    exact out_rt (isV_t t)
  · simp [ir9, evS, evE, evL, isA_t, e, len_some l, show ¬ ((t.size : Int) ≤ 12) by omega, h]
theorem eq_due {μ : Sto} (t : Tr) (h : t.dep ≤ 60) : eqD μ (dueD t) (dueD t) = some true := by
  unfold dueD
  split
  · exact eq_self t h
  · rfl
theorem okR_d {μ : Sto} (o : Od) : okR μ 3 o.d = true := by cases o <;> rfl
theorem bin_fw {n k : Nat} {op : Operator} {a : Tr} {o : Od} {μ : Sto} (h0 : ∀ d, binD op (fm a) d = none) (hf : (G.g n).fw op 3 = some k) : binR op ((G.g n).fw op) ((G.g n).rv op) (G.g n).Φ (fm a) o.d μ = (G.g n).Φ k [fm a, o.d] μ := by
  unfold binR
  rw [h0]
  show ownB _ _ _ _ _ _ = _
  unfold ownB
  simp [insOf, hf, okR_d, o.isA]
theorem bin_rv {n k : Nat} {op : Operator} {a : Tr} {i : Fin 3} {μ : Sto} (h0 : binD op (.int i.val) (fm a) = none) (hf : (G.g n).rv op 3 = some k) : binR op ((G.g n).fw op) ((G.g n).rv op) (G.g n).Φ (.int i.val) (fm a) μ = (G.g n).Φ k [fm a, .int i.val] μ := by
  unfold binR
  rw [h0]
  show ownB _ _ _ _ _ _ = _
  unfold ownB
  simp [insOf, hf]
theorem met_f {n m k : Nat} {a : Tr} {μ : Sto} {ds : List D} {ms : Sto → R (List D)} (hm : (G.g n).mt m 3 = some k) (hs : ms μ = .ok ds μ) (ha : allA ds = true) : methR ((G.g n).mt m) ((G.g n).cm m) (G.g n).Φ ms (fm a) μ = (G.g n).Φ k (fm a :: ds) μ := by
  unfold methR
  simp [insOf, hm, hs, ha]
theorem fw_Add (n : Nat) : (G.g n).fw .Add 3 = some 25 := by cases n <;> rfl
theorem rv_Add (n : Nat) : (G.g n).rv .Add 3 = some 26 := by cases n <;> rfl
theorem fw_Sub (n : Nat) : (G.g n).fw .Sub 3 = some 27 := by cases n <;> rfl
theorem rv_Sub (n : Nat) : (G.g n).rv .Sub 3 = some 28 := by cases n <;> rfl
theorem fw_Mult (n : Nat) : (G.g n).fw .Mult 3 = some 29 := by cases n <;> rfl
theorem rv_Mult (n : Nat) : (G.g n).rv .Mult 3 = some 30 := by cases n <;> rfl
theorem mt_4 (n : Nat) : (G.g n).mt 4 3 = some 32 := by cases n <;> rfl
theorem mt_5 (n : Nat) : (G.g n).mt 5 3 = some 33 := by cases n <;> rfl
theorem mt_6 (n : Nat) : (G.g n).mt 6 3 = some 34 := by cases n <;> rfl
theorem ng3 (n : Nat) : (G.g n).ng 3 = some 31 := by cases n <;> rfl
theorem h0 (n : Nat) {a : Tr} {i : Fin 3} {μ : Sto} (hn : 42 ≤ n) (ha : a.dep ≤ 20) (w : Wf μ) : (G.g n).Φ 8 [.clo 0 [.int i.val, fm a]] μ = .ok (dueD (.bin 0 a (.lf (.num i)))) μ := by
  obtain ⟨n, rfl⟩ : ∃ m, n = m + 2 := ⟨n - 2, by omega⟩
  refine heard w (lam_made (d := l0) rfl rfl w ?_)
  have di : (Od.i i).tr.dep ≤ 20 := by simp [Od.tr, Tr.dep]
  have e := m25 (o := .i i) n (by omega) ha di w
  have b := bin_fw (n := n) (op := .Add) (a := a) (o := .i i) (μ := μ) (fun _ => rfl) (fw_Add n)
  have b : binR .Add ((G.g n).fw .Add) ((G.g n).rv .Add) (G.g n).Φ (fm a) (.int i.val) μ = (G.g n).Φ 25 [fm a, (Od.i i).d] μ := b
  simp [l0, evE, b, e, Od.tr]
theorem h2 (n : Nat) {a : Tr} {i : Fin 3} {μ : Sto} (hn : 42 ≤ n) (ha : a.dep ≤ 20) (w : Wf μ) : (G.g n).Φ 8 [.clo 2 [.int i.val, fm a]] μ = .ok (dueD (.bin 1 a (.lf (.num i)))) μ := by
  obtain ⟨n, rfl⟩ : ∃ m, n = m + 2 := ⟨n - 2, by omega⟩
  refine heard w (lam_made (d := l2) rfl rfl w ?_)
  have di : (Od.i i).tr.dep ≤ 20 := by simp [Od.tr, Tr.dep]
  have e := m27 (o := .i i) n (by omega) ha di w
  have b := bin_fw (n := n) (op := .Sub) (a := a) (o := .i i) (μ := μ) (fun _ => rfl) (fw_Sub n)
  have b : binR .Sub ((G.g n).fw .Sub) ((G.g n).rv .Sub) (G.g n).Φ (fm a) (.int i.val) μ = (G.g n).Φ 27 [fm a, (Od.i i).d] μ := b
  simp [l2, evE, b, e, Od.tr]
theorem h4 (n : Nat) {a : Tr} {i : Fin 3} {μ : Sto} (hn : 42 ≤ n) (ha : a.dep ≤ 20) (w : Wf μ) : (G.g n).Φ 8 [.clo 4 [.int i.val, fm a]] μ = .ok (dueD (.bin 2 a (.lf (.num i)))) μ := by
  obtain ⟨n, rfl⟩ : ∃ m, n = m + 2 := ⟨n - 2, by omega⟩
  refine heard w (lam_made (d := l4) rfl rfl w ?_)
  have di : (Od.i i).tr.dep ≤ 20 := by simp [Od.tr, Tr.dep]
  have e := m29 (o := .i i) n (by omega) ha di w
  have b := bin_fw (n := n) (op := .Mult) (a := a) (o := .i i) (μ := μ) (fun _ => rfl) (fw_Mult n)
  have b : binR .Mult ((G.g n).fw .Mult) ((G.g n).rv .Mult) (G.g n).Φ (fm a) (.int i.val) μ = (G.g n).Φ 29 [fm a, (Od.i i).d] μ := b
  simp [l4, evE, b, e, Od.tr]
theorem h1 (n : Nat) {a : Tr} {i : Fin 3} {μ : Sto} (hn : 42 ≤ n) (ha : a.dep ≤ 20) (w : Wf μ) : (G.g n).Φ 8 [.clo 1 [.int i.val, fm a]] μ = .ok (dueD (.bin 0 (.lf (.num i)) a)) μ := by
  obtain ⟨n, rfl⟩ : ∃ m, n = m + 2 := ⟨n - 2, by omega⟩
  refine heard w (lam_made (d := l1) rfl rfl w ?_)
  have di : (Od.i i).tr.dep ≤ 20 := by simp [Od.tr, Tr.dep]
  have e := m26 (a := a) (o := .i i) n (by omega) ha di w
  have e : (G.g n).Φ 26 [fm a, .int i.val] μ = _ := e
  have b := bin_rv (n := n) (op := .Add) (a := a) (i := i) (μ := μ) rfl (rv_Add n)
  simp [l1, evE, b, e, Od.tr]
theorem h3 (n : Nat) {a : Tr} {i : Fin 3} {μ : Sto} (hn : 42 ≤ n) (ha : a.dep ≤ 20) (w : Wf μ) : (G.g n).Φ 8 [.clo 3 [.int i.val, fm a]] μ = .ok (dueD (.bin 1 (.lf (.num i)) a)) μ := by
  obtain ⟨n, rfl⟩ : ∃ m, n = m + 2 := ⟨n - 2, by omega⟩
  refine heard w (lam_made (d := l3) rfl rfl w ?_)
  have di : (Od.i i).tr.dep ≤ 20 := by simp [Od.tr, Tr.dep]
  have e := m28 (a := a) (o := .i i) n (by omega) ha di w
  have e : (G.g n).Φ 28 [fm a, .int i.val] μ = _ := e
  have b := bin_rv (n := n) (op := .Sub) (a := a) (i := i) (μ := μ) rfl (rv_Sub n)
  simp [l3, evE, b, e, Od.tr]
theorem h5 (n : Nat) {a : Tr} {i : Fin 3} {μ : Sto} (hn : 42 ≤ n) (ha : a.dep ≤ 20) (w : Wf μ) : (G.g n).Φ 8 [.clo 5 [.int i.val, fm a]] μ = .ok (dueD (.bin 2 (.lf (.num i)) a)) μ := by
  obtain ⟨n, rfl⟩ : ∃ m, n = m + 2 := ⟨n - 2, by omega⟩
  refine heard w (lam_made (d := l5) rfl rfl w ?_)
  have di : (Od.i i).tr.dep ≤ 20 := by simp [Od.tr, Tr.dep]
  have e := m30 (a := a) (o := .i i) n (by omega) ha di w
  have e : (G.g n).Φ 30 [fm a, .int i.val] μ = _ := e
  have b := bin_rv (n := n) (op := .Mult) (a := a) (i := i) (μ := μ) rfl (rv_Mult n)
  simp [l5, evE, b, e, Od.tr]
theorem h6 (n : Nat) {a : Tr} {i : Fin 3} {μ : Sto} (hn : 42 ≤ n) (ha : a.dep ≤ 20) (w : Wf μ) : (G.g n).Φ 8 [.clo 6 [.int i.val, fm a]] μ = .ok (dueD (.bin 3 a (.lf (.num i)))) μ := by
  obtain ⟨n, rfl⟩ : ∃ m, n = m + 2 := ⟨n - 2, by omega⟩
  refine heard w (lam_made (d := l6) rfl rfl w ?_)
  have di : (Od.i i).tr.dep ≤ 20 := by simp [Od.tr, Tr.dep]
  have e := m32 (a := a) (o := .i i) n (by omega) ha di w
  have e : (G.g n).Φ 32 [fm a, .int i.val] μ = _ := e
  have b := met_f (n := n) (a := a) (μ := μ) (ds := [.int i.val]) (ms := evL (G.g n) (.cons (.var 0) .nil) [some (.int i.val), some (fm a)]) (mt_4 n) (by simp [evL, evE]) rfl
  simp only [l6, evE, startS_eq, List.map_cons, List.map_nil, List.length_cons, List.length_nil, List.replicate, List.append_nil, Nat.sub_self, getS_succ, getS_zero, of_some', bind_ok, Nat.zero_add]
  exact b.trans e
theorem h7 (n : Nat) {a : Tr} {i : Fin 3} {μ : Sto} (hn : 42 ≤ n) (ha : a.dep ≤ 20) (w : Wf μ) : (G.g n).Φ 8 [.clo 7 [.int i.val, fm a]] μ = .ok (dueD (.whe a (.lf (.num i)) a)) μ := by
  obtain ⟨n, rfl⟩ : ∃ m, n = m + 2 := ⟨n - 2, by omega⟩
  refine heard w (lam_made (d := l7) rfl rfl w ?_)
  have di : (Od.i i).tr.dep ≤ 20 := by simp [Od.tr, Tr.dep]
  have e := m33 (a := a) (o := .i i) (p := .f a) n (by omega) ha di ha w
  have e : (G.g n).Φ 33 [fm a, .int i.val, fm a] μ = _ := e
  have b := met_f (n := n) (a := a) (μ := μ) (ds := [.int i.val, fm a]) (ms := evL (G.g n) (.cons (.var 0) (.cons (.var 1) .nil)) [some (.int i.val), some (fm a)]) (mt_5 n) (by simp [evL, evE]) rfl
  simp only [l7, evE, startS_eq, List.map_cons, List.map_nil, List.length_cons, List.length_nil, List.replicate, List.append_nil, Nat.sub_self, getS_succ, getS_zero, of_some', bind_ok, Nat.zero_add]
  exact b.trans e
theorem h8 (n : Nat) {a : Tr} {i : Fin 3} {μ : Sto} (hn : 42 ≤ n) (ha : a.dep ≤ 20) (w : Wf μ) : (G.g n).Φ 8 [.clo 8 [.int i.val, fm a]] μ = .ok (dueD (.whe a a (.lf (.num i)))) μ := by
  obtain ⟨n, rfl⟩ : ∃ m, n = m + 2 := ⟨n - 2, by omega⟩
  refine heard w (lam_made (d := l8) rfl rfl w ?_)
  have di : (Od.i i).tr.dep ≤ 20 := by simp [Od.tr, Tr.dep]
  have e := m33 (a := a) (o := .f a) (p := .i i) n (by omega) ha ha di w
  have e : (G.g n).Φ 33 [fm a, fm a, .int i.val] μ = _ := e
  have b := met_f (n := n) (a := a) (μ := μ) (ds := [fm a, .int i.val]) (ms := evL (G.g n) (.cons (.var 1) (.cons (.var 0) .nil)) [some (.int i.val), some (fm a)]) (mt_5 n) (by simp [evL, evE]) rfl
  simp only [l8, evE, startS_eq, List.map_cons, List.map_nil, List.length_cons, List.length_nil, List.replicate, List.append_nil, Nat.sub_self, getS_succ, getS_zero, of_some', bind_ok, Nat.zero_add]
  exact b.trans e
theorem h9 (n : Nat) {a : Tr} {i : Fin 3} {μ : Sto} (hn : 42 ≤ n) (ha : a.dep ≤ 20) (w : Wf μ) : (G.g n).Φ 8 [.clo 9 [.int i.val, fm a]] μ = .ok (dueD (.cal i a)) μ := by
  obtain ⟨n, rfl⟩ : ∃ m, n = m + 2 := ⟨n - 2, by omega⟩
  refine heard w (lam_made (d := l9) rfl rfl w ?_)
  have di : (Od.i i).tr.dep ≤ 20 := by simp [Od.tr, Tr.dep]
  have e := m34 (a := a) (k := i) n (by omega) ha w
  have b := met_f (n := n) (a := a) (μ := μ) (ds := [.int i.val]) (ms := evL (G.g n) (.cons (.var 0) .nil) [some (.int i.val), some (fm a)]) (mt_6 n) (by simp [evL, evE]) rfl
  simp only [l9, evE, startS_eq, List.map_cons, List.map_nil, List.length_cons, List.length_nil, List.replicate, List.append_nil, Nat.sub_self, getS_succ, getS_zero, of_some', bind_ok, Nat.zero_add]
  exact b.trans e
theorem h10 (n : Nat) {a : Tr} {μ : Sto} (hn : 42 ≤ n) (ha : a.dep ≤ 20) (w : Wf μ) : (G.g n).Φ 8 [.clo 10 [fm a]] μ = .ok (dueD (.bin 1 (.lf (.num 0)) a)) μ := by
  obtain ⟨n, rfl⟩ : ∃ m, n = m + 2 := ⟨n - 2, by omega⟩
  refine heard w (lam_made (d := l10) rfl rfl w ?_)
  have e := m31 (a := a) n (by omega) ha w
  simp [l10, evE, negR, ownK, insOf, ng3, e]
theorem h11 (n : Nat) {a b : Tr} {μ : Sto} (hn : 42 ≤ n) (ha : a.dep ≤ 20) (hb : b.dep ≤ 20) (w : Wf μ) : (G.g n).Φ 8 [.clo 11 [fm a, fm b]] μ = .ok (dueD (.bin 0 a b)) μ := by
  obtain ⟨n, rfl⟩ : ∃ m, n = m + 2 := ⟨n - 2, by omega⟩
  refine heard w (lam_made (d := l11) rfl rfl w ?_)
  have e := m25 (a := a) (o := .f b) n (by omega) ha hb w
  have q := bin_fw (n := n) (op := .Add) (a := a) (o := .f b) (μ := μ) (fun _ => rfl) (fw_Add n)
  have q : binR .Add ((G.g n).fw .Add) ((G.g n).rv .Add) (G.g n).Φ (fm a) (fm b) μ = (G.g n).Φ 25 [fm a, (Od.f b).d] μ := q
  simp [l11, evE, q, e, Od.tr]
theorem h12 (n : Nat) {a b : Tr} {μ : Sto} (hn : 42 ≤ n) (ha : a.dep ≤ 20) (hb : b.dep ≤ 20) (w : Wf μ) : (G.g n).Φ 8 [.clo 12 [fm a, fm b]] μ = .ok (dueD (.bin 1 a b)) μ := by
  obtain ⟨n, rfl⟩ : ∃ m, n = m + 2 := ⟨n - 2, by omega⟩
  refine heard w (lam_made (d := l12) rfl rfl w ?_)
  have e := m27 (a := a) (o := .f b) n (by omega) ha hb w
  have q := bin_fw (n := n) (op := .Sub) (a := a) (o := .f b) (μ := μ) (fun _ => rfl) (fw_Sub n)
  have q : binR .Sub ((G.g n).fw .Sub) ((G.g n).rv .Sub) (G.g n).Φ (fm a) (fm b) μ = (G.g n).Φ 27 [fm a, (Od.f b).d] μ := q
  simp [l12, evE, q, e, Od.tr]
theorem h13 (n : Nat) {a b : Tr} {μ : Sto} (hn : 42 ≤ n) (ha : a.dep ≤ 20) (hb : b.dep ≤ 20) (w : Wf μ) : (G.g n).Φ 8 [.clo 13 [fm a, fm b]] μ = .ok (dueD (.bin 2 a b)) μ := by
  obtain ⟨n, rfl⟩ : ∃ m, n = m + 2 := ⟨n - 2, by omega⟩
  refine heard w (lam_made (d := l13) rfl rfl w ?_)
  have e := m29 (a := a) (o := .f b) n (by omega) ha hb w
  have q := bin_fw (n := n) (op := .Mult) (a := a) (o := .f b) (μ := μ) (fun _ => rfl) (fw_Mult n)
  have q : binR .Mult ((G.g n).fw .Mult) ((G.g n).rv .Mult) (G.g n).Φ (fm a) (fm b) μ = (G.g n).Φ 29 [fm a, (Od.f b).d] μ := q
  simp [l13, evE, q, e, Od.tr]
theorem h14 (n : Nat) {a b : Tr} {μ : Sto} (hn : 42 ≤ n) (ha : a.dep ≤ 20) (hb : b.dep ≤ 20) (w : Wf μ) : (G.g n).Φ 8 [.clo 14 [fm a, fm b]] μ = .ok (dueD (.bin 3 a b)) μ := by
  obtain ⟨n, rfl⟩ : ∃ m, n = m + 2 := ⟨n - 2, by omega⟩
  refine heard w (lam_made (d := l14) rfl rfl w ?_)
  have e := m32 (a := a) (o := .f b) n (by omega) ha hb w
  have e : (G.g n).Φ 32 [fm a, fm b] μ = _ := e
  have q := met_f (n := n) (a := a) (μ := μ) (ds := [fm b]) (ms := evL (G.g n) (.cons (.var 1) .nil) [some (fm a), some (fm b)]) (mt_4 n) (by simp [evL, evE]) rfl
  simp only [l14, evE, startS_eq, List.map_cons, List.map_nil, List.length_cons, List.length_nil, List.replicate, List.append_nil, Nat.sub_self, getS_succ, getS_zero, of_some', bind_ok, Nat.zero_add]
  exact q.trans e
theorem h15 (n : Nat) {a b : Tr} {μ : Sto} (hn : 42 ≤ n) (ha : a.dep ≤ 20) (hb : b.dep ≤ 20) (w : Wf μ) : (G.g n).Φ 8 [.clo 15 [fm a, fm b]] μ = .ok (dueD (.whe a b a)) μ := by
  obtain ⟨n, rfl⟩ : ∃ m, n = m + 2 := ⟨n - 2, by omega⟩
  refine heard w (lam_made (d := l15) rfl rfl w ?_)
  have e := m33 (a := a) (o := .f b) (p := .f a) n (by omega) ha hb ha w
  have e : (G.g n).Φ 33 [fm a, fm b, fm a] μ = _ := e
  have q := met_f (n := n) (a := a) (μ := μ) (ds := [fm b, fm a]) (ms := evL (G.g n) (.cons (.var 1) (.cons (.var 0) .nil)) [some (fm a), some (fm b)]) (mt_5 n) (by simp [evL, evE]) rfl
  simp only [l15, evE, startS_eq, List.map_cons, List.map_nil, List.length_cons, List.length_nil, List.replicate, List.append_nil, Nat.sub_self, getS_succ, getS_zero, of_some', bind_ok, Nat.zero_add]
  exact q.trans e
end K01
namespace K01
open PySem PySem.Spec PyProof.Rows L2 Q
theorem calC2 {φ : List D → Sto → R D} {k i j : Nat} {sl : Sl} {μ : Sto} {c e : D} (h0 : getS sl i = some c) (h1 : getS sl j = some e) (p0 : isP c = true) (p1 : isP e = true) : callC (fun x => [(k, [i, j])].lookup x) sl φ [.nfn k] μ = φ [.clo k [c, e]] μ := by
  simp [callC, cvtL, cvtD, capL, List.lookup, h0, h1, p0, p1]
theorem calC1 {φ : List D → Sto → R D} {k i : Nat} {sl : Sl} {μ : Sto} {c : D} (h0 : getS sl i = some c) (p0 : isP c = true) : callC (fun x => [(k, [i])].lookup x) sl φ [.nfn k] μ = φ [.clo k [c]] μ := by
  simp [callC, cvtL, cvtD, capL, List.lookup, h0, p0]
abbrev nl (i : Fin 3) : D := .tup [.str s_number, .int i.val]
/-- one test: what is heard is what is due -/
theorem same_ne {n : Nat} {t : Tr} {μ : Sto} (h : t.dep ≤ 60) : cmpR .NotEq (G.g n).eq (G.g n).Φ (dueD t) (dueD t) μ = .ok (.bl false) μ := cmp_ne (eq_due t h)
theorem same_eq {n : Nat} {t : Tr} {μ : Sto} (h : t.dep ≤ 60) : cmpR .Eq (G.g n).eq (G.g n).Φ (dueD t) (dueD t) μ = .ok (.bl true) μ := cmp_eq (eq_due t h)
theorem test_s {n k i j : Nat} {sl : Sl} {μ : Sto} {c e : D} {t : Tr} {es : E} {ss : S} (h0 : getS sl i = some c) (h1 : getS sl j = some e) (p0 : isP c = true) (p1 : isP e = true) (hh : (G.g n).Φ 8 [.clo k [c, e]] μ = .ok (dueD t) μ) (hd : (G.g n).Φ 9 [t.toD] μ = .ok (dueD t) μ) (he : evL (G.g n) es sl μ = .ok [t.toD] μ) (ht : t.dep ≤ 60) :
    evS (G.g n) (.cons (.iff (.cmp .NotEq (.calC [(k, [i, j])] 8 (.cons (.lam k) .nil)) (.call 9 es)) (.cons (.ret (.lit (.bl false))) .nil) .nil) ss) sl μ = evS (G.g n) ss sl μ := by
  have e1 : evE (G.g n) (.calC [(k, [i, j])] 8 (.cons (.lam k) .nil)) sl μ = .ok (dueD t) μ := by
    show (evL (G.g n) (.cons (.lam k) .nil) sl μ).bind _ = _
    simp only [evL, evE, bind_ok]
    rw [calC2 h0 h1 p0 p1, hh]
  have e2 : evE (G.g n) (.call 9 es) sl μ = .ok (dueD t) μ := by
    show (evL (G.g n) es sl μ).bind _ = _
    rw [he, bind_ok]
    simp [isA_t, hd]
  have e3 : evE (G.g n) (.cmp .NotEq (.calC [(k, [i, j])] 8 (.cons (.lam k) .nil)) (.call 9 es)) sl μ = .ok (.bl false) μ := by
    show (evE (G.g n) (.calC [(k, [i, j])] 8 (.cons (.lam k) .nil)) sl μ).bind _ = _
    rw [e1, bind_ok, e2, bind_ok, same_ne ht]
  show thenO (seqO (tst (evE (G.g n) _ sl μ)) sl _) _ = _
  rw [e3]
  rfl
theorem body5 (n : Nat) {a : Tr} {i : Fin 3} {μ : Sto} {x : Option D} (hn : 42 ≤ n) (ha : a.size ≤ 12) (w : Wf μ) : evS (G.g n) b5 [some (fm a), some a.toD, some (.int i.val), x] μ = .nx [some (fm a), some a.toD, some (.int i.val), some (nl i)] μ := by
  have da := dep_size a
  have pa := isP_t a
  have st : ∀ ss, evS (G.g n) (.cons (.set 3 (.tup (.cons (.lit (.str s_number)) (.cons (.var 2) .nil)))) ss) [some (fm a), some a.toD, some (.int i.val), x] μ = evS (G.g n) ss [some (fm a), some a.toD, some (.int i.val), some (nl i)] μ := fun ss => by
    simp [lim, evS, evE, evL]
  unfold b5
  rw [st]
  rw [test_s (t := .bin 0 a (.lf (.num i))) rfl rfl rfl rfl (h0 n hn (by omega) w) (due _ n (by omega) (by simp only [Tr.dep]; omega) (by simp only [Tr.size]; omega) w) (by simp [lim, evL, evE, pa, Tr.toD, opW, Lf.wd, Lf.tl]) (by simp only [Tr.dep]; omega)]
  rw [test_s (t := .bin 0 (.lf (.num i)) a) rfl rfl rfl rfl (h1 n hn (by omega) w) (due _ n (by omega) (by simp only [Tr.dep]; omega) (by simp only [Tr.size]; omega) w) (by simp [lim, evL, evE, pa, Tr.toD, opW, Lf.wd, Lf.tl]) (by simp only [Tr.dep]; omega)]
  rw [test_s (t := .bin 1 a (.lf (.num i))) rfl rfl rfl rfl (h2 n hn (by omega) w) (due _ n (by omega) (by simp only [Tr.dep]; omega) (by simp only [Tr.size]; omega) w) (by simp [lim, evL, evE, pa, Tr.toD, opW, Lf.wd, Lf.tl]) (by simp only [Tr.dep]; omega)]
  rw [test_s (t := .bin 1 (.lf (.num i)) a) rfl rfl rfl rfl (h3 n hn (by omega) w) (due _ n (by omega) (by simp only [Tr.dep]; omega) (by simp only [Tr.size]; omega) w) (by simp [lim, evL, evE, pa, Tr.toD, opW, Lf.wd, Lf.tl]) (by simp only [Tr.dep]; omega)]
  rw [test_s (t := .bin 2 a (.lf (.num i))) rfl rfl rfl rfl (h4 n hn (by omega) w) (due _ n (by omega) (by simp only [Tr.dep]; omega) (by simp only [Tr.size]; omega) w) (by simp [lim, evL, evE, pa, Tr.toD, opW, Lf.wd, Lf.tl]) (by simp only [Tr.dep]; omega)]
  rw [test_s (t := .bin 2 (.lf (.num i)) a) rfl rfl rfl rfl (h5 n hn (by omega) w) (due _ n (by omega) (by simp only [Tr.dep]; omega) (by simp only [Tr.size]; omega) w) (by simp [lim, evL, evE, pa, Tr.toD, opW, Lf.wd, Lf.tl]) (by simp only [Tr.dep]; omega)]
  rw [test_s (t := .bin 3 a (.lf (.num i))) rfl rfl rfl rfl (h6 n hn (by omega) w) (due _ n (by omega) (by simp only [Tr.dep]; omega) (by simp only [Tr.size]; omega) w) (by simp [lim, evL, evE, pa, Tr.toD, opW, Lf.wd, Lf.tl]) (by simp only [Tr.dep]; omega)]
  rw [test_s (t := .whe a (.lf (.num i)) a) rfl rfl rfl rfl (h7 n hn (by omega) w) (due _ n (by omega) (by simp only [Tr.dep]; omega) (by simp only [Tr.size]; omega) w) (by simp [lim, evL, evE, pa, Tr.toD, opW, Lf.wd, Lf.tl]) (by simp only [Tr.dep]; omega)]
  rw [test_s (t := .whe a a (.lf (.num i))) rfl rfl rfl rfl (h8 n hn (by omega) w) (due _ n (by omega) (by simp only [Tr.dep]; omega) (by simp only [Tr.size]; omega) w) (by simp [lim, evL, evE, pa, Tr.toD, opW, Lf.wd, Lf.tl]) (by simp only [Tr.dep]; omega)]
  rw [test_s (t := .cal i a) rfl rfl rfl rfl (h9 n hn (by omega) w) (due _ n (by omega) (by simp only [Tr.dep]; omega) (by simp only [Tr.size]; omega) w) (by simp [lim, evL, evE, pa, Tr.toD, opW, Lf.wd, Lf.tl]) (by simp only [Tr.dep]; omega)]
  rfl
theorem numbers_right (n : Nat) {a : Tr} {μ : Sto} (hn : 44 ≤ n) (ha : a.size ≤ 12) (w : Wf μ) : (G.g n).Φ 11 [fm a, a.toD] μ = .ok (.bl true) μ := by
  obtain ⟨n, rfl⟩ : ∃ m, n = m + 1 := ⟨n - 1, by omega⟩
  have da := dep_size a
  refine run_ok (d := d11) rfl rfl w rfl ?_
  show outO (evS (G.g n) ir11 (startS 4 [fm a, a.toD]) μ) = _
  have lp : forO (.nm 2) (evS (G.g n) b5) [.int 0, .int 1, .int 2] [some (fm a), some a.toD, none, none] μ = .nx [some (fm a), some a.toD, some (.int 2), some (nl 2)] μ := by
    rw [for_nx (sl1 := [some (fm a), some a.toD, some (.int 0), none]) rfl (body5 n (i := 0) (by omega) ha w), for_nx (sl1 := [some (fm a), some a.toD, some (.int 1), some (nl 0)]) rfl (body5 n (i := 1) (by omega) ha w), for_nx (sl1 := [some (fm a), some a.toD, some (.int 2), some (nl 1)]) rfl (body5 n (i := 2) (by omega) ha w)]
    rfl
  have e1 : evE (G.g n) (.calC [(10, [0])] 8 (.cons (.lam 10) .nil)) [some (fm a), some a.toD, some (.int 2), some (nl 2)] μ = .ok (dueD (.bin 1 (.lf (.num 0)) a)) μ := by
    show (evL (G.g n) (.cons (.lam 10) .nil) _ μ).bind _ = _
    simp only [evL, evE, bind_ok]
    rw [calC1 (c := fm a) rfl rfl, h10 n (by omega) (by omega) w]
  have du : (G.g n).Φ 9 [.tup [.str s_less, .tup [.str s_number, .int 0], a.toD]] μ = .ok (dueD (.bin 1 (.lf (.num 0)) a)) μ := due (.bin 1 (.lf (.num 0)) a) n (by omega) (by simp only [Tr.dep]; omega) (by simp only [Tr.size]; omega) w
  have e2 : evE (G.g n) (.call 9 (.cons (.tup (.cons (.lit (.str s_less)) (.cons (.tup (.cons (.lit (.str s_number)) (.cons (.lit (.int 0)) .nil))) (.cons (.var 1) .nil)))) .nil)) [some (fm a), some a.toD, some (.int 2), some (nl 2)] μ = .ok (dueD (.bin 1 (.lf (.num 0)) a)) μ := by
    simp [lim, evE, evL, isP_t, du]
  have rg : evI (G.g n) (.rng1 (.cons (.lit (.int 3)) .nil)) [some (fm a), some a.toD, none, none] μ = .ok [.int 0, .int 1, .int 2] μ := rfl
  show outO (thenO (seqO (evI (G.g n) (.rng1 (.cons (.lit (.int 3)) .nil)) [some (fm a), some a.toD, none, none] μ) _ fun ds μ => forO (.nm 2) (evS (G.g n) b5) ds [some (fm a), some a.toD, none, none] μ) _) = _
  rw [rg, seq_ok, lp, then_nx]
  show outO (thenO (seqO ((evE (G.g n) (.calC [(10, [0])] 8 (.cons (.lam 10) .nil)) _ μ).bind _) _ _) _) = _
  rw [e1, bind_ok, e2, bind_ok, same_eq (by simp only [Tr.dep]; omega)]
  rfl
theorem eq3 (n : Nat) : (G.g n).eq 3 = some 37 := by cases n <;> rfl
theorem form_eq {a b : Tr} (n : Nat) {μ : Sto} (hn : 2 ≤ n) (ha : a.dep ≤ 60) (hb : b.dep ≤ 60) (w : Wf μ) : (G.g n).Φ 37 [fm a, fm b] μ = .ok (.bl (PyData.eqv a.py b.py)) μ := by
  obtain ⟨n, rfl⟩ : ∃ m, n = m + 1 := ⟨n - 1, by omega⟩
  refine run_ok (d := d37) rfl rfl w rfl ?_
  show outO (evS (G.g n) ir37 (startS 2 [fm a, fm b]) μ) = _
  simp [ir37, evS, evE, evL, isc33, att_f, cmp_eq (eq_tt a b ha hb)]
theorem ins_eq {a b : Tr} (n : Nat) {μ : Sto} (hn : 2 ≤ n) (ha : a.dep ≤ 60) (hb : b.dep ≤ 60) (w : Wf μ) : cmpR .Eq (G.g n).eq (G.g n).Φ (fm a) (fm b) μ = .ok (.bl (PyData.eqv a.py b.py)) μ := by
  unfold cmpR
  have e : cmpD .Eq μ (fm a) (fm b) = none := rfl
  rw [e]
  simp [ownK, insOf, eq3, okR, form_eq n hn ha hb w]
theorem ins_ne {a b : Tr} (n : Nat) {μ : Sto} (hn : 2 ≤ n) (ha : a.dep ≤ 60) (hb : b.dep ≤ 60) (w : Wf μ) : cmpR .NotEq (G.g n).eq (G.g n).Φ (fm a) (fm b) μ = .ok (.bl !(PyData.eqv a.py b.py)) μ := by
  unfold cmpR
  have e : cmpD .NotEq μ (fm a) (fm b) = none := rfl
  rw [e]
  simp [ownK, insOf, eq3, okR, form_eq n hn ha hb w, notR]
theorem pair_right (n : Nat) {a b : Tr} {μ : Sto} (hn : 44 ≤ n) (ha : a.size ≤ 12) (hb : b.size ≤ 12) (w : Wf μ) : (G.g n).Φ 12 [fm a, a.toD, fm b, b.toD] μ = .ok (.bl true) μ := by
  obtain ⟨n, rfl⟩ : ∃ m, n = m + 1 := ⟨n - 1, by omega⟩
  have da := dep_size a
  have db := dep_size b
  have pa := isP_t a
  have pb := isP_t b
  refine run_ok (d := d12) rfl rfl w rfl ?_
  show outO (evS (G.g n) ir12 [some (fm a), some a.toD, some (fm b), some b.toD, none] μ) = _
  unfold ir12
  rw [test_s (t := .bin 0 a b) rfl rfl rfl rfl (h11 n (by omega) (by omega) (by omega) w) (due _ n (by omega) (by simp only [Tr.dep]; omega) (by simp only [Tr.size]; omega) w) (by simp [lim, evL, evE, pa, pb, Tr.toD, opW]) (by simp only [Tr.dep]; omega)]
  rw [test_s (t := .bin 1 a b) rfl rfl rfl rfl (h12 n (by omega) (by omega) (by omega) w) (due _ n (by omega) (by simp only [Tr.dep]; omega) (by simp only [Tr.size]; omega) w) (by simp [lim, evL, evE, pa, pb, Tr.toD, opW]) (by simp only [Tr.dep]; omega)]
  rw [test_s (t := .bin 2 a b) rfl rfl rfl rfl (h13 n (by omega) (by omega) (by omega) w) (due _ n (by omega) (by simp only [Tr.dep]; omega) (by simp only [Tr.size]; omega) w) (by simp [lim, evL, evE, pa, pb, Tr.toD, opW]) (by simp only [Tr.dep]; omega)]
  rw [test_s (t := .bin 3 a b) rfl rfl rfl rfl (h14 n (by omega) (by omega) (by omega) w) (due _ n (by omega) (by simp only [Tr.dep]; omega) (by simp only [Tr.size]; omega) w) (by simp [lim, evL, evE, pa, pb, Tr.toD, opW]) (by simp only [Tr.dep]; omega)]
  rw [test_s (t := .whe a b a) rfl rfl rfl rfl (h15 n (by omega) (by omega) (by omega) w) (due _ n (by omega) (by simp only [Tr.dep]; omega) (by simp only [Tr.size]; omega) w) (by simp [lim, evL, evE, pa, pb, Tr.toD, opW]) (by simp only [Tr.dep]; omega)]
  simp [evS, evE, cmp_eq (eq_tt a b (by omega) (by omega)), ins_eq n (by omega) (show a.dep ≤ 60 by omega) (show b.dep ≤ 60 by omega) w, ins_ne n (by omega) (show a.dep ≤ 60 by omega) (show b.dep ≤ 60 by omega) w]
end K01
namespace K01
open PySem PySem.Spec PyProof.Rows L2 Q
/-! ### comprehensions over trees -/
theorem lc_trees {i : Nat} {test : Sl → Sto → R Bool} {elt : Sl → Sto → R D} {sl : Sl} {μ : Sto} {p : Tr → Bool} {f : Tr → D} (ht : ∀ t, test (sl.set i (some t.toD)) μ = .ok (p t) μ) (he : ∀ t, p t = true → elt (sl.set i (some t.toD)) μ = .ok (f t) μ) :
    ∀ ts : List Tr, lcL (.nm i) test elt sl (ts.map Tr.toD) μ = .ok ((ts.filter p).map f) μ
  | [] => rfl
  | t :: ts => by
    have ih := lc_trees ht he ts
    show (match setT (.nm i) [t.toD] sl with
      | none => R.no
      | some sl1 => (test sl1 μ).bind fun k μ => if k then (elt sl1 μ).bind fun y μ => (lcL (.nm i) test elt sl (ts.map Tr.toD) μ).bind fun ys μ => .ok (y :: ys) μ else lcL (.nm i) test elt sl (ts.map Tr.toD) μ) = _
    have e : setT (.nm i) [t.toD] sl = some (sl.set i (some t.toD)) := rfl
    rw [e]
    dsimp only
    rw [ht t, bind_ok]
    by_cases h : p t = true
    · rw [if_pos h, he t h, bind_ok, ih, bind_ok, List.filter_cons_of_pos h]
      rfl
    · rw [if_neg h, ih, List.filter_cons_of_neg h]
theorem ints_of {α : Type} (f : α → Int) : ∀ xs : List α, intsOf (xs.map fun x => D.int (f x)) = some (xs.map f)
  | [] => rfl
  | x :: xs => by
    show (intsOf (xs.map fun x => D.int (f x))).map (f x :: ·) = _
    rw [ints_of f xs]
    rfl
theorem bls_of {α : Type} (f : α → Bool) : ∀ xs : List α, blsOf (xs.map fun x => D.bl (f x)) = some (xs.map f)
  | [] => rfl
  | x :: xs => by
    show (blsOf (xs.map fun x => D.bl (f x))).map (f x :: ·) = _
    rw [bls_of f xs]
    rfl
theorem wd_ok (t : Tr) : PyData.strOk t.wd = true := by
  cases t with
  | lf l => cases l <;> (simp only [Tr.wd, Lf.wd]; decide +kernel)
  | cal k t => simp only [Tr.wd]; decide +kernel
  | bin o a b => revert o; simp only [Tr.wd]; decide +kernel
  | whe a b c => simp only [Tr.wd]; decide +kernel
/-- the number that stands second -/
def Tr.nm : Tr → Int
  | .lf (.num i) => i.val
  | .lf (.col i) => i.val
  | .lf (.kep i) => i.val
  | .cal k _ => k.val
  | _ => 0
def numw (w : Str) : Prop := w = s_call ∨ w = s_column ∨ w = s_kept
theorem numw_ok {w : Str} (h : numw w) : PyData.strOk w = true := by
  rcases h with rfl | rfl | rfl <;> decide +kernel
theorem sub1_t {μ : Sto} {w : Str} (hw : numw w) (t : Tr) (h : (t.wd == w) = true) : subD μ t.toD (.int 1) = some (.int t.nm) := by
  have e : t.wd = w := by simpa using h
  cases t with
  | lf l =>
    cases l with
    | giv => rcases hw with rfl | rfl | rfl <;> exact absurd e (by show s_given ≠ _; decide)
    | stg => rcases hw with rfl | rfl | rfl <;> exact absurd e (by show s_setting ≠ _; decide)
    | num i => rfl
    | col i => rfl
    | kep i => rfl
  | cal k t => rfl
  | bin o a b =>
    have e : opW o = w := e
    have k : ∀ o : _root_.Fin 4, opW o ≠ s_call ∧ opW o ≠ s_column ∧ opW o ≠ s_kept := by decide
    rcases hw with rfl | rfl | rfl
    · exact absurd e (k o).1
    · exact absurd e (k o).2.1
    · exact absurd e (k o).2.2
  | whe a b c => rcases hw with rfl | rfl | rfl <;> exact absurd e (by show s_when ≠ _; decide)
def nums (w : Str) (t : Tr) : List Int := (t.subs.filter fun s => s.wd == w).map Tr.nm
theorem nums_len (w : Str) (t : Tr) : (nums w t).length ≤ t.size := by
  unfold nums
  rw [List.length_map, ← subs_len]
  exact List.length_filter_le _ _
abbrev numT (w : Str) (t : Tr) : D := .tup ((sortI (setI [] (nums w t))).map .int)
theorem ints_int (is : List Int) : intsOf (is.map .int) = some is := by
  have := ints_of id is
  simpa using this
theorem set_nums {w : Str} {t : Tr} {μ : Sto} (h : t.size ≤ 12) : setR ((nums w t).map .int) μ = .ok (.set ((setI [] (nums w t)).map .int)) μ := by
  have := nums_len w t
  unfold setR
  rw [ints_int]
  dsimp only
  rw [if_pos (by show (nums w t).length + 1 < 4096; omega)]
theorem sort_nums {w : Str} {t : Tr} {μ : Sto} (h : t.size ≤ 12) : fcR .sorted [.set ((setI [] (nums w t)).map .int)] μ = .ok (.lst ((sortI (setI [] (nums w t))).map .int)) μ := by
  have h1 := nums_len w t
  have h2 := setI_len (ks := nums w t) (acc := [])
  show sortSR _ μ = _
  unfold sortSR
  rw [ints_int]
  dsimp only
  rw [if_pos (by simp only [List.length_nil] at h2; omega)]
theorem fcs_of {g : Gm} {f : Fc} {e : E} {sl : Sl} {μ : Sto} {d r : D} (h : evE g e sl μ = .ok d μ) (hr : fcR f [d] μ = .ok r μ) : evE g (.fc f (.cons e .nil)) sl μ = .ok r μ := by
  show ((evE g e sl μ).bind fun d μ => (evL g .nil sl μ).bind fun ds μ => .ok (d :: ds) μ).bind (fcR f) = _
  rw [h]
  exact hr
theorem fbs_of {g : Gm} {f : Fb} {e : E} {sl : Sl} {μ : Sto} {d r : D} (h : evE g e sl μ = .ok d μ) (hr : fbR f [d] μ = .ok r μ) : evE g (.fb f (.cons e .nil)) sl μ = .ok r μ := by
  show ((evE g e sl μ).bind fun d μ => (evL g .nil sl μ).bind fun ds μ => .ok (d :: ds) μ).bind (fbR f) = _
  rw [h]
  exact hr
theorem numbers_of (n : Nat) {w : Str} {t : Tr} {μ : Sto} (hw : numw w) (hn : 30 ≤ n) (hs : t.size ≤ 12) (wf : Wf μ) : (G.g n).Φ 21 [fm t, .str w] μ = .ok (numT w t) μ := by
  obtain ⟨n, rfl⟩ : ∃ m, n = m + 1 := ⟨n - 1, by omega⟩
  have d1 := dep_size t
  refine run_ok (d := d21) rfl rfl wf rfl ?_
  show outO (evS (G.g n) ir21 [some (fm t), some (.str w), none] μ) = _
  have e := trees_in t n (by omega) (by omega) wf
  have lc := lc_trees (i := 2) (test := fun sl μ => tst (evE (G.g n) (.cmp .Eq (.sub (.var 2) (.lit (.int 0))) (.var 1)) sl μ)) (elt := evE (G.g n) (.sub (.var 2) (.lit (.int 1)))) (sl := [some (fm t), some (.str w), none]) (μ := μ) (p := fun s => s.wd == w) (f := fun s => .int s.nm)
    (fun s => by simp [evE, sub0_t, eq_w (wd_ok s) (numw_ok hw)]) (fun s h => by simp [evE, sub1_t hw s h]) t.subs
  have lc : lcL (.nm 2) (fun sl μ => tst (evE (G.g n) (.cmp .Eq (.sub (.var 2) (.lit (.int 0))) (.var 1)) sl μ)) (evE (G.g n) (.sub (.var 2) (.lit (.int 1)))) [some (fm t), some (.str w), none] (rows t) μ = .ok ((nums w t).map .int) μ := by
    rw [lc]
    simp [nums]
  have sc : evE (G.g n) (.sc (.nm 2) [2] (.seq (.call 2 (.cons (.att 0 (.var 0)) .nil))) (.cmp .Eq (.sub (.var 2) (.lit (.int 0))) (.var 1)) (.sub (.var 2) (.lit (.int 1)))) [some (fm t), some (.str w), none] μ = .ok (.set ((setI [] (nums w t)).map .int)) μ := by
    have ei : evI (G.g n) (.seq (.call 2 (.cons (.att 0 (.var 0)) .nil))) [some (fm t), some (.str w), none] μ = .ok (rows t) μ := by
      simp [evI, evE, evL, att_f, isA_t, e]
    show scR _ _ (evI (G.g n) (.seq (.call 2 (.cons (.att 0 (.var 0)) .nil))) [some (fm t), some (.str w), none] μ) _ _ _ = _
    rw [ei]
    show noEx ((lcL _ _ _ [some (fm t), some (.str w), none] (rows t) μ).bind setR) = _
    rw [lc, bind_ok, set_nums hs]
    rfl
  have s1 := fcs_of sc (sort_nums hs)
  have s2 : evE (G.g n) _ _ μ = _ := fbs_of s1 (f := .tuple) rfl
  show outO (thenO (seqO (evE (G.g n) _ _ μ) _ _) _) = _
  rw [s2]
  rfl
/-! the attributes of a form -/
theorem mt13 (n : Nat) : (G.g n).mt 13 3 = some 21 := by cases n <;> rfl
theorem prop_f {k n : Nat} {d : DefI} {w : Str} {t : Tr} {μ : Sto} (hd : G.defs[k]? = some d) (h1 : d.ps.length = 1) (h2 : d.N.length = 1) (h3 : d.ir = .cons (.ret (.met 13 (.var 0) (.cons (.lit (.str w)) .nil))) .nil) (hw : numw w) (hn : 31 ≤ n) (hs : t.size ≤ 12) (wf : Wf μ) : (G.g n).Φ k [fm t] μ = .ok (numT w t) μ := by
  obtain ⟨n, rfl⟩ : ∃ m, n = m + 1 := ⟨n - 1, by omega⟩
  refine run_ok hd h1.symm wf rfl ?_
  rw [h2, h3]
  show outO (evS (G.g n) _ [some (fm t)] μ) = _
  have e := numbers_of n hw (by omega) hs wf (t := t) (μ := μ)
  have q := met_f (n := n) (a := t) (μ := μ) (ds := [.str w]) (ms := evL (G.g n) (.cons (.lit (.str w)) .nil) [some (fm t)]) (mt13 n) (by simp [evL, evE]) rfl
  have r : evE (G.g n) (.met 13 (.var 0) (.cons (.lit (.str w)) .nil)) [some (fm t)] μ = .ok (numT w t) μ := q.trans e
  show outO (thenO (seqO (evE (G.g n) _ _ μ) _ _) _) = _
  rw [r]
  rfl
theorem att_p {n a k : Nat} {w : Str} {t : Tr} {μ : Sto} (hi : (G.g n).ix a 3 = none) (hp : (G.g n).pr a 3 = some k) (h : (G.g n).Φ k [fm t] μ = .ok (numT w t) μ) : attR ((G.g n).ix a) ((G.g n).pr a) (G.g n).Φ (fm t) μ = .ok (numT w t) μ := by
  unfold attR
  simp [insOf, hi, hp, h, noEx]
theorem att1 (n : Nat) {t : Tr} {μ : Sto} (hn : 31 ≤ n) (hs : t.size ≤ 12) (wf : Wf μ) : attR ((G.g n).ix 1) ((G.g n).pr 1) (G.g n).Φ (fm t) μ = .ok (numT s_kept t) μ :=
  att_p (by cases n <;> rfl) (show (G.g n).pr 1 3 = some 24 by cases n <;> rfl) (prop_f (d := d24) rfl rfl rfl rfl (.inr (.inr rfl)) hn hs wf)
theorem att2 (n : Nat) {t : Tr} {μ : Sto} (hn : 31 ≤ n) (hs : t.size ≤ 12) (wf : Wf μ) : attR ((G.g n).ix 2) ((G.g n).pr 2) (G.g n).Φ (fm t) μ = .ok (numT s_column t) μ :=
  att_p (by cases n <;> rfl) (show (G.g n).pr 2 3 = some 23 by cases n <;> rfl) (prop_f (d := d23) rfl rfl rfl rfl (.inr (.inl rfl)) hn hs wf)
theorem att3 (n : Nat) {t : Tr} {μ : Sto} (hn : 31 ≤ n) (hs : t.size ≤ 12) (wf : Wf μ) : attR ((G.g n).ix 3) ((G.g n).pr 3) (G.g n).Φ (fm t) μ = .ok (numT s_call t) μ :=
  att_p (by cases n <;> rfl) (show (G.g n).pr 3 3 = some 22 by cases n <;> rfl) (prop_f (d := d22) rfl rfl rfl rfl (.inl rfl) hn hs wf)
/-! the same tuple of numbers -/
theorem pys_int : ∀ is : List Int, D.pys (is.map .int) = some (is.map .int)
  | [] => rfl
  | i :: is => by
    show (D.py (.int i)).bind (fun p => (D.pys (is.map .int)).map fun ps => p :: ps) = _
    rw [pys_int is]
    rfl
theorem lay_int : ∀ is : List Int, PyData.canLayAll0 (is.map .int) = true
  | [] => rfl
  | i :: is => by
    show (PyData.canLay0 (.int i) && PyData.canLayAll0 (is.map .int)) = true
    rw [lay_int is]
    rfl
theorem dep_int : ∀ is : List Int, PyData.depthAll (is.map .int) ≤ 1
  | [] => by simp [PyData.depthAll]
  | i :: is => by
    have := dep_int is
    simp only [List.map_cons, PyData.depthAll, PyData.depth]
    omega
theorem shp_int (is : List Int) : SeqAt.shaped (.tuple (is.map .int)) = true := by
  have h := dep_int is
  have l : PyData.canLay0 (.tuple (is.map .int)) = true := lay_int is
  unfold SeqAt.shaped
  rw [l, Bool.true_and, decide_eq_true_eq]
  simp only [PyData.depth]
  omega
theorem eq_ints {μ : Sto} (is : List Int) : eqD μ (.tup (is.map .int)) (.tup (is.map .int)) = some true := by
  have e : (D.tup (is.map .int)).py = some (.tuple (is.map .int)) := by
    show (D.pys (is.map .int)).map _ = _
    rw [pys_int]
    rfl
  have l : PyData.canLay0 (.tuple (is.map .int)) = true := lay_int is
  have v : view μ (.tup (is.map .int)) = .tup (is.map .int) := rfl
  unfold eqD
  rw [v, e]
  dsimp only
  rw [shp_int]
  simp [SeqAt.eqv_refl _ l]
theorem body3 (n : Nat) {w : Str} {t : Tr} {μ : Sto} {x : D} (hw : numw w) (hs : t.size ≤ 12) : evS (G.g n) b3 [some x, some t.toD, some (.lst (rows t)), some (.str w), some (numT w t), none, none, none] μ = .nx [some x, some t.toD, some (.lst (rows t)), some (.str w), some (numT w t), none, none, none] μ := by
  have lc := lc_trees (i := 5) (test := fun sl μ => tst (evE (G.g n) (.cmp .Eq (.sub (.var 5) (.lit (.int 0))) (.var 3)) sl μ)) (elt := evE (G.g n) (.fb .int (.cons (.sub (.var 5) (.lit (.int 1))) .nil))) (sl := [some x, some t.toD, some (.lst (rows t)), some (.str w), some (numT w t), none, none, none]) (μ := μ) (p := fun s => s.wd == w) (f := fun s => .int s.nm)
    (fun s => by simp [evE, sub0_t, eq_w (wd_ok s) (numw_ok hw)]) (fun s h => by simp [evE, evL, sub1_t hw s h, fbR]) t.subs
  have l1 : (nums w t).length ≤ lim := by have := nums_len w t; rw [lim_line']; omega
  have ap : ∀ is : List Int, allP (is.map .int) = true := fun is => by induction is with | nil => rfl | cons i is ih => simpa using ih
  have e1 : evE (G.g n) (.lc (.nm 5) [5] (.seq (.var 2)) (.cmp .Eq (.sub (.var 5) (.lit (.int 0))) (.var 3)) (.fb .int (.cons (.sub (.var 5) (.lit (.int 1))) .nil))) [some x, some t.toD, some (.lst (rows t)), some (.str w), some (numT w t), none, none, none] μ = .ok (.lst ((nums w t).map .int)) μ := by
    show noEx ((lcL _ _ _ [some x, some t.toD, some (.lst (rows t)), some (.str w), some (numT w t), none, none, none] (rows t) μ).bind _) = _
    rw [lc, bind_ok]
    rw [show (t.subs.filter fun s => s.wd == w).map (fun s => D.int s.nm) = (nums w t).map .int by simp [nums]]
    rw [if_pos (by simp [ap, l1])]
    rfl
  have e2 := fcs_of (f := .set) e1 (set_nums hs)
  have e3 := fcs_of e2 (sort_nums hs)
  have e4 := fbs_of e3 (f := .tuple) (r := numT w t) rfl
  have e5 : evE (G.g n) (.cmp .NotEq (.var 4) (.fb .tuple (.cons (.fc .sorted (.cons (.fc .set (.cons (.lc (.nm 5) [5] (.seq (.var 2)) (.cmp .Eq (.sub (.var 5) (.lit (.int 0))) (.var 3)) (.fb .int (.cons (.sub (.var 5) (.lit (.int 1))) .nil))) .nil)) .nil)) .nil))) [some x, some t.toD, some (.lst (rows t)), some (.str w), some (numT w t), none, none, none] μ = .ok (.bl false) μ := by
    show (R.of (getS [some x, some t.toD, some (.lst (rows t)), some (.str w), some (numT w t), none, none, none] 4) μ).bind (fun d μ => (evE (G.g n) _ _ μ).bind fun e μ => cmpR .NotEq (G.g n).eq (G.g n).Φ d e μ) = _
    rw [show getS [some x, some t.toD, some (.lst (rows t)), some (.str w), some (numT w t), none, none, none] 4 = some (numT w t) from rfl, of_some', bind_ok, e4, bind_ok, cmp_ne (eq_ints _)]
    rfl
  show thenO (seqO (tst (evE (G.g n) _ _ μ)) _ _) _ = _
  rw [e5]
  rfl
end K01
namespace K01
open PySem PySem.Spec PyProof.Rows L2 Q
abbrev words (t : Tr) : List D := t.subs.map fun s => .str s.wd
def hasW (t : Tr) (w : Str) : Bool := t.subs.any fun s => PyData.eqv (.str s.wd) (.str w)
theorem pys_w : ∀ ts : List Tr, D.pys (ts.map fun s => .str s.wd) = some (ts.map fun s => .str s.wd)
  | [] => rfl
  | t :: ts => by
    show (D.py (.str t.wd)).bind (fun p => (D.pys (ts.map fun s => .str s.wd)).map fun ps => p :: ps) = _
    rw [pys_w ts]
    rfl
theorem lay_w : ∀ ts : List Tr, PyData.canLayAll0 (ts.map fun s => .str s.wd) = true
  | [] => rfl
  | t :: ts => by
    show (PyData.strOk t.wd && PyData.canLayAll0 (ts.map fun s => .str s.wd)) = true
    rw [lay_w ts, wd_ok]
    rfl
theorem dep_w : ∀ ts : List Tr, PyData.depthAll (ts.map fun s => .str s.wd) ≤ 1
  | [] => by simp [PyData.depthAll]
  | t :: ts => by
    have := dep_w ts
    simp only [List.map_cons, PyData.depthAll, PyData.depth]
    omega
theorem shp_w (ts : List Tr) : SeqAt.shaped (.list (ts.map fun s => .str s.wd)) = true := by
  have h := dep_w ts
  have l : PyData.canLay0 (.list (ts.map fun s => .str s.wd)) = true := lay_w ts
  unfold SeqAt.shaped
  rw [l, Bool.true_and, decide_eq_true_eq]
  simp only [PyData.depth]
  omega
theorem in_w {μ : Sto} {w : Str} (h : PyData.strOk w = true) (t : Tr) : inD μ (.str w) (.lst (words t)) = some (hasW t w) := by
  have h1 : SeqAt.shaped (.str w) = true := by simp [SeqAt.shaped, PyData.canLay0, h, PyData.depth]
  show (match some (PyData.str w), D.pys (words t) with
    | some p, some ps => if SeqAt.shaped p && SeqAt.shaped (.list ps) then some (ps.any fun z => PyData.eqv z p) else none
    | _, _ => none) = _
  rw [pys_w]
  dsimp only
  rw [h1, shp_w]
  simp [hasW, List.any_map, Function.comp_def]
theorem lc_words {g : Gm} {i : Nat} {e : E} {sl : Sl} {t : Tr} {μ : Sto} (hi : evI g e sl μ = .ok (rows t) μ) (hg : ∀ d, getS ((wipeS sl [i]).set i (some d)) i = some d) (hs : t.size ≤ 1000) : evE g (.lc0 (.nm i) [i] e (.sub (.var i) (.lit (.int 0)))) sl μ = .ok (.lst (words t)) μ := by
  have lc := lc_trees (i := i) (test := fun _ μ => .ok true μ) (elt := evE g (.sub (.var i) (.lit (.int 0)))) (sl := wipeS sl [i]) (μ := μ) (p := fun _ => true) (f := fun s => .str s.wd) (fun _ => rfl) (fun s _ => by simp [evE, hg, sub0_t]) t.subs
  have l1 : (words t).length ≤ lim := by rw [List.length_map, subs_len, lim_line']; omega
  have ap : ∀ ts : List Tr, allP (ts.map fun s => D.str s.wd) = true := fun ts => by induction ts with | nil => rfl | cons i is ih => simpa using ih
  show lcR _ _ (evI g e sl μ) _ _ _ = _
  rw [hi]
  show noEx ((lcL _ _ _ (wipeS sl [i]) (rows t) μ).bind _) = _
  rw [lc, bind_ok]
  rw [show t.subs.filter (fun _ => true) = t.subs by simp]
  rw [if_pos (by rw [ap, Bool.and_true, decide_eq_true_eq]; exact l1)]
  rfl
/-- word in form -/
theorem has_s (n : Nat) {w : Str} {t : Tr} {μ : Sto} (hw : PyData.strOk w = true) (hn : 30 ≤ n) (hs : t.size ≤ 12) (wf : Wf μ) : (G.g n).Φ 35 [fm t, .str w] μ = .ok (.bl (hasW t w)) μ := by
  obtain ⟨n, rfl⟩ : ∃ m, n = m + 1 := ⟨n - 1, by omega⟩
  have d1 := dep_size t
  refine run_ok (d := d35) rfl rfl wf rfl ?_
  show outO (evS (G.g n) ir35 [some (fm t), some (.str w), none] μ) = _
  have e := trees_in t n (by omega) (by omega) wf
  have ei : evI (G.g n) (.seq (.call 2 (.cons (.att 0 (.var 0)) .nil))) [some (fm t), some (.str w), none] μ = .ok (rows t) μ := by
    simp [evI, evE, evL, att_f, isA_t, e]
  have l := lc_words (i := 2) ei (fun d => rfl) (by omega)
  have q : evE (G.g n) (.isin false (.var 1) (.lc0 (.nm 2) [2] (.seq (.call 2 (.cons (.att 0 (.var 0)) .nil))) (.sub (.var 2) (.lit (.int 0))))) [some (fm t), some (.str w), none] μ = .ok (.bl (hasW t w)) μ := by
    show (R.of (getS [some (fm t), some (.str w), none] 1) μ).bind (fun d μ => (evE (G.g n) _ _ μ).bind fun e μ => Q.inR false (G.g n).cn (G.g n).Φ d e μ) = _
    rw [show getS [some (fm t), some (.str w), none] 1 = some (.str w) from rfl, of_some', bind_ok, l, bind_ok, in_some (in_w hw t)]
    rfl
  have r : evE (G.g n) (.and (.isi (.cons (.var 1) (.cons (.ty .str) .nil))) (.isin false (.var 1) (.lc0 (.nm 2) [2] (.seq (.call 2 (.cons (.att 0 (.var 0)) .nil))) (.sub (.var 2) (.lit (.int 0)))))) [some (fm t), some (.str w), none] μ = .ok (.bl (hasW t w)) μ := by
    show andR (evE (G.g n) (.isi (.cons (.var 1) (.cons (.ty .str) .nil))) _ μ) _ = _
    rw [show evE (G.g n) (.isi (.cons (.var 1) (.cons (.ty .str) .nil))) [some (fm t), some (.str w), none] μ = .ok (.bl true) μ from rfl, and_bl, if_pos rfl, q]
  show outO (thenO (seqO (evE (G.g n) _ _ μ) _ _) _) = _
  rw [r]
  rfl
theorem has_no (n : Nat) {d : D} {t : Tr} {μ : Sto} (hd : isiR (G.g n).isc [d, .ty .str] μ = .ok (.bl false) μ) (wf : Wf μ) : (G.g (n + 1)).Φ 35 [fm t, d] μ = .ok (.bl false) μ := by
  refine run_ok (d := d35) rfl rfl wf rfl ?_
  show outO (evS (G.g n) ir35 [some (fm t), some d, none] μ) = _
  have e : evE (G.g n) (.isi (.cons (.var 1) (.cons (.ty .str) .nil))) [some (fm t), some d, none] μ = .ok (.bl false) μ := hd
  show outO (thenO (seqO (andR (evE (G.g n) (.isi (.cons (.var 1) (.cons (.ty .str) .nil))) [some (fm t), some d, none] μ) _) _ _) _) = _
  rw [e]
  rfl
theorem cn3 (n : Nat) : (G.g n).cn 3 = some 35 := by cases n <;> rfl
theorem ln3 (n : Nat) : (G.g n).ln 3 = some 36 := by cases n <;> rfl
theorem in_f {n : Nat} {d : D} {t : Tr} {μ : Sto} {k : Bool} (ha : isA d = true) (h : (G.g n).Φ 35 [fm t, d] μ = .ok (.bl k) μ) : Q.inR false (G.g n).cn (G.g n).Φ d (fm t) μ = .ok (.bl k) μ := by
  unfold Q.inR
  rw [show inD μ d (fm t) = none from rfl]
  simp [ownK, insOf, cn3, ha, h]
theorem len_f (n : Nat) {t : Tr} {μ : Sto} (hn : 30 ≤ n) (hs : t.size ≤ 12) (wf : Wf μ) : lenR (G.g n).ln (G.g n).Φ [fm t] μ = .ok (.int t.size) μ := by
  have d1 := dep_size t
  have e : (G.g n).Φ 36 [fm t] μ = .ok (.int t.size) μ := by
    obtain ⟨n, rfl⟩ : ∃ m, n = m + 1 := ⟨n - 1, by omega⟩
    refine run_ok (d := d36) rfl rfl wf rfl ?_
    show outO (evS (G.g n) ir36 [some (fm t)] μ) = _
    have e := trees_in t n (by omega) (by omega) wf
    have l : lenD μ (.lst (rows t)) = some t.size := by show some (rows t).length = _; rw [rows_len]
    simp [ir36, evS, evE, evL, att_f, isA_t, e, len_some l]
  have hb : (decide ((0 : Int) ≤ t.size) && decide ((t.size : Int) < 9223372036854775808)) = true := by
    rw [Bool.and_eq_true, decide_eq_true_eq, decide_eq_true_eq]
    omega
  have ow : ownK (G.g n).ln μ (fm t) = some (3, 36) := by
    show ((G.g n).ln 3).map (fun k => (3, k)) = _
    rw [ln3]
    rfl
  unfold lenR
  dsimp only
  rw [show lenD μ (fm t) = none from rfl]
  dsimp only
  rw [ow]
  dsimp only
  rw [callA_eq, if_pos (show allA [fm t] = true from rfl), e, bind_ok]
  dsimp only
  rw [if_pos hb]
/-! one_right -/
theorem body4 (n : Nat) {w : Str} {t : Tr} {μ : Sto} {x y : Option D} (hw : PyData.strOk w = true) (hn : 30 ≤ n) (hs : t.size ≤ 12) (wf : Wf μ) : evS (G.g n) b4 [some (fm t), some t.toD, some (.lst (rows t)), some (.str w), x, y, some (.lst (words t)), none] μ = .nx [some (fm t), some t.toD, some (.lst (rows t)), some (.str w), x, y, some (.lst (words t)), none] μ := by
  simp [b4, evS, evE, in_f rfl (has_s n hw hn hs wf), in_some (in_w hw t)]
theorem for_words {n : Nat} {t : Tr} {μ : Sto} {x y : Option D} (hn : 30 ≤ n) (hs : t.size ≤ 12) (wf : Wf μ) : ∀ (ws : List Str) (z : Option D), (∀ w ∈ ws, PyData.strOk w = true) → ∃ z', forO (.nm 3) (evS (G.g n) b4) (ws.map .str) [some (fm t), some t.toD, some (.lst (rows t)), z, x, y, some (.lst (words t)), none] μ = .nx [some (fm t), some t.toD, some (.lst (rows t)), z', x, y, some (.lst (words t)), none] μ
  | [], z, _ => ⟨z, rfl⟩
  | w :: ws, z, h => by
    obtain ⟨z', e⟩ := for_words hn hs wf ws (some (.str w)) (fun v hv => h v (List.mem_cons_of_mem _ hv))
    refine ⟨z', ?_⟩
    show forO (.nm 3) (evS (G.g n) b4) (.str w :: ws.map .str) _ μ = _
    rw [for_nx (sl1 := [some (fm t), some t.toD, some (.lst (rows t)), some (.str w), x, y, some (.lst (words t)), none]) rfl (body4 n (h w (.head _)) hn hs wf)]
    exact e
theorem lc_all {i : Nat} {elt : Sl → Sto → R D} {sl : Sl} {μ : Sto} {f : D → D} : ∀ ds : List D, (∀ d ∈ ds, elt (sl.set i (some d)) μ = .ok (f d) μ) → lcL (.nm i) (fun _ μ => .ok true μ) elt sl ds μ = .ok (ds.map f) μ
  | [], _ => rfl
  | d :: ds, h => by
    have ih := lc_all ds (fun e he => h e (List.mem_cons_of_mem _ he))
    show ((elt (sl.set i (some d)) μ).bind fun y μ => (lcL (.nm i) (fun _ μ => .ok true μ) elt sl ds μ).bind fun ys μ => .ok (y :: ys) μ) = _
    rw [h d (.head _), bind_ok, ih]
    rfl
def odd (w : Str) : Prop := w = s_e ∨ w = s_Sum ∨ w = s_forms
theorem odd_no {w : Str} (h : odd w) (t : Tr) : PyData.eqv (.str t.wd) (.str w) = false := by
  cases t with
  | lf l => cases l <;> (rcases h with rfl | rfl | rfl <;> (simp only [Tr.wd, Lf.wd]; decide +kernel))
  | cal k t => rcases h with rfl | rfl | rfl <;> (simp only [Tr.wd]; decide +kernel)
  | bin o a b => rcases h with rfl | rfl | rfl <;> (revert o; simp only [Tr.wd]; decide +kernel)
  | whe a b c => rcases h with rfl | rfl | rfl <;> (simp only [Tr.wd]; decide +kernel)
theorem odd_has {w : Str} (h : odd w) (t : Tr) : hasW t w = false := by
  unfold hasW
  rw [List.any_eq_false]
  intro s _
  rw [odd_no h s]
  decide
theorem odd_ok {w : Str} (h : odd w) : PyData.strOk w = true := by rcases h with rfl | rfl | rfl <;> decide +kernel
theorem one_right (n : Nat) {a : Tr} {μ : Sto} (hn : 44 ≤ n) (hs : a.size ≤ 12) (w : Wf μ) : (G.g n).Φ 10 [fm a, a.toD] μ = .ok (.bl true) μ := by
  obtain ⟨n, rfl⟩ : ∃ m, n = m + 2 := ⟨n - 2, by omega⟩
  have d1 := dep_size a
  have pa := isP_t a
  refine run_ok (d := d10) rfl rfl w rfl ?_
  show outO (evS (G.g (n + 1)) ir10 [some (fm a), some a.toD, none, none, none, none, none, none] μ) = _
  have e := law_in a (n + 1) (by omega) (by omega) w
  have l : lenD μ (.lst (rows a)) = some a.size := by show some (rows a).length = _; rw [rows_len]
  have nw : ∀ t : Tr, True := fun _ => trivial
  -- the first two statements
  have s1 : ∀ ss, evS (G.g (n + 1)) (.cons (.set 2 (.call 7 (.cons (.var 1) .nil))) (.cons (.iff (.or (.cmp .NotEq (.att 0 (.var 0)) (.var 1)) (.cmp .NotEq (.len (.cons (.var 0) .nil)) (.len (.cons (.var 2) .nil)))) (.cons (.ret (.lit (.bl false))) .nil) .nil) ss)) [some (fm a), some a.toD, none, none, none, none, none, none] μ = evS (G.g (n + 1)) ss [some (fm a), some a.toD, some (.lst (rows a)), none, none, none, none, none] μ := fun ss => by
    simp [evS, evE, evL, isA_t, e, att_f, cmp_ne (eq_self a (by omega)), len_f (n + 1) (by omega) hs w, len_some l]
  unfold ir10
  rw [s1]
  -- the loop over the properties
  have i1 : evI (G.g (n + 1)) (.seq (.tup (.cons (.tup (.cons (.lit (.str s_call)) (.cons (.att 3 (.var 0)) .nil))) (.cons (.tup (.cons (.lit (.str s_column)) (.cons (.att 2 (.var 0)) .nil))) (.cons (.tup (.cons (.lit (.str s_kept)) (.cons (.att 1 (.var 0)) .nil))) .nil))))) [some (fm a), some a.toD, some (.lst (rows a)), none, none, none, none, none] μ = .ok [.tup [.str s_call, numT s_call a], .tup [.str s_column, numT s_column a], .tup [.str s_kept, numT s_kept a]] μ := by
    simp [lim, evI, evE, evL, att1 (n + 1) (by omega) hs w, att2 (n + 1) (by omega) hs w, att3 (n + 1) (by omega) hs w]
  have lp : forO (.tp (.cons (.nm 3) (.cons (.nm 4) .nil))) (evS (G.g (n + 1)) b3) [.tup [.str s_call, numT s_call a], .tup [.str s_column, numT s_column a], .tup [.str s_kept, numT s_kept a]] [some (fm a), some a.toD, some (.lst (rows a)), none, none, none, none, none] μ = .nx [some (fm a), some a.toD, some (.lst (rows a)), some (.str s_kept), some (numT s_kept a), none, none, none] μ := by
    rw [for_nx (sl1 := [some (fm a), some a.toD, some (.lst (rows a)), some (.str s_call), some (numT s_call a), none, none, none]) rfl (body3 (n + 1) (.inl rfl) hs),
      for_nx (sl1 := [some (fm a), some a.toD, some (.lst (rows a)), some (.str s_column), some (numT s_column a), none, none, none]) rfl (body3 (n + 1) (.inr (.inl rfl)) hs),
      for_nx (sl1 := [some (fm a), some a.toD, some (.lst (rows a)), some (.str s_kept), some (numT s_kept a), none, none, none]) rfl (body3 (n + 1) (.inr (.inr rfl)) hs)]
    rfl
  show outO (thenO (seqO (evI (G.g (n + 1)) _ _ μ) _ fun ds μ => forO (.tp (.cons (.nm 3) (.cons (.nm 4) .nil))) (evS (G.g (n + 1)) b3) ds [some (fm a), some a.toD, some (.lst (rows a)), none, none, none, none, none] μ) _) = _
  rw [i1, seq_ok, lp, then_nx]
  -- the words
  have ew := lc_words (g := G.g (n + 1)) (i := 5) (e := .seq (.var 2)) (sl := [some (fm a), some a.toD, some (.lst (rows a)), some (.str s_kept), some (numT s_kept a), none, none, none]) (t := a) (μ := μ) rfl (fun d => rfl) (by omega)
  show outO (thenO (seqO (evE (G.g (n + 1)) _ _ μ) _ _) _) = _
  rw [ew, seq_ok, then_nx]
  obtain ⟨z, ez⟩ := for_words (n := n + 1) (t := a) (μ := μ) (x := some (numT s_kept a)) (y := none) (by omega) hs w [s_number, s_given, s_setting, s_column, s_kept, s_call, s_sum, s_less, s_times, s_same, s_when] (some (.str s_kept)) (by intro v hv; simp at hv; rcases hv with rfl | rfl | rfl | rfl | rfl | rfl | rfl | rfl | rfl | rfl | rfl <;> decide +kernel)
  show outO (thenO (forO (.nm 3) (evS (G.g (n + 1)) b4) ([s_number, s_given, s_setting, s_column, s_kept, s_call, s_sum, s_less, s_times, s_same, s_when].map .str) _ μ) _) = _
  have ez' : forO (.nm 3) (evS (G.g (n + 1)) b4) ([s_number, s_given, s_setting, s_column, s_kept, s_call, s_sum, s_less, s_times, s_same, s_when].map .str) (([some (fm a), some a.toD, some (.lst (rows a)), some (.str s_kept), some (numT s_kept a), none, none, none] : Sl).set 6 (some (.lst (words a)))) μ = _ := ez
  rw [ez', then_nx]
  -- nothing else is in it
  have el : ∀ d ∈ [D.str s_e, .str s_Sum, .non, .int 0, a.toD, fm a, .lst [], .str s_forms], evE (G.g (n + 1)) (.isin false (.var 7) (.var 0)) (([some (fm a), some a.toD, some (.lst (rows a)), z, some (numT s_kept a), none, some (.lst (words a)), none] : Sl).set 7 (some d)) μ = .ok ((fun _ => D.bl false) d) μ := by
    intro d hd
    have key : ∀ d, isA d = true → (G.g (n + 1)).Φ 35 [fm a, d] μ = .ok (.bl false) μ → evE (G.g (n + 1)) (.isin false (.var 7) (.var 0)) (([some (fm a), some a.toD, some (.lst (rows a)), z, some (numT s_kept a), none, some (.lst (words a)), none] : Sl).set 7 (some d)) μ = .ok (.bl false) μ := fun d h1 h2 => by
      show (R.of (some d) μ).bind (fun d μ => (R.of (some (fm a)) μ).bind fun e μ => Q.inR false (G.g (n + 1)).cn (G.g (n + 1)).Φ d e μ) = _
      rw [of_some', bind_ok, of_some', bind_ok, in_f h1 h2]
    have st : ∀ w', odd w' → (G.g (n + 1)).Φ 35 [fm a, .str w'] μ = .ok (.bl false) μ := fun w' ho => by
      rw [has_s (n + 1) (odd_ok ho) (by omega) hs w, odd_has ho]
    simp only [List.mem_cons, List.not_mem_nil, or_false] at hd
    rcases hd with rfl | rfl | rfl | rfl | rfl | rfl | rfl | rfl
    · exact key _ rfl (st _ (.inl rfl))
    · exact key _ rfl (st _ (.inr (.inl rfl)))
    · exact key _ rfl (has_no n rfl w)
    · exact key _ rfl (has_no n rfl w)
    · exact key _ (isA_t a) (has_no n (by simp [tag_t, subTy]) w)
    · exact key _ rfl (has_no n (by simp [isc33]) w)
    · exact key _ rfl (has_no n rfl w)
    · exact key _ rfl (st _ (.inr (.inr rfl)))
  have lc := lc_all (i := 7) (elt := evE (G.g (n + 1)) (.isin false (.var 7) (.var 0))) (sl := [some (fm a), some a.toD, some (.lst (rows a)), z, some (numT s_kept a), none, some (.lst (words a)), none]) (μ := μ) (f := fun _ => .bl false) _ el
  have i2 : evI (G.g (n + 1)) (.seq (.tup (.cons (.lit (.str s_e)) (.cons (.lit (.str s_Sum)) (.cons (.lit .non) (.cons (.lit (.int 0)) (.cons (.var 1) (.cons (.var 0) (.cons (.lst .nil) (.cons (.lit (.str s_forms)) .nil)))))))))) [some (fm a), some a.toD, some (.lst (rows a)), z, some (numT s_kept a), none, some (.lst (words a)), none] μ = .ok [.str s_e, .str s_Sum, .non, .int 0, a.toD, fm a, .lst [], .str s_forms] μ := by
    simp [lim, evI, evE, evL, pa]
  have e3 : evE (G.g (n + 1)) (.lc0 (.nm 7) [7] (.seq (.tup (.cons (.lit (.str s_e)) (.cons (.lit (.str s_Sum)) (.cons (.lit .non) (.cons (.lit (.int 0)) (.cons (.var 1) (.cons (.var 0) (.cons (.lst .nil) (.cons (.lit (.str s_forms)) .nil)))))))))) (.isin false (.var 7) (.var 0))) [some (fm a), some a.toD, some (.lst (rows a)), z, some (numT s_kept a), none, some (.lst (words a)), none] μ = .ok (.lst [.bl false, .bl false, .bl false, .bl false, .bl false, .bl false, .bl false, .bl false]) μ := by
    show lcR _ _ (evI (G.g (n + 1)) _ _ μ) _ _ _ = _
    rw [i2]
    show noEx ((lcL _ _ _ [some (fm a), some a.toD, some (.lst (rows a)), z, some (numT s_kept a), none, some (.lst (words a)), none] _ μ).bind _) = _
    rw [lc]
    rfl
  have e4 := fbs_of e3 (f := .any) (r := .bl false) rfl
  show outO (thenO (seqO ((evE (G.g (n + 1)) _ _ μ).bind _) _ _) _) = _
  rw [e4]
  rfl
end K01
namespace K01
open PySem PySem.Spec PyProof.Rows L2 Q
/-! ### numbers of a script -/
section
variable {μ : Sto} {i j : Int} {fw rv : Nat → Option Nat} {Φ : Nat → List D → Sto → R D}
theorem bin_mod (h : 0 < j) : binR .Mod fw rv Φ (.int i) (.int j) μ = .ok (.int (i % j)) μ := bin_some (by show (if _ then _ else _) = _; rw [if_pos h])
theorem bin_div (h : 0 < j ∧ j < 1073741824) : binR .FloorDiv fw rv Φ (.int i) (.int j) μ = .ok (.int (i / j)) μ := bin_some (by show (if _ then _ else _) = _; rw [if_pos h])
theorem bin_mulL (h1 : -18446744073709551616 < i) (h2 : i < 18446744073709551616) : binR .Mult fw rv Φ (.int i) (.int j) μ = .ok (.int (i * j)) μ := bin_some (by
  show (if _ then _ else _) = _
  rw [if_pos]
  rw [Bool.or_eq_true, Bool.and_eq_true, decide_eq_true_eq, decide_eq_true_eq]
  exact .inl ⟨h1, h2⟩)
theorem bin_mulR (h1 : -18446744073709551616 < j) (h2 : j < 18446744073709551616) : binR .Mult fw rv Φ (.int i) (.int j) μ = .ok (.int (i * j)) μ := bin_some (by
  show (if _ then _ else _) = _
  rw [if_pos]
  rw [Bool.or_eq_true, Bool.and_eq_true, Bool.and_eq_true, decide_eq_true_eq, decide_eq_true_eq, decide_eq_true_eq, decide_eq_true_eq]
  exact .inr ⟨h1, h2⟩)
@[simp] theorem fb_int : fbR .int [.int i] μ = .ok (.int i) μ := rfl
end
theorem at_in {α : Type} {xs : List α} {i : Int} (h0 : 0 ≤ i) (h1 : i < xs.length) : ∃ y ∈ xs, L2.atI xs i = some y := by
  unfold L2.atI L2.ixN
  rw [if_pos h0, if_pos h1]
  have hj : i.toNat < xs.length := by omega
  exact ⟨xs[i.toNat], List.getElem_mem hj, by show xs[i.toNat]? = _; rw [List.getElem?_eq_getElem hj]⟩
theorem mod_in {xs : List D} {i : Int} (h : 1 ≤ xs.length) : ∃ y ∈ xs, L2.atI xs (i % (xs.length : Int)) = some y :=
  at_in (Int.emod_nonneg _ (by omega)) (Int.emod_lt_of_pos _ (by omega))
abbrev scr (ns : List Int) : D := .slst (ns.map .int)
theorem scr_nil {μ : Sto} (ns : List Int) : ∃ k, eqD μ (scr ns) (.lst []) = some k ∧ (k = true ↔ ns = []) := by
  have e : (D.lst (ns.map .int)).py = some (.list (ns.map .int)) := by
    show (D.pys (ns.map .int)).map _ = _
    rw [pys_int]
    rfl
  have l : PyData.canLay0 (.list (ns.map .int)) = true := lay_int ns
  have h := dep_int ns
  have s : SeqAt.shaped (.list (ns.map .int)) = true := by
    unfold SeqAt.shaped
    rw [l, Bool.true_and, decide_eq_true_eq]
    simp only [PyData.depth]
    omega
  refine ⟨PyData.eqv (.list (ns.map .int)) (.list []), ?_, ?_⟩
  · unfold eqD
    rw [show view μ (scr ns) = .lst (ns.map .int) from rfl, e]
    show (if (SeqAt.shaped (.list (ns.map .int)) && SeqAt.shaped (.list [])) = true then _ else _) = _
    rw [s, if_pos (by decide +kernel)]
  · cases ns with
    | nil => exact ⟨fun _ => rfl, fun _ => by decide +kernel⟩
    | cons n ns => exact ⟨fun h => by simp [PyData.eqv, PyData.eqvAll] at h, fun h => by cases h⟩
def cells (ns : List Int) : List Int := if ns = [] then [5] else ns
theorem cells_len (ns : List Int) (h : ns.length ≤ 63) : 1 ≤ (cells ns).length ∧ (cells ns).length ≤ 63 := by
  unfold cells
  split
  · exact ⟨Nat.le_refl _, by simp⟩
  · rename_i h1
    exact ⟨by cases ns with | nil => exact absurd rfl h1 | cons => simp, h⟩
theorem cut63 {xs : List D} (h : xs.length ≤ 63) : cutL xs none (some 63) = xs := by
  unfold cutL
  rw [HT.sIx_none]
  have e : HT.sIx xs.length xs.length (some 63) = xs.length := by
    have := HT.sIx_nat xs.length xs.length 63
    rw [show ((63 : Nat) : Int) = 63 from rfl] at this
    rw [this]
    omega
  rw [e]
  simp
theorem cells_e {n : Nat} {μ : Sto} {ns : List Int} {sl : Sl} (h : ns.length ≤ 63) (h0 : getS sl 0 = some (scr ns)) : evE (G.g n) (.ife (.cmp .NotEq (.var 0) (.lst .nil)) (.slc (.var 0) .nil (.lit (.int 63))) (.lst (.cons (.lit (.int 5)) .nil))) sl μ = .ok (.lst ((cells ns).map .int)) μ := by
  obtain ⟨k, e, hk⟩ := scr_nil (μ := μ) ns
  have c : cutR (scr ns) none (some 63) μ = .ok (.lst (ns.map .int)) μ := by
    show R.ok (D.lst (cutL (ns.map .int) none (some 63))) μ = _
    rw [cut63 (by simpa using h)]
  unfold cells
  cases k with
  | true =>
    rw [if_pos (hk.mp rfl)]
    simp [lim, evE, evL, h0, cmp_ne e, isNil]
  | false =>
    have hn : ns ≠ [] := fun z => by have := hk.mpr z; cases this
    simp [lim, evE, evL, h0, cmp_ne e, hn, isNil, c]
theorem number (ns : List Int) (h : ns.length ≤ 63) (n : Nat) (ix : Int) {μ : Sto} (w : Wf μ) : ∃ r : Int, 0 ≤ r ∧ (G.g (n + 1)).Φ 4 [scr ns, .int ix] μ = .ok (.int r) μ := by
  have hl := cells_len ns h
  have ml : ((cells ns).map D.int).length = (cells ns).length := by simp
  obtain ⟨y, hy, ey⟩ := mod_in (xs := (cells ns).map .int) (i := ix) (by rw [ml]; exact hl.1)
  obtain ⟨c, hc, rfl⟩ := List.mem_map.mp hy
  rw [ml] at ey
  have ln : lenD μ (.lst ((cells ns).map .int)) = some (cells ns).length := by show some _ = _; rw [ml]
  have sb : subD μ (.lst ((cells ns).map .int)) (.int (ix % ((cells ns).length : Int))) = some (.int c) := ey
  have sm : fbR .sum [.lst ((cells ns).map .int)] μ = .ok (.int (sumI (cells ns))) μ := by
    show R.of ((intsOf ((cells ns).map .int)).map fun is => D.int (sumI is)) μ = _
    rw [ints_int]
    rfl
  have p0 : (0 : Int) < ((cells ns).length : Int) := by omega
  have p1 : (0 : Int) < ((cells ns).length : Int) ∧ ((cells ns).length : Int) < 1073741824 := by omega
  have b0 : ∀ x : Int, -18446744073709551616 < x % 2147483647 := fun x => by omega
  have b1 : ∀ x : Int, x % 2147483647 < 18446744073709551616 := fun x => by omega
  obtain ⟨v, hv⟩ : ∃ v : Int, v = c + 13 * (ix / ((cells ns).length : Int)) := ⟨_, rfl⟩
  obtain ⟨bl, hbl⟩ : ∃ bl : Int, bl = ((v % 1000003 + 977 * ix) * 48271 + 31 * (v / 1000003 % 999983) + sumI (cells ns) % 65521) % 2147483647 := ⟨_, rfl⟩
  have hb0 : -18446744073709551616 < bl := by rw [hbl]; exact b0 _
  have hb1 : bl < 18446744073709551616 := by rw [hbl]; exact b1 _
  refine ⟨bl * (bl + 31 * ix + 7) % 2147483629 * 65537 + v / 1000003 % 999983, by omega, ?_⟩
  refine run_ok (d := d4) rfl rfl w rfl ?_
  show outO (evS (G.g n) ir4 [some (scr ns), some (.int ix), none, none, none, none, none, none] μ) = _
  unfold ir4
  have s1 : ∀ ss, evS (G.g n) (.cons (.set 2 (.ife (.cmp .NotEq (.var 0) (.lst .nil)) (.slc (.var 0) .nil (.lit (.int 63))) (.lst (.cons (.lit (.int 5)) .nil)))) ss) [some (scr ns), some (.int ix), none, none, none, none, none, none] μ = evS (G.g n) ss [some (scr ns), some (.int ix), some (.lst ((cells ns).map .int)), none, none, none, none, none] μ := fun ss => by
    show thenO (seqO (evE (G.g n) _ _ μ) _ _) _ = _
    rw [cells_e h rfl]
    rfl
  rw [s1]
  have s2 : ∀ ss, evS (G.g n) (.cons (.set 3 (.bin .Add (.sub (.var 2) (.bin .Mod (.fb .int (.cons (.var 1) .nil)) (.len (.cons (.var 2) .nil)))) (.bin .Mult (.lit (.int 13)) (.bin .FloorDiv (.var 1) (.len (.cons (.var 2) .nil)))))) ss) [some (scr ns), some (.int ix), some (.lst ((cells ns).map .int)), none, none, none, none, none] μ = evS (G.g n) ss [some (scr ns), some (.int ix), some (.lst ((cells ns).map .int)), some (.int v), none, none, none, none] μ := fun ss => by
    simp [evS, evE, evL, len_some ln, bin_mod p0, bin_div p1, sb, bin_mulL (i := 13) (by decide) (by decide), hv]
  rw [s2]
  have hp : ∀ a b (sl : Sl) (k : Sl → Sto → O), thenO (parO 4 5 sl [a, b] μ) k = k ((sl.set 4 (some a)).set 5 (some b)) μ := fun a b sl k => rfl
  simp only [evS, evE, evL, getS_zero, getS_succ, of_some', bind_ok, fb_int, bin_mod (show (0 : Int) < 1000003 by decide), bin_mod (show (0 : Int) < 999983 by decide), bin_mod (show (0 : Int) < 65521 by decide), bin_mod (show (0 : Int) < 2147483647 by decide), bin_mod (show (0 : Int) < 2147483629 by decide), bin_div (show (0 : Int) < 1000003 ∧ (1000003 : Int) < 1073741824 by decide), seq_ok, hp, List.set, sm, then_nx, bin_addI,
    bin_mulL (i := 977) (by decide) (by decide), bin_mulL (i := 31) (by decide) (by decide), bin_mulR (j := 48271) (by decide) (by decide), bin_mulR (j := 65537) (by decide) (by decide), ← hbl, bin_mulL hb0 hb1, then_rt, out_int]
end K01
namespace K01
open PySem PySem.Spec PyProof.Rows L2 Q
/-! ### trees of a script -/
def LV : List Tr := [.lf .giv, .lf .stg, .lf (.num 0), .lf (.num 2), .lf (.col 0), .lf (.col 1), .lf (.kep 0), .lf (.kep 1), .lf (.num 1)]
def LVD : D := .lst (LV.map Tr.toD)
def CLD : D := .lst [.int 0, .int 1, .int 2]
theorem lv_at {μ : Sto} (x : Int) : ∃ t : Tr, t.size = 1 ∧ subD μ LVD (.int (x % 9)) = some t.toD := by
  obtain ⟨y, hy, e⟩ := mod_in (xs := LV.map Tr.toD) (i := x) (by decide)
  obtain ⟨t, ht, rfl⟩ := List.mem_map.mp hy
  refine ⟨t, ?_, e⟩
  have : ∀ t ∈ LV, t.size = 1 := by simp [LV, Tr.size]
  exact this t ht
theorem cl_at {μ : Sto} (x : Int) : ∃ k : _root_.Fin 3, subD μ CLD (.int (x % 3)) = some (.int k.val) := by
  obtain ⟨y, hy, e⟩ := mod_in (xs := [.int 0, .int 1, .int 2]) (i := x) (by decide)
  have e : subD μ CLD (.int (x % 3)) = some y := e
  simp only [List.mem_cons, List.not_mem_nil, or_false] at hy
  rcases hy with rfl | rfl | rfl
  · exact ⟨0, e⟩
  · exact ⟨1, e⟩
  · exact ⟨2, e⟩
theorem op_at {μ : Sto} (x : Int) : ∃ o : _root_.Fin 4, subD μ (.tup [.str s_sum, .str s_less, .str s_times, .str s_same]) (.int (x % 4)) = some (.str (opW o)) := by
  obtain ⟨y, hy, e⟩ := mod_in (xs := [.str s_sum, .str s_less, .str s_times, .str s_same]) (i := x) (by decide)
  have e : subD μ (.tup [.str s_sum, .str s_less, .str s_times, .str s_same]) (.int (x % 4)) = some y := e
  simp only [List.mem_cons, List.not_mem_nil, or_false] at hy
  rcases hy with rfl | rfl | rfl | rfl
  · exact ⟨0, e⟩
  · exact ⟨1, e⟩
  · exact ⟨2, e⟩
  · exact ⟨3, e⟩
theorem lv_len {μ : Sto} {ln : Nat → Option Nat} {Φ : Nat → List D → Sto → R D} : lenR ln Φ [LVD] μ = .ok (.int 9) μ := len_some (n := 9) rfl
theorem cl_len {μ : Sto} {ln : Nat → Option Nat} {Φ : Nat → List D → Sto → R D} : lenR ln Φ [CLD] μ = .ok (.int 3) μ := len_some (n := 3) rfl
theorem cl_ne {μ : Sto} {eq : Nat → Option Nat} {Φ : Nat → List D → Sto → R D} : cmpR .NotEq eq Φ CLD (.lst []) μ = .ok (.bl true) μ := cmp_ne (k := false) rfl
theorem par_eq {i j : Nat} {sl : Sl} {a b : D} {μ : Sto} : parO i j sl [a, b] μ = .nx ((sl.set i (some a)).set j (some b)) μ := rfl
theorem A_lv : isA LVD = true := rfl
theorem A_cl : isA CLD = true := rfl
theorem law_tree (ns : List Int) (h : ns.length ≤ 63) : ∀ (m n : Nat) (at' size : Int) {μ : Sto}, size.toNat ≤ m → m + 3 ≤ n → Wf μ → ∃ τ : Tr, (τ.size : Int) ≤ max size 1 ∧ (G.g n).Φ 5 [scr ns, .int at', .int size, LVD, CLD] μ = .ok τ.toD μ := by
  intro m
  induction m with
  | zero =>
    intro n at' size μ hs hn w
    obtain ⟨n, rfl⟩ : ∃ k, n = k + 2 := ⟨n - 2, by omega⟩
    obtain ⟨r, hr, e⟩ := number ns h n at' w (μ := μ)
    obtain ⟨t, ht, et⟩ := lv_at (μ := μ) (r / 7)
    refine ⟨t, by rw [ht]; omega, run_ok (d := d5) rfl rfl w (fit_t _ _) ?_⟩
    show outO (evS (G.g (n + 1)) ir5 [some (scr ns), some (.int at'), some (.int size), some LVD, some CLD, none, none, none, none, none, none, none, none] μ) = _
    have h2 : size < 2 := by omega
    simp [ir5, evS, evE, evL, e, h2, bin_div (show (0 : Int) < 7 ∧ (7 : Int) < 1073741824 by decide), bin_mod (show (0 : Int) < 9 by decide), lv_len, et]
    exact out_rt (isV_t t)
  | succ m ih =>
    intro n at' size μ hs hn w
    obtain ⟨n, rfl⟩ : ∃ k, n = k + 2 := ⟨n - 2, by omega⟩
    obtain ⟨r, hr, e⟩ := number ns h n at' w (μ := μ)
    by_cases hA : size < 2 ∨ r % 7 = 0
    · obtain ⟨t, ht, et⟩ := lv_at (μ := μ) (r / 7)
      refine ⟨t, by rw [ht]; omega, run_ok (d := d5) rfl rfl w (fit_t _ _) ?_⟩
      show outO (evS (G.g (n + 1)) ir5 [some (scr ns), some (.int at'), some (.int size), some LVD, some CLD, none, none, none, none, none, none, none, none] μ) = _
      have hA' : (decide (size < 2) = true) ∨ (decide (size < 2) = false ∧ (r % 7 == 0) = true) := by
        by_cases z : size < 2
        · exact .inl (decide_eq_true z)
        · exact .inr ⟨decide_eq_false z, by simpa using hA.resolve_left z⟩
      rcases hA' with z | ⟨z, z2⟩
      · simp only [decide_eq_true_eq] at z
        simp [ir5, evS, evE, evL, e, z, bin_div (show (0 : Int) < 7 ∧ (7 : Int) < 1073741824 by decide), bin_mod (show (0 : Int) < 9 by decide), lv_len, et]
        exact out_rt (isV_t t)
      · simp only [decide_eq_false_iff_not, beq_iff_eq] at z z2
        simp [ir5, evS, evE, evL, e, z, z2, bin_div (show (0 : Int) < 7 ∧ (7 : Int) < 1073741824 by decide), bin_mod (show (0 : Int) < 9 by decide), bin_mod (show (0 : Int) < 7 by decide), lv_len, et]
        exact out_rt (isV_t t)
    · have z1 : ¬ size < 2 := fun z => hA (.inl z)
      have z2 : ¬ r % 7 = 0 := fun z => hA (.inr z)
      have p7 : (0 : Int) < 7 ∧ (7 : Int) < 1073741824 := by decide
      have p56 : (0 : Int) < 56 ∧ (56 : Int) < 1073741824 := by decide
      have p3 : (0 : Int) < 3 ∧ (3 : Int) < 1073741824 := by decide
      have p4 : (0 : Int) < 4 ∧ (4 : Int) < 1073741824 := by decide
      have m7 : (0 : Int) < 7 := by decide
      have m8 : (0 : Int) < 8 := by decide
      have m3 : (0 : Int) < 3 := by decide
      have m4 : (0 : Int) < 4 := by decide
      by_cases hB : r / 7 % 8 < 3 ∨ size < 3
      · obtain ⟨t, ht, et⟩ := ih (n + 1) (at' + 1) (size - 1) (by omega) (by omega) w (μ := μ)
        obtain ⟨k, ek⟩ := cl_at (μ := μ) (r / 56)
        refine ⟨.cal k t, by simp only [Tr.size]; omega, run_ok (d := d5) rfl rfl w (fit_t _ _) ?_⟩
        show outO (evS (G.g (n + 1)) ir5 [some (scr ns), some (.int at'), some (.int size), some LVD, some CLD, none, none, none, none, none, none, none, none] μ) = _
        by_cases z3 : r / 7 % 8 < 3
        · simp [lim, ir5, evS, evE, evL, e, z1, z2, z3, bin_div p7, bin_div p56, bin_mod m7, bin_mod m8, par_eq, cl_ne, cl_len, bin_mod m3, ek, A_lv, A_cl, et, isP_t, Tr.toD]
        · have z4 := hB.resolve_left z3
          simp [lim, ir5, evS, evE, evL, e, z1, z2, z3, z4, bin_div p7, bin_div p56, bin_mod m7, bin_mod m8, par_eq, cl_ne, cl_len, bin_mod m3, ek, A_lv, A_cl, et, isP_t, Tr.toD]
      · have z3 : ¬ r / 7 % 8 < 3 := fun z => hB (.inl z)
        have z4 : ¬ size < 3 := fun z => hB (.inr z)
        by_cases hC : r / 7 % 8 = 3 ∧ 3 < size
        · obtain ⟨a, ha, ea⟩ := ih (n + 1) (at' + 1) ((size - 1) / 3) (by omega) (by omega) w (μ := μ)
          obtain ⟨b, hb, eb⟩ := ih (n + 1) (at' + 15) ((size - 1) / 3) (by omega) (by omega) w (μ := μ)
          obtain ⟨c, hc, ec⟩ := ih (n + 1) (at' + 29) (size - 1 - 2 * ((size - 1) / 3)) (by omega) (by omega) w (μ := μ)
          refine ⟨.whe a b c, by simp only [Tr.size]; omega, run_ok (d := d5) rfl rfl w (fit_t _ _) ?_⟩
          show outO (evS (G.g (n + 1)) ir5 [some (scr ns), some (.int at'), some (.int size), some LVD, some CLD, none, none, none, none, none, none, none, none] μ) = _
          simp [lim, ir5, evS, evE, evL, e, z1, z2, z3, z4, hC.1, hC.2, bin_div p7, bin_div p56, bin_div p3, bin_mod m7, bin_mod m8, par_eq, cl_ne, A_lv, A_cl, ea, eb, ec, bin_mulL (i := 2) (by decide) (by decide), isP_t, Tr.toD]
        · obtain ⟨lf, hlf⟩ : ∃ lf : Int, lf = 1 + r / 56 / 4 % (size - 2) := ⟨_, rfl⟩
          have hm : (0 : Int) < size - 2 := by omega
          have l1 : 1 ≤ lf ∧ lf ≤ size - 2 := by
            have h1 := Int.emod_nonneg (r / 56 / 4) (show size - 2 ≠ 0 by omega)
            have h2 := Int.emod_lt_of_pos (r / 56 / 4) hm
            omega
          obtain ⟨a, ha, ea⟩ := ih (n + 1) (at' + 1) lf (by omega) (by omega) w (μ := μ)
          obtain ⟨b, hb, eb⟩ := ih (n + 1) (at' + 2 + lf) (size - 1 - lf) (by omega) (by omega) w (μ := μ)
          obtain ⟨o, eo⟩ := op_at (μ := μ) (r / 56)
          refine ⟨.bin o a b, by simp only [Tr.size]; omega, run_ok (d := d5) rfl rfl w (fit_t _ _) ?_⟩
          show outO (evS (G.g (n + 1)) ir5 [some (scr ns), some (.int at'), some (.int size), some LVD, some CLD, none, none, none, none, none, none, none, none] μ) = _
          by_cases z5 : r / 7 % 8 = 3
          · have z6 : ¬ 3 < size := fun z => hC ⟨z5, z⟩
            simp [lim, ir5, evS, evE, evL, e, z1, z2, z3, z4, z5, z6, bin_div p7, bin_div p56, bin_div p4, bin_mod m7, bin_mod m8, bin_mod hm, ← hlf, par_eq, cl_ne, A_lv, A_cl, ea, eb, bin_mod m4, eo, isP_t, Tr.toD]
          · simp [lim, ir5, evS, evE, evL, e, z1, z2, z3, z4, z5, bin_div p7, bin_div p56, bin_div p4, bin_mod m7, bin_mod m8, bin_mod hm, ← hlf, par_eq, cl_ne, A_lv, A_cl, ea, eb, bin_mod m4, eo, isP_t, Tr.toD]
theorem any_tree (ns : List Int) (h : ns.length ≤ 63) (n : Nat) (at' size : Int) {μ : Sto} (h1 : 1 ≤ size) (h2 : size ≤ 12) (hn : 20 ≤ n) (w : Wf μ) : ∃ τ : Tr, τ.size ≤ 12 ∧ (G.g n).Φ 6 [scr ns, .int at', .int size] μ = .ok τ.toD μ := by
  obtain ⟨n, rfl⟩ : ∃ k, n = k + 1 := ⟨n - 1, by omega⟩
  obtain ⟨t, ht, et⟩ := law_tree ns h 12 n at' size (by omega) (by omega) w (μ := μ)
  refine ⟨t, by omega, run_ok (d := d6) rfl rfl w (fit_t _ _) ?_⟩
  show outO (evS (G.g n) ir6 [some (scr ns), some (.int at'), some (.int size), none] μ) = _
  have e : evS (G.g n) ir6 [some (scr ns), some (.int at'), some (.int size), none] μ = thenO (seqO ((G.g n).Φ 5 [scr ns, .int at', .int size, LVD, CLD] μ) [some (scr ns), some (.int at'), some (.int size), some LVD] fun d μ => .rt d μ) (evS (G.g n) .nil) := rfl
  rw [e, et]
  exact out_rt (isV_t t)
end K01
namespace K01
open PySem PySem.Spec PyProof.Rows L2 Q
/-! ### law -/
theorem app_ok {xs : List D} {y : D} (h : xs.length < lim) (hp : isP y = true) : appR (.ref 0) [y] [.lst xs] = .ok .non [.lst (xs ++ [y])] := by
  show (if (decide (xs.length < lim) && isP y) = true then R.ok D.non _ else R.no) = _
  rw [hp, Bool.and_true, if_pos (decide_eq_true h)]
  rfl
theorem most_at {μ : Sto} {i : Int} (h0 : 0 ≤ i) (h1 : i < 6) : ∃ k : Int, 1 ≤ k ∧ k ≤ 12 ∧ subD μ (.tup [.int 2, .int 5, .int 6, .int 11, .int 12, .int 12]) (.int i) = some (.int k) := by
  obtain ⟨y, hy, e⟩ := at_in (xs := [D.int 2, .int 5, .int 6, .int 11, .int 12, .int 12]) h0 (by simpa using h1)
  have e : subD μ (.tup [.int 2, .int 5, .int 6, .int 11, .int 12, .int 12]) (.int i) = some y := e
  simp only [List.mem_cons, List.not_mem_nil, or_false] at hy
  rcases hy with rfl | rfl | rfl | rfl | rfl | rfl
  · exact ⟨2, by decide, by decide, e⟩
  · exact ⟨5, by decide, by decide, e⟩
  · exact ⟨6, by decide, by decide, e⟩
  · exact ⟨11, by decide, by decide, e⟩
  · exact ⟨12, by decide, by decide, e⟩
  · exact ⟨12, by decide, by decide, e⟩
abbrev sl1 (ns : List Int) (t m : Option D) : Sl := [some (scr ns), some (.ref 0), t, m, none, none, none, none, none, none, none, none, none, none, none]
theorem body6 (ns : List Int) (h : ns.length ≤ 63) (n : Nat) (hn : 30 ≤ n) {i : Int} (h0 : 0 ≤ i) (h1 : i < 6) {m : Option D} {acc : List D} (ha : acc.length < 100) : ∃ (τ : Tr) (k : Option D), τ.size ≤ 12 ∧ evS (G.g n) b6 (sl1 ns (some (.int i)) m) [.lst acc] = .nx (sl1 ns (some (.int i)) k) [.lst (acc ++ [τ.toD])] := by
  obtain ⟨k, hk1, hk2, ek⟩ := most_at (μ := [.lst acc]) h0 h1
  obtain ⟨n, rfl⟩ : ∃ m, n = m + 1 := ⟨n - 1, by omega⟩
  have w : Wf [.lst acc] := rfl
  obtain ⟨r, hr, e4⟩ := number ns h n (300 + i) w
  have hm : (0 : Int) < k := by omega
  have hm2 := Int.emod_lt_of_pos r hm
  have hm3 := Int.emod_nonneg r (show k ≠ 0 by omega)
  obtain ⟨τ, hτ, e6⟩ := any_tree ns h (n + 1) (40 * i) (1 + r % k) (by omega) (by omega) (by omega) w
  refine ⟨τ, some (.int k), hτ, ?_⟩
  have ap := app_ok (xs := acc) (y := τ.toD) (by rw [lim_line']; omega) (isP_t τ)
  have ml : isML [.lst acc] (.ref 0) = true := rfl
  simp [lim, b6, evS, evE, evL, ek, bin_mulL (i := 40) (by decide) (by decide), e4, bin_mod hm, e6, bmR, ml, bmX, ap]
theorem loop6 (ns : List Int) (h : ns.length ≤ 63) (n : Nat) (hn : 30 ≤ n) : ∀ (is : List Int) (t m : Option D) (acc : List Tr), (∀ i ∈ is, 0 ≤ i ∧ i < 6) → (∀ t ∈ acc, t.size ≤ 12) → acc.length + is.length < 100 → ∃ (ts : List Tr) (t' m' : Option D), (∀ t ∈ ts, t.size ≤ 12) ∧ ts.length < 100 ∧ forO (.nm 2) (evS (G.g n) b6) (is.map .int) (sl1 ns t m) [.lst (acc.map Tr.toD)] = .nx (sl1 ns t' m') [.lst (ts.map Tr.toD)]
  | [], t, m, acc, _, ha, hl => ⟨acc, t, m, ha, by simp only [List.length_nil] at hl; omega, rfl⟩
  | i :: is, t, m, acc, hi, ha, hl => by
    obtain ⟨τ, k, hτ, e⟩ := body6 ns h n hn (hi i (.head _)).1 (hi i (.head _)).2 (m := m) (acc := acc.map Tr.toD) (by simp only [List.length_map, List.length_cons] at *; omega)
    obtain ⟨ts, t', m', h1, h2, h3⟩ := loop6 ns h n hn is (some (.int i)) k (acc ++ [τ]) (fun j hj => hi j (.tail _ hj)) (fun t ht => by
      rcases List.mem_append.mp ht with ht | ht
      · exact ha t ht
      · simp only [List.mem_cons, List.not_mem_nil, or_false] at ht
        subst ht
        exact hτ) (by simp only [List.length_append, List.length_cons, List.length_nil] at *; omega)
    refine ⟨ts, t', m', h1, h2, ?_⟩
    show forO (.nm 2) (evS (G.g n) b6) (.int i :: is.map .int) _ _ = _
    rw [for_nx (sl1 := sl1 ns (some (.int i)) m) rfl e]
    simpa using h3
theorem lc_mem {i : Nat} {elt : Sl → Sto → R D} {sl : Sl} {μ : Sto} {f : Tr → D} : ∀ ts : List Tr, (∀ t ∈ ts, elt (sl.set i (some t.toD)) μ = .ok (f t) μ) → lcL (.nm i) (fun _ μ => .ok true μ) elt sl (ts.map Tr.toD) μ = .ok (ts.map f) μ
  | [], _ => rfl
  | d :: ds, h => by
    have ih := lc_mem ds (fun e he => h e (List.mem_cons_of_mem _ he))
    show ((elt (sl.set i (some d.toD)) μ).bind fun y μ => (lcL (.nm i) (fun _ μ => .ok true μ) elt sl (ds.map Tr.toD) μ).bind fun ys μ => .ok (y :: ys) μ) = _
    rw [h d (.head _), bind_ok, ih]
    rfl
abbrev fms (ts : List Tr) : D := .lst (ts.map fm)
abbrev tds (ts : List Tr) : D := .lst (ts.map Tr.toD)
abbrev sl2 (ns : List Int) (t m : Option D) (ts : List Tr) (a b c d : Option D) : Sl := [some (scr ns), some (tds ts), t, m, some (fms ts), none, a, b, c, d, none, none, none, none, none]
theorem zip_ft : ∀ ts : List Tr, zipD (ts.map fm) (ts.map Tr.toD) = ts.map fun t => .tup [fm t, t.toD]
  | [] => rfl
  | t :: ts => by
    show D.tup [fm t, t.toD] :: zipD (ts.map fm) (ts.map Tr.toD) = _
    rw [zip_ft ts]
    rfl
abbrev M1 : Sto := [.gone]
theorem forms_e {ns : List Int} {t m : Option D} {ts : List Tr} (n : Nat) (hn : 40 ≤ n) (h : ∀ t ∈ ts, t.size ≤ 12) (hl : ts.length < 100) : evE (G.g n) (.lc0 (.nm 5) [5] (.seq (.var 1)) (.mk 3 (.cons (.var 5) .nil))) [some (scr ns), some (tds ts), t, m, none, none, none, none, none, none, none, none, none, none, none] M1 = .ok (fms ts) M1 := by
  have w : Wf M1 := rfl
  have lc := lc_mem (i := 5) (elt := evE (G.g n) (.mk 3 (.cons (.var 5) .nil))) (sl := [some (scr ns), some (tds ts), t, m, none, none, none, none, none, none, none, none, none, none, none]) (μ := M1) (f := fm) ts (fun t ht => by
    have hs := h t ht
    have hd := dep_size t
    have f := form_ok t n (by omega) (by omega) w
    unfold made at f
    rw [if_pos hs] at f
    simp [evE, evL, f])
  have ap : ∀ ts : List Tr, allP (ts.map fm) = true := fun ts => by induction ts with | nil => rfl | cons i is ih => simpa using ih
  show noEx ((lcL _ _ _ [some (scr ns), some (tds ts), t, m, none, none, none, none, none, none, none, none, none, none, none] (ts.map Tr.toD) M1).bind _) = _
  rw [lc, bind_ok, if_pos (by rw [ap, Bool.and_true, decide_eq_true_eq, List.length_map, lim_line']; omega)]
  rfl
theorem body7 {ns : List Int} {t m : Option D} {ts : List Tr} {a b : Tr} (n : Nat) (hn : 44 ≤ n) (ha : a.size ≤ 12) (hb : b.size ≤ 12) : evS (G.g n) b7 (sl2 ns t m ts (some (fm a)) (some a.toD) (some (fm b)) (some b.toD)) M1 = .nx (sl2 ns t m ts (some (fm a)) (some a.toD) (some (fm b)) (some b.toD)) M1 := by
  have e := pair_right n hn ha hb (show Wf M1 from rfl)
  simp [b7, evS, evE, evL, isA_t, e]
theorem loop7 {ns : List Int} {t m : Option D} {ts : List Tr} {a : Tr} (n : Nat) (hn : 44 ≤ n) (ha : a.size ≤ 12) : ∀ (us : List Tr) (x y : Option D), (∀ b ∈ us, b.size ≤ 12) → ∃ x' y', forO (.tp (.cons (.nm 8) (.cons (.nm 9) .nil))) (evS (G.g n) b7) (us.map fun t => .tup [fm t, t.toD]) (sl2 ns t m ts (some (fm a)) (some a.toD) x y) M1 = .nx (sl2 ns t m ts (some (fm a)) (some a.toD) x' y') M1
  | [], x, y, _ => ⟨x, y, rfl⟩
  | b :: us, x, y, h => by
    obtain ⟨x', y', e⟩ := loop7 n hn ha us (some (fm b)) (some b.toD) (fun c hc => h c (.tail _ hc))
    refine ⟨x', y', ?_⟩
    show forO _ _ (.tup [fm b, b.toD] :: us.map fun t => .tup [fm t, t.toD]) _ _ = _
    rw [for_nx (sl1 := sl2 ns t m ts (some (fm a)) (some a.toD) (some (fm b)) (some b.toD)) rfl (body7 n hn ha (h b (.head _)))]
    exact e
theorem body8 {ns : List Int} {t m : Option D} {ts : List Tr} {a : Tr} {x y : Option D} (n : Nat) (hn : 44 ≤ n) (ha : a.size ≤ 12) (h : ∀ b ∈ ts, b.size ≤ 12) : ∃ x' y', evS (G.g n) b8 (sl2 ns t m ts (some (fm a)) (some a.toD) x y) M1 = .nx (sl2 ns t m ts (some (fm a)) (some a.toD) x' y') M1 := by
  have w : Wf M1 := rfl
  have da := dep_size a
  obtain ⟨x', y', e⟩ := loop7 (ns := ns) (t := t) (m := m) n hn ha ts x y h
  refine ⟨x', y', ?_⟩
  have e1 := one_right n hn ha w
  have e2 := numbers_right n hn ha w
  have f := form_ok a n (by omega) (by omega) w
  unfold made at f
  rw [if_pos ha] at f
  have q := ins_ne (a := a) (b := a) n (by omega) (by omega) (by omega) w
  rw [SeqAt.eqv_refl _ (lay_t a)] at q
  have z : zipR [fms ts, tds ts] M1 = .ok (ts.map fun t => .tup [fm t, t.toD]) M1 := by rw [zip_eq rfl rfl, zip_ft]
  unfold b8
  have s1 : ∀ ss, evS (G.g n) (.cons (.iff (.or (.not (.call 10 (.cons (.var 6) (.cons (.var 7) .nil)))) (.or (.not (.call 11 (.cons (.var 6) (.cons (.var 7) .nil)))) (.cmp .NotEq (.var 6) (.mk 3 (.cons (.var 7) .nil))))) (.cons (.ret (.lit (.bl false))) .nil) .nil) ss) (sl2 ns t m ts (some (fm a)) (some a.toD) x y) M1 = evS (G.g n) ss (sl2 ns t m ts (some (fm a)) (some a.toD) x y) M1 := fun ss => by
    simp [evS, evE, evL, isA_t, e1, e2, f, q]
  rw [s1]
  show thenO (seqO (zipR [fms ts, tds ts] M1) _ fun ds μ => forO _ _ ds _ μ) _ = _
  rw [z, seq_ok, e]
  rfl
theorem loop8 {ns : List Int} {t m : Option D} {ts : List Tr} (n : Nat) (hn : 44 ≤ n) (h : ∀ b ∈ ts, b.size ≤ 12) : ∀ (us : List Tr) (a b x y : Option D), (∀ b ∈ us, b.size ≤ 12) → ∃ a' b' x' y', forO (.tp (.cons (.nm 6) (.cons (.nm 7) .nil))) (evS (G.g n) b8) (us.map fun t => .tup [fm t, t.toD]) (sl2 ns t m ts a b x y) M1 = .nx (sl2 ns t m ts a' b' x' y') M1
  | [], a, b, x, y, _ => ⟨a, b, x, y, rfl⟩
  | u :: us, a, b, x, y, hu => by
    obtain ⟨x1, y1, e1⟩ := body8 (ns := ns) (t := t) (m := m) (x := x) (y := y) n hn (hu u (.head _)) h
    obtain ⟨a', b', x', y', e⟩ := loop8 n hn h us (some (fm u)) (some u.toD) x1 y1 (fun c hc => hu c (.tail _ hc))
    refine ⟨a', b', x', y', ?_⟩
    show forO _ _ (.tup [fm u, u.toD] :: us.map fun t => .tup [fm t, t.toD]) _ _ = _
    rw [for_nx (sl1 := sl2 ns t m ts (some (fm u)) (some u.toD) x y) rfl e1]
    exact e
/-- the part that leans on no script -/
def irE : S := .cons (.set 10 (.bin .Add (.lc0 (.nm 11) [11] (.rng1 (.cons (.lit (.int 3)) (.nil))) (.met 7 (.gcl 3) (.cons (.var 11) (.nil)))) (.lc0 (.nm 12) [12] (.rng1 (.cons (.lit (.int 2)) (.nil))) (.met 8 (.gcl 3) (.cons (.var 12) (.nil)))))) (.cons (.set 10 (.bin .Add (.bin .Add (.var 10) (.lc0 (.nm 13) [13] (.rng1 (.cons (.lit (.int 2)) (.nil))) (.met 9 (.gcl 3) (.cons (.var 13) (.nil))))) (.lst (.cons (.met 11 (.gcl 3) (.nil)) (.cons (.met 10 (.gcl 3) (.nil)) (.nil)))))) (.cons (.set 14 (.bin .Add (.lc0 (.nm 11) [11] (.rng1 (.cons (.lit (.int 3)) (.nil))) (.tup (.cons (.lit (.str s_number)) (.cons (.var 11) (.nil))))) (.lc0 (.nm 12) [12] (.rng1 (.cons (.lit (.int 2)) (.nil))) (.tup (.cons (.lit (.str s_column)) (.cons (.var 12) (.nil))))))) (.cons (.set 14 (.bin .Add (.bin .Add (.var 14) (.lc0 (.nm 13) [13] (.rng1 (.cons (.lit (.int 2)) (.nil))) (.tup (.cons (.lit (.str s_kept)) (.cons (.var 13) (.nil)))))) (.lst (.cons (.tup (.cons (.lit (.str s_given)) (.nil))) (.cons (.tup (.cons (.lit (.str s_setting)) (.nil))) (.nil)))))) (.cons (.ret (.and (.cmp .Eq (.lc0 (.nm 6) [6] (.seq (.var 10)) (.att 0 (.var 6))) (.var 14)) (.fb .all (.cons (.lc0 (.nm 6) [6] (.seq (.var 10)) (.isi (.cons (.var 6) (.cons (.gcl 3) (.nil))))) (.nil))))) (.nil)))))
theorem last {ns : List Int} {t m : Option D} {ts : List Tr} {a b x y : Option D} : evS (G.g 60) irE (sl2 ns t m ts a b x y) M1 = .rt (.bl true) M1 := by
  kernel_rfl
theorem law : ∀ ns : List Int, ns.length ≤ 63 → (∀ z ∈ ns, Builtin.Int.intBits z ≤ 1048576) → ∃ μ, runD (G.g 60) (some d13) [.slst (ns.map .int)] [] = .ok (.bl true) μ := by
  intro ns h _
  refine ⟨[], ?_⟩
  show trimR 0 (outO (evS (G.g 60) ir13 (startS 15 [scr ns]) [])) = _
  obtain ⟨ts, t', m', h1, h2, h3⟩ := loop6 ns h 60 (by decide) [0, 1, 2, 3, 4, 5] none none [] (by decide) (by simp) (by decide)
  obtain ⟨a', b', x', y', h4⟩ := loop8 (ns := ns) (t := t') (m := m') 60 (by decide) h1 ts none none none none h1
  have z : zipR [fms ts, tds ts] M1 = .ok (ts.map fun t => .tup [fm t, t.toD]) M1 := by rw [zip_eq rfl rfl, zip_ft]
  have e1 : evS (G.g 60) ir13 (startS 15 [scr ns]) [] = thenO (forO (.nm 2) (evS (G.g 60) b6) ([0, 1, 2, 3, 4, 5].map .int) (sl1 ns none none) [.lst (([] : List Tr).map Tr.toD)]) (evS (G.g 60) (.frz 1 (.cons (.set 4 (.lc0 (.nm 5) [5] (.seq (.var 1)) (.mk 3 (.cons (.var 5) .nil)))) (.cons (.for (.tp (.cons (.nm 6) (.cons (.nm 7) .nil))) (.zip (.cons (.var 4) (.cons (.var 1) .nil))) b8) irE)))) := rfl
  rw [e1, h3, then_nx]
  show trimR 0 (outO (thenO (seqO (evE (G.g 60) (.lc0 (.nm 5) [5] (.seq (.var 1)) (.mk 3 (.cons (.var 5) .nil))) [some (scr ns), some (tds ts), t', m', none, none, none, none, none, none, none, none, none, none, none] M1) _ _) _)) = _
  rw [forms_e 60 (by decide) h1 h2, seq_ok, then_nx]
  show trimR 0 (outO (thenO (seqO (zipR [fms ts, tds ts] M1) _ fun ds μ => forO _ _ ds (sl2 ns t' m' ts none none none none) μ) _)) = _
  rw [z, seq_ok, h4, then_nx, last]
  rfl
end K01
namespace K01
open PySem PySem.Spec PyProof.Rows L2 Q
abbrev R : PySem.W.OpenRow := PySem.W.OpenLaw.row PySem.Challenge.rw_keptmeanings_k01_whole_forms
theorem run : ∀ w : World, HandSHeadRun.RunEq R (PySem.W.view R.prog [iLaw]) (hookQ G 11) (obQ G 11) 20000 loose w := PySem.W.byRow2 "special-get-raises" (fun w => by intro os; kernel_rfl) (fun w => by intro os; kernel_rfl)
end K01
namespace K01
open PySem PySem.Spec PyProof.Rows L2 Q
end K01
open PySem PySem.W PySem.Calls PyProof.Rows
theorem PySem.Challenge.cw_keptmeanings_k01_whole_forms_holds : PySem.Challenge.rw_keptmeanings_k01_whole_forms.Holds := by
  w_on; o_law
  refine HandSHeadRun.head_any (r := OpenLaw.row PySem.Challenge.rw_keptmeanings_k01_whole_forms) (q := view (OpenLaw.row PySem.Challenge.rw_keptmeanings_k01_whole_forms).prog [K01.iLaw]) (H := Q.hookQ K01.G 11) (ob := Q.obQ K01.G 11) (M := 20000) (loose := K01.loose) (d := HandSHeadRun.topDef (OpenLaw.row PySem.Challenge.rw_keptmeanings_k01_whole_forms).prog K01.iLaw) (kwd := []) (Q.obQ_eq K01.G 11)
    (by kernel_rfl) (fun s => by kernel_rfl) K01.run (by kernel_rfl) (by kernel_rfl) (by kernel_rfl) (by rfl) (by first | assumption | decide +kernel) (by decide +kernel) ⟨rfl, rfl, rfl, rfl, rfl, by decide +kernel⟩ ?hw ?hc
  case hw => w_witness2
  case hc =>
    refine Q.walk_Q (dl := K01.d13) (x := "script") K01.G 11 60 13 rfl (by kernel_rfl) ⟨rfl, by decide, by decide⟩ (Q.ck_of K01.ck) rfl rfl rfl ?_ K01.law
    kernel_rfl
