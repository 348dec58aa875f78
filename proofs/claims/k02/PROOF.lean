import PyProof.Rows.All
import Wide.All
import OpenK.AllK
import Wide.FinOn
import HandS.ForMost
import HandS.ForExc
import HandS.ExcInit
import HandS.TryMany
import HandS.IsInst
import HandS.Deep
import HandS.Walk
import HandS.Style
import HandS.CallSlots
import HandS.TupAny
import HandS.TupMul
import HandS.Defaults
import HandS.OwnEq
import HandS.ExcIs
import HandS.ExcField
import HandS.Small
import HandS.SetFor
import HandS.Head0
import HandS.Head1
import HandS.Head2
import HandS.HeadEnd
import HandS.HeadHook1
import HandS.HeadHook2
import KE.GoesEnum
import HandS.Zip
import HandS.Conv
import HandS.HeadWalk
import KE.KTryMore
import HandS.Strs
import PyProof.AutoSeq1
import PySem.Challenge.RW_onepicture_k02_whole_manners_step_by_ste
import KE.GoesZip
import PyProof.FitsInt
set_option Elab.async false
set_option linter.all false
set_option maxRecDepth 100000
set_option maxHeartbeats 4000000
/-! A small machine of my own over values that are trees: terms X, S over slots, what they give (ev, ex). -/
namespace Ev
open PySem

/-! ### values -/
inductive D where
  | non | bl (b : Bool) | int (i : Int) | str (s : Str)
  | tup (xs : List D) | lst (xs : List D) | dic (kvs : List (D × D))
  | ins (c : Nat) (fs : List (Str × D)) | cel (n : Nat) | fn (f : Nat) | scr (ns : List Int)
  deriving Inhabited
abbrev Wd := List D
inductive Rs (α : Type) where
  | ok (a : α) (w : Wd) | exc (c : Nat) (x : Option D) (w : Wd) | stk
def M (α : Type) := Wd → Rs α
namespace M
def pur {α : Type} (a : α) : M α := fun w => .ok a w
def bnd {α β : Type} (m : M α) (f : α → M β) : M β := fun w => match m w with
  | .ok a w' => f a w'
  | .exc c x w' => .exc c x w'
  | .stk => .stk
end M
instance : Monad M where
  pure := M.pur
  bind := M.bnd
def stk {α : Type} : M α := fun _ => .stk
def rse {α : Type} (c : Nat) (x : Option D) : M α := fun w => .exc c x w
theorem bind_def {α β : Type} (m : M α) (f : α → M β) (w : Wd) : (m >>= f) w = (match m w with | .ok a w' => f a w' | .exc c x w' => .exc c x w' | .stk => .stk) := rfl
@[simp] theorem pure_bnd {α β : Type} (a : α) (f : α → M β) : (pure a : M α) >>= f = f a := rfl
@[simp] theorem stk_bnd {α β : Type} (f : α → M β) : (stk : M α) >>= f = stk := rfl
@[simp] theorem rse_bnd {α β : Type} (c : Nat) (x : Option D) (f : α → M β) : (rse c x : M α) >>= f = rse c x := rfl
@[simp] theorem bnd_assoc {α β γ : Type} (m : M α) (f : α → M β) (g : β → M γ) : (m >>= f) >>= g = m >>= fun a => f a >>= g := by
  funext w
  simp only [bind_def]
  cases m w <;> rfl
@[simp] theorem bnd_pure {α : Type} (m : M α) : (m >>= fun a => pure a) = m := by
  funext w
  simp only [bind_def]
  cases m w <;> rfl
theorem pure_ap {α : Type} (a : α) (w : Wd) : (pure a : M α) w = .ok a w := rfl

/-- a slot: nothing known, a value that stays, a container that nobody else holds, a caught exception -/
inductive Slot where
  | un | val (d : D) | own (d : D) | exc (c : Nat) (x : Option D)
  deriving Inhabited
abbrev Env := List Slot

/-! ### terms -/
inductive Bo where | add | sub | mul | fdv | mod | pow
  deriving DecidableEq
inductive Co where | eq | ne | lt | le | gt | ge | is | nis | isin | nin
  deriving DecidableEq
/-- builtins of one argument -/
inductive B1 where | len | tuple | list | int | str | abs | all | any | sum | max | min | sorted | set | dict | repr | bool
  deriving DecidableEq
/-- a type that isinstance asks -/
inductive Ty where | int | bool | str | tuple | list | dict | cls (c : Nat)
  deriving DecidableEq
/-- targets -/
inductive Tg where
  | n (i : Nat) | t (ts : List Tg)
mutual
inductive X where
  | k (d : D)
  | v (i : Nat)
  | g (j : Nat)
  | tup (es : Xs) | lst (es : Xs)
  | bin (o : Bo) (a b : X) | neg (a : X) | not (a : X)
  | cmp (o : Co) (a b : X) | cmp2 (o o' : Co) (a b c : X)
  | and (es : Xs) | or (es : Xs) | ite (c a b : X)
  | idx (a b : X) | sli (a : X) (lo hi : Xo) | rev (a : X)
  | fld (a : X) (f : Str)
  | call (j : Nat) (es : Xs) | cav (i : Nat) (es : Xs) | mk (c : Nat) (es : Xs)
  | b1 (b : B1) (a : X) | max2 (a b : X) | min2 (a b : X)
  | isa (a : X) (ts : List Ty)
  | lc (e : X) (tg : Tg) (it : It) (c : Xo) (vs : List Nat)
  | lenset (a : X)
  | srtset (a : X)
  | lidx (a b : X)
  | dict0
  | dic1 (a b : X)
  | get (d a b : X)
  | lrng (a : X)
  | rep (a : X)
  | bad
inductive Xs where
  | nil | cons (x : X) (r : Xs)
inductive Xo where
  | no | so (x : X)
/-- what a loop goes over -/
inductive It where
  | x (a : X) | rng (es : Xs) | enum (es : Xs) | zip (es : Xs)
end
mutual
inductive S where
  | set (i : Nat) (e : X) (own : Bool)
  | setG (t : Tg) (e : X)
  | par (ts : List (Nat × Bool)) (es : Xs)
  | stx (i : Nat) (k e : X)
  | stf (i : Nat) (f : Str) (e : X)
  | augx (i : Nat) (k : X) (o : Bo) (e : X)
  | app (i : Nat) (es : Xs) | ext (i : Nat) (es : Xs)
  | pop (j i : Nat) | popat (j i : Nat) (es : Xs) | popx (i : Nat) (es : Xs) | apppop (l i : Nat) (es : Xs)
  | ex (e : X)
  | ret (e : X) | retc (e : X)
  | iff (c : X) (a b : Ss)
  | whl (c : X) (b : Ss)
  | for (tg : Tg) (it : It) (b : Ss)
  | brk | cnt | pas
  | rse (c : Nat) (e : Xo)
  | tri (b : Ss) (hs : Hs)
  | frz (is : List Nat) (s : S)
  | bad
inductive Ss where
  | nil | cons (s : S) (r : Ss)
/-- except clauses: the class, the slot of the name, the suite -/
inductive Hs where
  | nil | cons (c : Nat) (i : Option Nat) (b : Ss) (r : Hs)
end

/-! ### data -/
mutual
def D.shp : D → Bool
  | .non => true | .bl _ => true | .int _ => true | .str x => PyData.strOk x
  | .tup xs => D.shpAll xs | .lst xs => D.shpAll xs
  | _ => false
def D.shpAll : List D → Bool
  | [] => true
  | x :: r => x.shp && D.shpAll r
end
mutual
def D.dep : D → Nat
  | .tup xs => D.depAll xs + 1 | .lst xs => D.depAll xs + 1
  | _ => 0
def D.depAll : List D → Nat
  | [] => 0
  | x :: r => max x.dep (D.depAll r)
end
mutual
def D.py : D → PyData
  | .non => .none | .bl b => .bool b | .int i => .int i | .str x => .str x
  | .tup xs => .tuple (D.pyAll xs) | .lst xs => .list (D.pyAll xs)
  | _ => .none
def D.pyAll : List D → List PyData
  | [] => []
  | x :: r => x.py :: D.pyAll r
end
/-- Python's == of data -/
def D.eqv (a b : D) : Bool := PyData.eqv a.py b.py
def shape2 (a b : D) : Bool := a.shp && b.shp && decide (a.dep ≤ 60) && decide (b.dep ≤ 60)
abbrev SZ : Nat := 16777216
end Ev

set_option maxRecDepth 100000
set_option maxHeartbeats 4000000
/-! What the head tells of a program. -/
namespace Ev
open PySem
structure Fn where
  np : Nat
  ns : Nat
  body : Ss
/-- a class of the program's own: its __init__, whether its instances stay as they are -/
structure Cl where
  ini : Nat
  keep : Bool
  eqf : Option Nat
structure Prog where
  fns : List Fn
  nc : Nat
  cls : Nat → Option Cl
  gs : List D
  /-- which error class is caught by which -/
  sub : List ((Nat × Nat) × Bool)
  /-- error classes: the def of the __init__, its field; none for bare ones -/
  xc : List (Nat × Option (Nat × Str))
  wf : Nat
  /-- the law's def, if it asks repr: nobody else may call it -/
  rl : Option Nat := none
def Prog.xf (P : Prog) (c : Nat) : Option Str := match P.xc.lookup c with
  | some (some p) => some p.2
  | _ => none
open PySem.Spec PyProof.Rows L2
structure GG where
  K : PySem.W.Frag
  cl : Nat → Addr
  fa : Nat → Addr
  /-- caught errors: where, of which class, their dict -/
  zp : Addr → Nat → Option Addr → Prop
  xn : Nat → Option Str
structure Tabs where
  fnT : List (Str × Nat)
  clT : List (Str × Nat)
  glT : List (Str × Nat)
  bl : List Str
  fds : List Str
  /-- error classes: number, whether it has a field -/
  exT : List (Str × (Nat × Bool))
  /-- the def that may ask repr -/
  rq : Option Str := none
/-- a program's tables: where the defs stand, the classes' names, the constants -/
structure Dt where
  at_ : List (Str × Option Str)
  cls : List Str
  T : Tabs
  /-- functions and classes by name, constants by name -/
def Dt.G (d : Dt) (K : PySem.W.Frag) : GG := ⟨K, fun c => He.ga K (d.cls.getD c Str.empty), fun j => He.fAd K (d.at_.getD j (Str.empty, none)), fun _ _ _ => False, fun _ => none⟩
mutual
def relD (d : Dt) (K : PySem.W.Frag) : D → Value → Bool
  | .non, u => (match u with | .none => true | _ => false)
  | .bl b, u => (match u with | .bool c => b == c | _ => false)
  | .int i, u => (match u with | .int j _ => decide (i = j) | _ => false)
  | .str x, u => (match u with | .str y _ => decide (x = y) | _ => false)
  | .tup ds, u => (match u with
    | .ref a => (match K.lookup a with
      | some o => decide (o.cls = .type "tuple") && (match o.data with | .seq its _ => decide (its.size ≤ SZ) && relDs d K ds its.toList | _ => false)
      | none => false)
    | _ => false)
  | .fn j, u => (match u with | .ref a => decide (a = (d.G K).fa j) | _ => false)
  | _, _ => false
def relDs (d : Dt) (K : PySem.W.Frag) : List D → List Value → Bool
  | [], us => us.isEmpty
  | x :: xs, us => (match us with | u :: us => relD d K x u && relDs d K xs us | _ => false)
end
def tyNs : List String := ["NoneType", "bool", "int", "str", "tuple", "list", "dict"]
def tyNs2 : List String := ["bool", "int", "str", "tuple", "list", "dict"]
/-- one class -/
def clsB1 (d : Dt) (P : Prog) (K : PySem.W.Frag) (c : Nat) (x : Str) (k : Cl) : Bool :=
    (He.Fa.cls x).ok K && (He.Fa.mkr x).ok K && decide (k.ini < P.fns.length) && decide (d.at_[k.ini]? = some (x, some ("__init__" : Str))) &&
    (d.T.fds.all fun f => (He.Fa.noat x f).ok K) &&
    (match k.eqf with
     | none => true
     | some j => decide (j < P.fns.length) && decide (d.at_[j]? = some (x, some ("__eq__" : Str))) && decide (PySem.W.findIn K (.ref (He.ga K x)) "__eq__" = some (some (.ref (He.ma K (He.ga K x) "__eq__")))) && PySem.W.isFn K (.ref (He.ma K (He.ga K x) "__eq__")) && PySem.W.notFirst K (He.ga K x) (.type "tuple")) &&
    decide (PySem.W.findIn K (.ref (He.ga K x)) "__class__" = some (some (.builtin "object.__class__"))) && decide (PySem.W.specialIn K (.builtin "object.__class__") "__get__" = some (some (.builtin "getset_descriptor.__get__"))) &&
    decide (PySem.W.takesIn K (.builtin "object.__class__") = some true) && decide (PySem.W.mroIn K (He.ga K x) (.type "object") = some true) &&
    (tyNs.all fun n => decide (PySem.W.kitOne K (.type n) (.ref (He.ga K x)) = some false)) && (tyNs2.all fun n => decide (PySem.W.kitOne K (.ref (He.ga K x)) (.type n) = some false)) &&
    ((List.range P.nc).all fun c' => decide (PySem.W.kitOne K (.ref (He.ga K x)) (.ref ((d.G K).cl c')) = some (c == c')))
def clsB (d : Dt) (P : Prog) (K : PySem.W.Frag) (c : Nat) : Bool := match d.cls[c]?, P.cls c with
  | some x, some k => clsB1 d P K c x k
  | _, _ => false
def glB (d : Dt) (P : Prog) (K : PySem.W.Frag) (p : Str × Nat) : Bool := match PySem.W.nsIn K mainGlobals p.1, P.gs[p.2]? with
  | some (some u), some x => relD d K x u
  | _, _ => false
/-- what an own error class over ValueError with an own __init__ must be -/
def oexB (K : PySem.W.Frag) (C : Addr) : Bool := match K.lookup C with
  | some ⟨.type "type", _, .cls cd, sl⟩ => (match cd.mro, sl.toList with
    | .ref C' :: bm, [_, _, _, _, some (.builtin n), _] => C' == C && n == "ValueError.__new__" && !cd.hasDel && cd.hasDict && PySem.HandSPX.refsVE bm
    | _, _ => false)
  | _ => false
def exB1 (d : Dt) (K : PySem.W.Frag) (x : Str) (C : Addr) : Option (Nat × Str) → Bool
  | some (j, f) => oexB K C && xfB K C && decide (PySem.W.findIn K (.ref C) f = some none) && decide (PySem.W.findIn K (.ref C) "__init__" = some (some (.ref (He.ma K C "__init__")))) && decide (PySem.W.typeIn K (.ref (He.ma K C "__init__")) = some (.type "function")) &&
      decide (PySem.W.findIn K (.ref C) "__setattr__" = some (some (.builtin "object.__setattr__"))) && decide (PySem.W.subIn K (.ref C) (.type "BaseException") = some true) && decide (PySem.W.typeIn K (.ref C) = some (.type "type")) && PySem.W.keepIn K (.ref C) && decide (d.at_[j]? = some (x, some ("__init__" : Str)))
  | none => true
/-- what an own error class over ValueError without own __init__ must be -/
def bmVE : List Value := [.type "ValueError", .type "Exception", .type "BaseException", .type "object"]
def bareB (K : PySem.W.Frag) (C : Addr) : Bool := PySem.W.excIn K C bmVE "ValueError.__new__" && decide (PySem.W.subIn K (.ref C) (.type "BaseException") = some true) && decide (PySem.W.typeIn K (.ref C) = some (.type "type")) && PySem.W.keepIn K (.ref C)
def exB (d : Dt) (P : Prog) (K : PySem.W.Frag) (p : Str × (Nat × Bool)) : Bool :=
  (He.Fa.glo p.1).ok K && decide (d.cls[p.2.1]? = some p.1) && (p.2.2 == (P.xf p.2.1).isSome) && (p.2.2 || bareB K (He.ga K p.1))
def exC (d : Dt) (P : Prog) (K : PySem.W.Frag) (p : Nat × Option (Nat × Str)) : Bool := match p.2, d.cls[p.1]? with
  | some q, some x => exB1 d K x (He.ga K x) (some q)
  | some _, none => false
  | none, _ => true
def subB (d : Dt) (K : PySem.W.Frag) (p : (Nat × Nat) × Bool) : Bool := decide (PySem.W.exmOne K (.ref ((d.G K).cl p.1.1)) (.ref ((d.G K).cl p.1.2)) = some p.2)
def factsB (d : Dt) (P : Prog) (K : PySem.W.Frag) : Bool :=
  decide (d.at_.length = P.fns.length) &&
  (d.T.fnT.all fun p => (He.Fa.glo p.1).ok K && decide (d.at_[p.2]? = some (p.1, none))) &&
  (d.T.clT.all fun p => (He.Fa.glo p.1).ok K && decide (d.cls[p.2]? = some p.1) && decide (p.2 < P.nc)) &&
  ((List.range P.nc).all fun c => clsB d P K c) &&
  (d.T.glT.all fun p => glB d P K p) &&
  (d.T.bl.all fun x => (He.Fa.free x).ok K) && (d.T.exT.all fun p => exB d P K p) && (P.xc.all fun p => exC d P K p) && (P.sub.all fun p => subB d K p)
/-- a def of the program's text -/
def defOf (at_ : Str × Option Str) (qual : Str) (st : Stmt) : He.DefD := ⟨at_, (match st with | .FunctionDef n _ _ _ _ _ _ _ _ _ => n | _ => Str.empty), qual, defArgs st, defBody st, defScope st, [], []⟩
abbrev AlM : Type := Bool × List He.FnW
def obsM (d : Dt) (P : Prog) (fn : List He.DefD) (K : PySem.W.Frag) : AlM := (factsB d P K && fn.all fun d => d.ok K, fn.map fun d => He.fnW K d.at_)
def valM (fn : List He.DefD) : AlM := (true, fn.map He.DefD.val)
/-- what some objects name -/
def kidsX (g : Addr → Option Obj) (p : Obj → Bool) (as : List Addr) : List Addr := as.flatMap fun a => match g a with
  | some o => if p o then He.refsD o else []
  | none => []
def isCT (o : Obj) : Bool := match o.data with
  | .cls _ => true | .seq _ _ => true | _ => false
def isDO (o : Obj) : Bool := match o.data with
  | .dict _ _ => true | _ => false
def isFO (o : Obj) : Bool := match o.data with
  | .func _ => true | _ => false
def as1 (g : Addr → Option Obj) : List Addr := kidsX g (fun _ => true) [mainGlobals]
def as2 (g : Addr → Option Obj) : List Addr := kidsX g isCT (as1 g)
def as3 (g : Addr → Option Obj) : List Addr := kidsX g isDO (as2 g)
/-- the top's names, what its classes and tuples name, the classes' own, the defs' code -/
def asX (g : Addr → Option Obj) : List Addr := mainGlobals :: (as1 g ++ (as2 g ++ (as3 g ++ (kidsX g isFO (as1 g) ++ kidsX g isFO (as3 g)))))
def obsMG (n : Nat) (d : Dt) (P : Prog) (fn : List He.DefD) (g : Addr → Option Obj) : AlM := obsM d P fn (He.frG g (asX g))
def hookM (n : Nat) (d : Dt) (P : Prog) (fn : List He.DefD) : PySem.W.Hook where
  α := AlM
  obs := fun s => obsMG n d P fn s.heap.get?
  val := fun _ => valM fn
  says := fun _ h => ∃ K : PySem.W.Frag, K.In h ∧ obsM d P fn K = valM fn
  of := fun _ _ e => ⟨_, He.frG_in, e⟩
  keeps := fun _ _ _ ⟨K, hK, c⟩ k => ⟨K, PySem.W.Frag.In.keeps hK k, c⟩
theorem obsMG_eq {n : Nat} {d : Dt} {P : Prog} {fn : List He.DefD} {g : Addr → Option Obj} {s : Shared} (h : ∀ a, g a = s.heap.get? a) : obsMG n d P fn g = (hookM n d P fn).obs s := by
  have e : g = s.heap.get? := funext h
  rw [e] <;> rfl
end Ev

set_option maxRecDepth 100000
set_option maxHeartbeats 6400000
/-! Rules that the hand layer has not: set(xs) of a list, sorted(set(xs)), xs.extend(t) of a tuple. -/
namespace Ev
open PySem PySem.Spec PyProof.Rows L2
section
/-- a set that holds nothing yet -/
abbrev mtS (w : World) : Obj := { cls := .type "set", dict := none, data := .set #[] 0 (.fresh 0 0 (!w.params.followText "set-order")) }
variable {P : Program} {w : World} {A : Around} {E : Value → Shared → Prop} {s : Shared}
theorem set_of_list {l : Addr} {us : Array Value} (ns : List Int) {Q : Value → Shared → Prop} (nh : A.handled = none) (il : s.heap.IsList l us) (iv : IntsAre us.toList ns) (small : ns.length + 1 < scanBound)
    (k : ∀ (hp : Heap) (tk c : Nat), SetR w hp s.heap.objs.size (fun j => decide (j ∈ ns)) c → c ≤ ns.length → (∀ b o, s.heap.get? b = some o → hp.get? b = some o) → Q (.ref s.heap.objs.size) { s with heap := hp, toks := tk }) :
    wpAny (model P w) A (call (.type "set") [.ref l]) Q E s := by
  have sz : us.size = ns.length := by
    have q := IntsAre.length iv
    rwa [Array.length_toList] at q
  obtain ⟨mc, mtl, mm⟩ := F.called_set.mro
  have f1 := F.called_set.made
  have f2 := F.called_set.sub
  have f3 := F.called_set.notType
  have f4 := F.called_set.canCreate
  have f5 := F.typeCall_set_1 (.ref l)
  refine wpAny_call (codeAny_of_tree ?_)
  change wpAny _ _ (callAny (.type "set") _) _ _ _
  refine wpAny_pure ⟨Code.quiet_builtin _ (by decide +kernel), codeAny_builtin F.entry_type_call ?_⟩
  rw [Around.under_plain (weight_type_call_type "set" [.ref l] []) rfl]
  repeat (any_goals (first | assumption | wp_step))
  refine codeAny_mono (code_set_led1 (.ref l) (E := E) (Q₁ := fun ob sa => ob = .ref s.heap.objs.size ∧ sa = { s with heap := s.heap.push (mtS w) }) ⟨rfl, rfl⟩) fun r sa hr => ?_
  rcases r with er | fl
  · exact hr
  cases fl with
  | ret ob =>
    obtain ⟨rfl, rfl⟩ := hr
    have gS : (s.heap.push (mtS w)).get? s.heap.objs.size = some (mtS w) := Heap.get?_push_size _ rfl
    have tS : Shared.TypeIs { s with heap := s.heap.push (mtS w) } (.ref s.heap.objs.size) "set" := ⟨_, gS, rfl⟩
    have f6 := F.called_set.init.lookup
    have f7 := F.called_set.init.bind (.ref s.heap.objs.size)
    repeat (any_goals (first | assumption | wp_step))
    refine codeAny_mono (codeAny_call_builtin (R := wants (fun r sb => r = .none ∧ ∃ hp tk c, sb = { s with heap := hp, toks := tk } ∧ SetR w hp s.heap.objs.size (fun j => decide (j ∈ ns)) c ∧ c ≤ ns.length ∧ ∀ b o, s.heap.get? b = some o → hp.get? b = some o) E)
      F.called_set.init.plain F.entry_set_init (check_set_init_1 tS ?_)) fun r2 sb hr2 => ?_
    · obtain ⟨⟨oc, od, oa, os⟩, gl, e1, nl, e2⟩ := il
      simp only at e1 e2
      subst e1 e2
      have gl2 : (s.heap.push (mtS w)).get? l = some { cls := .type "list", dict := od, data := .seq us nl, slots := os } := Heap.get?_push_of_some _ gl
      have g1 := F.sub_list_set
      have g2 := F.sub_list_frozenset
      have g3 : (Value.type "list" == Value.type "dict") = false := by decide
      have il2 : (s.heap.push (mtS w)).IsList l us := ⟨_, gl2, rfl, nl, rfl⟩
      unfold Builtin.«set.__init__» noKeywords Builtin.Frozenset.updateFrom
      generalize ePI : pyIter = PI
      wp_walk
      subst ePI
      refine wpAny_pyIter_list il2 ?_
      refine wpAny_bind (wpAny_runValue ?_)
      have ls : l < s.heap.objs.size := Heap.lt_size gl
      have nh3 : A.in1.in1.in1.handled = none := by simp [nh]
      have zs : (s.heap.push (mtS w)).objs.size = s.heap.objs.size + 1 := Heap.size_push ..
      have nI : l ≠ (s.heap.push (mtS w)).objs.size := by rw [zs]; exact Nat.ne_of_lt (Nat.lt_succ_of_lt ls)
      have nS : s.heap.objs.size ∉ [(s.heap.push (mtS w)).objs.size, l] := by
        rw [zs]
        simp only [List.mem_cons, List.not_mem_nil, or_false, not_or]
        exact ⟨Nat.ne_of_lt (Nat.lt_succ_self _), (Nat.ne_of_lt ls).symm⟩
      have at1 : ∀ (i : Nat) (v : Value), us[i]? = some v → ∃ z t, ns[i]? = some z ∧ v = .int z t := fun i v hv => by
        have hi : i < ns.length := by rw [← sz]; exact (Array.getElem?_eq_some_iff.mp hv).1
        obtain ⟨t, e⟩ := IntsAre.int_at iv i v (by rw [Array.getElem?_toList]; exact hv)
        refine ⟨ns[i], t, List.getElem?_eq_getElem hi, ?_⟩
        rw [e]
        simp [List.getD, List.getElem?_eq_getElem hi]
      refine set_update_ints ((Walks.list nh3 _ l nI us).toS) s.heap.objs.size nS ns sz small at1 (us.size - 0) 0 _ (by omega) (Nat.zero_le _) ⟨⟨_, Heap.get?_push_size _ rfl, rfl, rfl⟩, (il2.push _)⟩ ?begun ?done
      case begun =>
        have g9 : ((s.heap.push (mtS w)).push { cls := .type "list_iterator", data := .fields #[.ref l, .int 0 0] }).get? s.heap.objs.size = some (mtS w) := Heap.get?_push_of_some _ gS
        exact ⟨0, Nat.le_refl 0, setR_new_at g9⟩
      case done =>
        intro sd c2 mv lc RS
        obtain ⟨hp, gg, dd, tk, oo⟩ := sd
        have q1 : gg = s.gens := mv.gens
        have q2 : dd = s.drawn := mv.drawn
        have q3 : oo = s.os := mv.os
        subst q1 q2 q3
        change wpAny _ _ _ _ _ _
        refine wpAny_pure ?_
        change wpAny _ _ (ret Value.none) _ _ _
        rw [sz] at lc
        refine wpAny_pure ⟨rfl, hp, tk, c2, rfl, RS, lc, fun b o e => ?_⟩
        have lb : b < s.heap.objs.size := Heap.lt_size e
        refine mv.heap b o ?_ (Heap.get?_push_of_some _ (Heap.get?_push_of_some _ e))
        rw [zs]
        simp only [List.mem_cons, List.not_mem_nil, or_false, not_or]
        exact ⟨Nat.ne_of_lt lb, Nat.ne_of_lt (Nat.lt_succ_of_lt lb)⟩
    · rcases r2 with er2 | fl2
      · exact hr2
      cases fl2 with
      | ret r =>
        obtain ⟨rfl, hp, tk, c2, rfl, RS, lc, kp⟩ := hr2
        repeat (any_goals (first | assumption | wp_step))
        exact k _ _ _ RS lc kp
      | _ => exact hr2.elim
  | _ => exact hr.elim
end
/-! ### over the layer -/
section
variable {X : Cx}
/-- set(xs), of ints in a list or a tuple -/
def rSetI (X : Cx) : List V → Hp → VK → Prop := fun xs H Q => ∃ (l : Addr) (ns : List Int), xs = [.ref l] ∧ (SqL X.K H l (ns.map V.int) ∨ SqT X.K H l (ns.map V.int)) ∧ ns.length ≤ 4000 ∧
    ∀ (p : Addr) (ds : List Int), ds.Nodup → (∀ j, j ∈ ds ↔ j ∈ ns) → H p = none → Q (.ref p) (upd H p (SetO X.w p (fun j => decide (j ∈ ns)) ds.length))
theorem cr_setI (nc : X.calm = true) : CallR X (.type "set") (rSetI X) := by
  intro pins s σ H xs us Q I r h
  obtain ⟨l, ns, rfl, hs, small, q⟩ := h
  rw [Vals.ref1 r]
  have hd := I.ok.hd nc
  have fin : ∀ (hp : Heap) (tk c : Nat), SetR X.w hp s.heap.objs.size (fun j => decide (j ∈ ns)) c → c ≤ ns.length → (∀ b o, s.heap.get? b = some o → hp.get? b = some o) → EP X pins σ Q (.ref s.heap.objs.size) { s with heap := hp, toks := tk } := fun hp tk c RS lc kp => by
    obtain ⟨o, es, ep, t, ho, hex, hdt, g, nd, mem, hb, hf, hn, hr, hl2⟩ := id RS
    have ec : c = (es.toList.map keyOf).length := by simp [← hn]
    have q2 := q s.heap.objs.size (es.toList.map keyOf) nd (fun j => by rw [← mem j]; simp) (I.hok.fresh (Nat.le_refl _))
    rw [← ec] at q2
    exact ⟨.ref _, upd H s.heap.objs.size (SetO X.w s.heap.objs.size (fun j => decide (j ∈ ns)) c), I.laid (t' := tk) (fun b u e => kp b u e) (Nat.le_refl _) (setO_new RS), rfl, q2⟩
  rcases hs with hs | hs
  · obtain ⟨its, rv, pl, hz⟩ := I.list hs
    exact set_of_list ns hd pl.isList (ints_of_vals rv) (by unfold scanBound; omega) fin
  · obtain ⟨its, rv, pt, hz⟩ := I.tuple hs
    exact call_set_tupI ns hd (show s.heap.IsTuple l its.toArray from pt) (ints_of_vals rv) (by unfold scanBound; omega) fin
/-! ### xs.extend(t) -/
theorem ext_tuple (l : Addr) (xs : Array Value) (n : Nat) (b : Addr) (ys : Array Value) (n2 : Nat) (dd : Option Addr) (sl : Array (Option Value)) (door : ¬(!xs.isEmpty && Builtin.List.listTooLong (xs.size + ys.size)) = true) (h1 : xs.size ≤ sizeLine) (h2 : xs.size + ys.size ≤ sizeLine + 1) :
    Meets (Builtin.«list.extend» ⟨[.ref l, .ref b], []⟩) (fun _ R s =>
      s.heap.get? l = some { cls := .type "list", dict := none, data := .seq xs n, slots := #[] } ∧ s.heap.get? b = some { cls := .type "tuple", dict := dd, data := .seq ys n2, slots := sl } ∧
      R (.ok (.ret Value.none)) { s with heap := s.heap.update l (Obj.mapSeq fun x => x ++ ys), toks := s.toks }) :=
  .of_wp fun prog w A R s h => by
    obtain ⟨hp, g, d, tk, os⟩ := s
    obtain ⟨gl, gb, k⟩ := h
    have i1 := AutoSeq1.idx_int
    have i2 := AutoSeq1.sub_tuple_tuple
    have i3 := AutoSeq1.sub_list_list
    have i4 := AutoSeq1.sub_tuple_list
    have i5 := AutoSeq1.sub_list_tuple
    have fit : (xs ++ ys).size ≤ sizeLine + 1 := by rw [Array.size_append]; exact h2
    wp_walk using (wpAny_updateSeq gl rfl (hz := h1) (_hz' := fit)), AutoSeq1.wpAny_loadPart' gl, AutoSeq1.wpAny_loadPart' gb
    exact ⟨_, rfl, k⟩
def rExtT (X : Cx) : V → List V → Hp → VK → Prop := fun x vs H Q => ∃ l b xs zs, x = .ref l ∧ vs = [.ref b] ∧ H l = some (.lst xs) ∧ SqT X.K H b zs ∧ xs.length + zs.length ≤ sizeLine ∧ Q .non (upd H l (.lst (xs ++ zs)))
theorem mt_extT : MtM X "list.extend" (rExtT X) := by
  intro pins s σ H x vs v us Q I rx rv h
  obtain ⟨l, b, xs, zs, rfl, rfl, hH, hB, hz, q⟩ := h
  cases rx
  obtain ⟨u, rfl, ru⟩ := rv.one
  cases ru
  obtain ⟨z, its, n, r, hl, e⟩ := I.lstM hH
  obtain ⟨its2, r2, ⟨⟨oc, od, oa, os⟩, e2, c2, n2, d2⟩, z2⟩ := I.tuple hB
  simp only at c2 d2
  subst c2 d2
  have l1 := r.length
  have l2 := r2.length
  have fit : its.toArray.size + its2.toArray.size ≤ sizeLine := by rw [List.size_toArray, List.size_toArray]; omega
  refine call_meets F.slot_list_extend ⟨_, e, rfl⟩ F.entry_list_extend (F.args_list_extend_2 _ _) (ext_tuple l its.toArray n b its2.toArray n2 od os (PyProof.Rows.extend_door fit) (by omega) (by omega)) ⟨e, e2, ?_⟩
  exact ⟨.non, _, I.lset (its' := its ++ its2) hH e (by simp) (r.append r2) (by rw [List.length_append]; omega), rfl, q⟩
def rExt2 (X : Cx) : V → List V → Hp → VK → Prop := fun x vs H Q => rExtend x vs H Q ∨ rExtT X x vs H Q
theorem mt_ext2 : MtM X "list.extend" (rExt2 X) := by
  intro pins s σ H x vs v us Q I rx rv h
  rcases h with h | h
  · exact mt_extend pins s σ H x vs v us Q I rx rv h
  · exact mt_extT pins s σ H x vs v us Q I rx rv h
end
end Ev

set_option maxRecDepth 100000
set_option maxHeartbeats 4000000
namespace K02
open PySem Ev
def s0_part : Str := (Str.ofString "part")
def s1_rows : Str := (Str.ofString "rows")
def s2_inputs : Str := (Str.ofString "inputs")
def s3_kind : Str := (Str.ofString "kind")
def s4_see : Str := (Str.ofString "see")
def s5_put : Str := (Str.ofString "put")
def s6_borrow : Str := (Str.ofString "borrow")
def s7_twice : Str := (Str.ofString "twice")
def s8_sweep : Str := (Str.ofString "sweep")
def s9_look : Str := (Str.ofString "look")
def s10_levels : Str := (Str.ofString "levels")
def s11_names : Str := (Str.ofString "names")
def s12_chain : Str := (Str.ofString "chain")
def s13_near : Str := (Str.ofString "near")
def f_BadPlay_init : Fn := ⟨2, 2, (.cons (.stf 0 s0_part (.v 1)) .nil)⟩
def f_is_integer : Fn := ⟨1, 1, (.cons (.ret (.and (.cons (.isa (.v 0) [.int]) (.cons (.not (.isa (.v 0) [.bool])) .nil)))) .nil)⟩
def f_is_within : Fn := ⟨3, 3, (.cons (.ret (.and (.cons (.call 1 (.cons (.v 0) .nil)) (.cons (.cmp2 .le .le (.v 1) (.v 0) (.v 2)) .nil)))) .nil)⟩
def f_is_below : Fn := ⟨2, 2, (.cons (.ret (.call 2 (.cons (.v 0) (.cons (.k (.int 0)) (.cons (.bin .sub (.v 1) (.k (.int 1))) .nil))))) .nil)⟩
def f_is_sized : Fn := ⟨3, 3, (.cons (.ret (.and (.cons (.isa (.v 0) [.tuple]) (.cons (.cmp2 .le .le (.v 1) (.b1 .len (.v 0)) (.v 2)) .nil)))) .nil)⟩
def f_is_pair : Fn := ⟨1, 1, (.cons (.ret (.call 4 (.cons (.v 0) (.cons (.k (.int 2)) (.cons (.k (.int 2)) .nil))))) .nil)⟩
def f_replaced : Fn := ⟨3, 3, (.cons (.ret (.bin .add (.bin .add (.sli (.v 0) .no (.so (.v 1))) (.tup (.cons (.v 2) .nil))) (.sli (.v 0) (.so (.bin .add (.v 1) (.k (.int 1)))) .no))) .nil)⟩
def f_is_deed : Fn := ⟨1, 1, (.cons (.iff (.or (.cons (.not (.call 4 (.cons (.v 0) (.cons (.k (.int 1)) (.cons (.k (.int 2)) .nil))))) (.cons (.not (.isa (.idx (.v 0) (.k (.int 0))) [.str])) .nil))) (.cons (.ret (.k (.bl false))) .nil) .nil) (.cons (.ret (.or (.cons (.cmp .eq (.v 0) (.tup (.cons (.g 0) .nil))) (.cons (.and (.cons (.cmp .eq (.b1 .len (.v 0)) (.k (.int 2))) (.cons (.cmp .eq (.idx (.v 0) (.k (.int 0))) (.g 1)) (.cons (.call 3 (.cons (.idx (.v 0) (.k (.int 1))) (.cons (.g 2) .nil))) .nil)))) .nil)))) .nil))⟩
def f_is_script : Fn := ⟨1, 2, (.cons (.ret (.and (.cons (.call 4 (.cons (.v 0) (.cons (.k (.int 0)) (.cons (.g 3) .nil)))) (.cons (.b1 .all (.lc (.call 7 (.cons (.v 1) .nil)) (.n 1) (.x (.v 0)) .no [1])) .nil)))) .nil)⟩
def f_is_value : Fn := ⟨1, 1, (.cons (.ret (.call 3 (.cons (.v 0) (.cons (.g 2) .nil)))) .nil)⟩
def f_is_near_value : Fn := ⟨1, 1, (.cons (.ret (.call 2 (.cons (.v 0) (.cons (.neg (.g 2)) (.cons (.g 2) .nil))))) .nil)⟩
def f_is_lot : Fn := ⟨1, 4, (.cons (.iff (.or (.cons (.not (.isa (.v 0) [.tuple])) (.cons (.not (.b1 .all (.lc (.call 3 (.cons (.v 3) (.cons (.g 4) .nil))) (.n 3) (.x (.v 0)) .no [3]))) .nil))) (.cons (.ret (.k (.bl false))) .nil) .nil) (.cons (.ret (.b1 .all (.lc (.cmp .lt (.v 1) (.v 2)) (.t [(.n 1), (.n 2)]) (.zip (.cons (.v 0) (.cons (.sli (.v 0) (.so (.k (.int 1))) .no) .nil))) .no [1, 2]))) .nil))⟩
def f_is_row_of : Fn := ⟨2, 3, (.cons (.ret (.and (.cons (.call 4 (.cons (.v 1) (.cons (.k (.int 1)) (.cons (.g 5) .nil)))) (.cons (.b1 .all (.lc (.cav 0 (.cons (.v 2) .nil)) (.n 2) (.x (.v 1)) .no [2])) .nil)))) .nil)⟩
def f_are_inputs : Fn := ⟨2, 2, (.cons (.iff (.cmp .isin (.v 0) (.g 6)) (.cons (.ret (.call 12 (.cons (.g 7) (.cons (.v 1) .nil)))) .nil) .nil) (.cons (.iff (.cmp .eq (.v 0) (.g 8)) (.cons (.ret (.call 12 (.cons (.g 9) (.cons (.v 1) .nil)))) .nil) .nil) (.cons (.iff (.cmp .eq (.v 0) (.g 10)) (.cons (.ret (.and (.cons (.call 12 (.cons (.g 9) (.cons (.v 1) .nil))) (.cons (.cmp .eq (.lenset (.v 1)) (.b1 .len (.v 1))) .nil)))) .nil) .nil) (.cons (.iff (.cmp .eq (.v 0) (.g 11)) (.cons (.ret (.call 12 (.cons (.g 12) (.cons (.v 1) .nil)))) .nil) .nil) (.cons (.ret (.and (.cons (.call 5 (.cons (.v 1) .nil)) (.cons (.call 2 (.cons (.idx (.v 1) (.k (.int 0))) (.cons (.k (.int 1)) (.cons (.g 13) .nil)))) (.cons (.call 12 (.cons (.g 14) (.cons (.idx (.v 1) (.k (.int 1))) .nil))) .nil))))) .nil)))))⟩
def f_Play_init : Fn := ⟨3, 3, (.cons (.iff (.or (.cons (.not (.isa (.v 1) [.str])) (.cons (.cmp .nin (.v 1) (.bin .add (.g 6) (.tup (.cons (.g 8) (.cons (.g 10) (.cons (.g 15) (.cons (.g 11) .nil))))))) .nil))) (.cons (.rse 2 (.so (.k (.str s3_kind)))) .nil) .nil) (.cons (.iff (.not (.call 13 (.cons (.v 1) (.cons (.v 2) .nil)))) (.cons (.rse 2 (.so (.k (.str s2_inputs)))) .nil) .nil) (.cons (.stf 0 s3_kind (.v 1)) (.cons (.stf 0 s2_inputs (.v 2)) (.cons (.stf 0 s1_rows (.ite (.cmp .eq (.v 1) (.g 15)) (.idx (.v 2) (.k (.int 1))) (.v 2))) .nil)))))⟩
def f_Play_eq : Fn := ⟨2, 2, (.cons (.ret (.and (.cons (.isa (.v 1) [.cls 0]) (.cons (.cmp .eq (.tup (.cons (.fld (.v 0) s3_kind) (.cons (.fld (.v 0) s2_inputs) .nil))) (.tup (.cons (.fld (.v 1) s3_kind) (.cons (.fld (.v 1) s2_inputs) .nil)))) .nil)))) .nil)⟩
def f_is_hand : Fn := ⟨2, 2, (.cons (.ret (.call 3 (.cons (.v 1) (.cons (.b1 .len (.fld (.v 0) s1_rows)) .nil)))) .nil)⟩
def f_check_hand : Fn := ⟨2, 2, (.cons (.iff (.not (.call 16 (.cons (.v 0) (.cons (.v 1) .nil)))) (.cons (.rse 3 .no) .nil) .nil) .nil)⟩
def f_level_cell : Fn := ⟨2, 2, (.cons (.ret (.k .non)) .nil)⟩
def f_level_state : Fn := ⟨2, 2, (.cons (.ret (.tup (.cons (.bin .add (.b1 .len (.fld (.v 0) s1_rows)) (.k (.int 1))) (.cons (.k .non) .nil)))) .nil)⟩
def f_level_next : Fn := ⟨3, 3, (.cons (.ret (.ite (.cmp .is (.idx (.v 2) (.k (.int 1))) (.k .non)) (.tup (.cons (.g 1) .nil)) (.tup (.cons (.g 16) (.cons (.b1 .len (.idx (.v 2) (.k (.int 1)))) .nil))))) .nil)⟩
def f_level_after : Fn := ⟨4, 10, (.cons (.setG (.t [(.n 6), (.n 7)]) (.v 3)) (.cons (.iff (.cmp .is (.v 7) (.k .non)) (.cons (.ret (.tup (.cons (.tup (.cons (.bin .sub (.v 6) (.k (.int 1))) (.cons (.idx (.fld (.v 0) s1_rows) (.v 1)) .nil))) (.cons (.tup (.cons (.bin .sub (.v 6) (.k (.int 1))) (.cons (.tup .nil) .nil))) (.cons (.k .non) .nil))))) .nil) .nil) (.cons (.set 4 (.bin .add (.v 7) (.tup (.cons (.idx (.v 2) (.b1 .len (.v 7))) .nil))) false) (.cons (.iff (.cmp .lt (.b1 .len (.v 4)) (.b1 .len (.v 2))) (.cons (.ret (.tup (.cons (.k .non) (.cons (.tup (.cons (.v 6) (.cons (.v 4) .nil))) (.cons (.k .non) .nil))))) .nil) .nil) (.cons (.set 5 (.lc (.tup (.cons (.v 8) (.cons (.idx (.v 9) (.k (.int 1))) .nil))) (.t [(.n 8), (.n 9)]) (.enum (.cons (.v 4) .nil)) (.so (.and (.cons (.cmp .nis (.v 9) (.k .non)) (.cons (.cmp .le (.idx (.v 9) (.k (.int 0))) (.v 6)) .nil)))) [8, 9]) false) (.cons (.iff (.cmp .ge (.b1 .len (.v 5)) (.v 6)) (.cons (.ret (.tup (.cons (.k .non) (.cons (.k .non) (.cons (.b1 .tuple (.v 5)) .nil))))) .nil) .nil) (.cons (.ret (.tup (.cons (.k .non) (.cons (.tup (.cons (.v 6) (.cons (.k .non) .nil))) (.cons (.k .non) .nil))))) .nil)))))))⟩
def f_fresh : Fn := ⟨3, 3, (.cons (.ret (.ite (.cmp .lt (.v 2) (.b1 .len (.idx (.fld (.v 0) s1_rows) (.v 1)))) (.tup (.cons (.v 2) (.cons (.k .non) (.cons (.k .non) (.cons (.tup .nil) (.cons (.k .non) .nil)))))) (.k .non))) .nil)⟩
def f_manner_cell : Fn := ⟨2, 2, (.cons (.ret (.g 17)) .nil)⟩
def f_manner_state : Fn := ⟨2, 2, (.cons (.ret (.call 22 (.cons (.v 0) (.cons (.v 1) (.cons (.k (.int 0)) .nil))))) .nil)⟩
def f_is_put_next : Fn := ⟨3, 3, (.cons (.iff (.cmp .ne (.idx (.idx (.idx (.fld (.v 0) s1_rows) (.v 1)) (.idx (.v 2) (.k (.int 0)))) (.k (.int 0))) (.g 1)) (.cons (.ret (.k (.bl false))) .nil) .nil) (.cons (.ret (.or (.cons (.cmp .ne (.fld (.v 0) s3_kind) (.g 18)) (.cons (.cmp .nis (.idx (.v 2) (.k (.int 4))) (.k .non)) .nil)))) .nil))⟩
def f_manner_next : Fn := ⟨3, 3, (.cons (.ret (.ite (.call 25 (.cons (.v 0) (.cons (.v 1) (.cons (.v 2) .nil)))) (.tup (.cons (.g 1) .nil)) (.tup (.cons (.g 19) (.cons (.b1 .len (.idx (.v 2) (.k (.int 3)))) .nil))))) .nil)⟩
def f_numbers_of : Fn := ⟨1, 2, (.cons (.ret (.b1 .tuple (.lc (.idx (.v 1) (.k (.int 0))) (.n 1) (.x (.v 0)) .no [1]))) .nil)⟩
def f_picture_of : Fn := ⟨1, 2, (.cons (.ret (.b1 .tuple (.lc (.sli (.v 1) .no (.so (.k (.int 2)))) (.n 1) (.x (.v 0)) .no [1]))) .nil)⟩
def f_lent : Fn := ⟨2, 4, (.cons (.for (.t [(.n 2), (.n 3)]) (.zip (.cons (.v 0) (.cons (.v 1) .nil))) (.cons (.iff (.cmp .ge (.idx (.v 3) (.k (.int 0))) (.bin .add (.v 2) (.k (.int 2)))) (.cons (.ret (.idx (.v 3) (.k (.int 2)))) .nil) .nil) .nil)) (.cons (.ret (.k .non)) .nil))⟩
def f_result_of : Fn := ⟨4, 4, (.cons (.iff (.or (.cons (.cmp .eq (.v 0) (.g 20)) (.cons (.cmp .eq (.v 2) (.call 27 (.cons (.v 3) .nil))) .nil))) (.cons (.ret (.call 28 (.cons (.v 3) .nil))) .nil) .nil) (.cons (.ret (.ite (.and (.cons (.cmp .eq (.v 0) (.g 18)) (.cons (.cmp .nis (.v 1) (.k .non)) .nil))) (.call 29 (.cons (.v 1) (.cons (.v 3) .nil))) (.k .non))) .nil))⟩
def f_after_sweep : Fn := ⟨4, 11, (.cons (.setG (.t [(.n 5), (.n 6), (.n 7), (.n 8), (.n 9)]) (.v 2)) (.cons (.set 4 (.call 30 (.cons (.fld (.v 0) s3_kind) (.cons (.v 6) (.cons (.v 7) (.cons (.v 3) .nil))))) false) (.cons (.iff (.cmp .is (.v 4) (.k .non)) (.cons (.set 10 (.call 27 (.cons (.v 3) .nil)) false) (.cons (.ret (.tup (.cons (.k .non) (.cons (.tup (.cons (.v 5) (.cons (.ite (.cmp .is (.v 6) (.k .non)) (.v 10) (.v 6)) (.cons (.v 10) (.cons (.tup .nil) (.cons (.k .non) .nil)))))) (.cons (.k .non) .nil))))) .nil)) .nil) (.cons (.iff (.cmp .eq (.idx (.idx (.idx (.fld (.v 0) s1_rows) (.v 1)) (.v 5)) (.k (.int 0))) (.g 1)) (.cons (.ret (.tup (.cons (.k .non) (.cons (.tup (.cons (.v 5) (.cons (.k .non) (.cons (.k .non) (.cons (.tup .nil) (.cons (.v 4) .nil)))))) (.cons (.k .non) .nil))))) .nil) .nil) (.cons (.ret (.tup (.cons (.k .non) (.cons (.call 22 (.cons (.v 0) (.cons (.v 1) (.cons (.bin .add (.v 5) (.k (.int 1))) .nil)))) (.cons (.v 4) .nil))))) .nil)))))⟩
def f_manner_after : Fn := ⟨4, 11, (.cons (.setG (.t [(.n 5), (.n 6), (.n 7), (.n 8), (.n 9)]) (.v 3)) (.cons (.iff (.call 25 (.cons (.v 0) (.cons (.v 1) (.cons (.v 3) .nil)))) (.cons (.set 10 (.tup (.cons (.bin .add (.idx (.idx (.v 2) (.v 1)) (.k (.int 0))) (.k (.int 1))) (.cons (.idx (.idx (.idx (.fld (.v 0) s1_rows) (.v 1)) (.v 5)) (.k (.int 1))) (.cons (.v 9) .nil)))) false) (.cons (.ret (.tup (.cons (.v 10) (.cons (.call 22 (.cons (.v 0) (.cons (.v 1) (.cons (.bin .add (.v 5) (.k (.int 1))) .nil)))) (.cons (.k .non) .nil))))) .nil)) .nil) (.cons (.set 4 (.bin .add (.v 8) (.tup (.cons (.idx (.v 2) (.b1 .len (.v 8))) .nil))) false) (.cons (.iff (.cmp .eq (.b1 .len (.v 4)) (.b1 .len (.v 2))) (.cons (.ret (.call 31 (.cons (.v 0) (.cons (.v 1) (.cons (.v 3) (.cons (.v 4) .nil)))))) .nil) .nil) (.cons (.ret (.tup (.cons (.k .non) (.cons (.tup (.cons (.v 5) (.cons (.v 6) (.cons (.v 7) (.cons (.v 4) (.cons (.k .non) .nil)))))) (.cons (.k .non) .nil))))) .nil)))))⟩
def f_top_cell : Fn := ⟨2, 2, (.cons (.ret (.ite (.cmp .eq (.fld (.v 0) s3_kind) (.g 15)) (.tup .nil) (.k .non))) .nil)⟩
def f_top_state : Fn := ⟨2, 2, (.cons (.iff (.cmp .eq (.fld (.v 0) s3_kind) (.g 10)) (.cons (.ret (.tup (.cons (.k (.int 1)) (.cons (.k (.bl false)) .nil)))) .nil) .nil) (.cons (.ret (.ite (.cmp .eq (.fld (.v 0) s3_kind) (.g 15)) (.tup (.cons (.k (.int 0)) (.cons (.idx (.fld (.v 0) s1_rows) (.v 1)) (.cons (.k (.bl false)) .nil)))) (.tup (.cons (.k (.bl false)) .nil)))) .nil))⟩
def f_top_next : Fn := ⟨3, 3, (.cons (.ret (.ite (.idx (.v 2) (.neg (.k (.int 1)))) (.tup (.cons (.g 0) .nil)) (.tup (.cons (.g 1) .nil)))) .nil)⟩
def f_wish_by : Fn := ⟨2, 8, (.cons (.set 2 (.b1 .len (.lc (.v 6) (.n 6) (.x (.v 0)) (.so (.and (.cons (.cmp .nis (.v 6) (.k .non)) (.cons (.cmp .lt (.idx (.v 6) (.k (.int 0))) (.idx (.idx (.v 0) (.v 1)) (.k (.int 0)))) .nil)))) [6])) false) (.cons (.set 3 (.lc (.idx (.v 6) (.k (.int 1))) (.t [(.n 7), (.n 6)]) (.enum (.cons (.v 0) .nil)) (.so (.and (.cons (.cmp .ne (.v 7) (.v 1)) (.cons (.cmp .nis (.v 6) (.k .non)) .nil)))) [6, 7]) false) (.cons (.set 4 (.lc (.v 5) (.n 5) (.rng (.cons (.k (.int 1)) (.cons (.bin .add (.bin .mul (.k (.int 2)) (.b1 .len (.v 0))) (.k (.int 1))) .nil))) (.so (.cmp .nin (.v 5) (.v 3))) [5]) false) (.cons (.ret (.idx (.v 4) (.v 2))) .nil))))⟩
def f_after_names : Fn := ⟨4, 9, (.cons (.setG (.t [(.n 5), (.n 6)]) (.v 3)) (.cons (.iff (.not (.v 6)) (.cons (.ret (.tup (.cons (.tup (.cons (.idx (.fld (.v 0) s1_rows) (.v 1)) (.cons (.v 5) .nil))) (.cons (.tup (.cons (.v 5) (.cons (.k (.bl true)) .nil))) (.cons (.k .non) .nil))))) .nil) .nil) (.cons (.set 4 (.lc (.v 8) (.t [(.n 7), (.n 8)]) (.enum (.cons (.v 2) .nil)) (.so (.and (.cons (.cmp .ne (.v 7) (.v 1)) (.cons (.cmp .nis (.v 8) (.k .non)) .nil)))) [7, 8]) false) (.cons (.iff (.cmp .nin (.v 5) (.lc (.idx (.v 8) (.k (.int 1))) (.n 8) (.x (.v 4)) .no [8])) (.cons (.ret (.tup (.cons (.k .non) (.cons (.k .non) (.cons (.v 5) .nil))))) .nil) .nil) (.cons (.ret (.tup (.cons (.k .non) (.cons (.tup (.cons (.call 36 (.cons (.v 2) (.cons (.v 1) .nil))) (.cons (.k (.bl false)) .nil))) (.cons (.k .non) .nil))))) .nil)))))⟩
def f_after_near : Fn := ⟨4, 10, (.cons (.setG (.t [(.n 6), (.n 7), (.n 8)]) (.v 3)) (.cons (.iff (.not (.v 8)) (.cons (.ret (.tup (.cons (.bin .add (.idx (.v 2) (.v 1)) (.tup (.cons (.v 7) .nil))) (.cons (.tup (.cons (.v 6) (.cons (.v 7) (.cons (.k (.bl true)) .nil)))) (.cons (.k .non) .nil))))) .nil) .nil) (.cons (.set 4 (.lc (.idx (.v 9) (.v 6)) (.n 9) (.x (.v 2)) (.so (.cmp .gt (.b1 .len (.v 9)) (.v 6))) [9]) false) (.cons (.set 5 (.bin .add (.b1 .min (.v 4)) (.b1 .max (.v 4))) false) (.cons (.iff (.cmp .eq (.bin .add (.v 6) (.k (.int 1))) (.idx (.fld (.v 0) s2_inputs) (.k (.int 0)))) (.cons (.ret (.tup (.cons (.k .non) (.cons (.k .non) (.cons (.tup (.cons (.v 5) (.cons (.bin .add (.v 6) (.k (.int 1))) .nil))) .nil))))) .nil) .nil) (.cons (.ret (.tup (.cons (.k .non) (.cons (.tup (.cons (.bin .add (.v 6) (.k (.int 1))) (.cons (.v 5) (.cons (.k (.bl false)) .nil)))) (.cons (.k .non) .nil))))) .nil))))))⟩
def f_after_chain : Fn := ⟨4, 7, (.cons (.iff (.not (.idx (.v 3) (.k (.int 0)))) (.cons (.ret (.tup (.cons (.idx (.fld (.v 0) s1_rows) (.v 1)) (.cons (.tup (.cons (.k (.bl true)) .nil)) (.cons (.k .non) .nil))))) .nil) .nil) (.cons (.set 4 .dict0 true) (.cons (.for (.n 5) (.x (.v 2)) (.cons (.iff (.cmp .nis (.v 5) (.k .non)) (.cons (.for (.n 6) (.x (.v 5)) (.cons (.stx 4 (.v 6) (.k (.bl true))) .nil)) .nil) .nil) .nil)) (.cons (.ret (.tup (.cons (.k .non) (.cons (.k .non) (.cons (.b1 .tuple (.b1 .sorted (.v 4))) .nil))))) .nil))))⟩
def f_top_after : Fn := ⟨4, 4, (.cons (.iff (.cmp .eq (.fld (.v 0) s3_kind) (.g 10)) (.cons (.ret (.call 37 (.cons (.v 0) (.cons (.v 1) (.cons (.v 2) (.cons (.v 3) .nil)))))) .nil) .nil) (.cons (.ret (.ite (.cmp .eq (.fld (.v 0) s3_kind) (.g 11)) (.call 39 (.cons (.v 0) (.cons (.v 1) (.cons (.v 2) (.cons (.v 3) .nil))))) (.call 38 (.cons (.v 0) (.cons (.v 1) (.cons (.v 2) (.cons (.v 3) .nil))))))) .nil))⟩
def f_cell_of : Fn := ⟨2, 2, (.cons (.iff (.cmp .isin (.fld (.v 0) s3_kind) (.g 6)) (.cons (.ret (.call 23 (.cons (.v 0) (.cons (.v 1) .nil)))) .nil) .nil) (.cons (.ret (.ite (.cmp .eq (.fld (.v 0) s3_kind) (.g 8)) (.call 18 (.cons (.v 0) (.cons (.v 1) .nil))) (.call 33 (.cons (.v 0) (.cons (.v 1) .nil))))) .nil))⟩
def f_state_of : Fn := ⟨2, 2, (.cons (.iff (.cmp .isin (.fld (.v 0) s3_kind) (.g 6)) (.cons (.ret (.call 24 (.cons (.v 0) (.cons (.v 1) .nil)))) .nil) .nil) (.cons (.ret (.ite (.cmp .eq (.fld (.v 0) s3_kind) (.g 8)) (.call 19 (.cons (.v 0) (.cons (.v 1) .nil))) (.call 34 (.cons (.v 0) (.cons (.v 1) .nil))))) .nil))⟩
def f_next_of : Fn := ⟨3, 3, (.cons (.iff (.cmp .isin (.fld (.v 0) s3_kind) (.g 6)) (.cons (.ret (.call 26 (.cons (.v 0) (.cons (.v 1) (.cons (.v 2) .nil))))) .nil) .nil) (.cons (.ret (.ite (.cmp .eq (.fld (.v 0) s3_kind) (.g 8)) (.call 20 (.cons (.v 0) (.cons (.v 1) (.cons (.v 2) .nil)))) (.call 35 (.cons (.v 0) (.cons (.v 1) (.cons (.v 2) .nil)))))) .nil))⟩
def f_after_of : Fn := ⟨4, 4, (.cons (.iff (.cmp .isin (.fld (.v 0) s3_kind) (.g 6)) (.cons (.ret (.call 32 (.cons (.v 0) (.cons (.v 1) (.cons (.v 2) (.cons (.v 3) .nil)))))) .nil) .nil) (.cons (.ret (.ite (.cmp .eq (.fld (.v 0) s3_kind) (.g 8)) (.call 21 (.cons (.v 0) (.cons (.v 1) (.cons (.v 2) (.cons (.v 3) .nil))))) (.call 40 (.cons (.v 0) (.cons (.v 1) (.cons (.v 2) (.cons (.v 3) .nil))))))) .nil))⟩
def f_begun : Fn := ⟨1, 4, (.cons (.set 1 (.lrng (.b1 .len (.fld (.v 0) s1_rows))) false) (.cons (.set 2 (.b1 .tuple (.lc (.call 41 (.cons (.v 0) (.cons (.v 3) .nil))) (.n 3) (.x (.v 1)) .no [3])) false) (.cons (.ret (.tup (.cons (.v 2) (.cons (.b1 .tuple (.lc (.call 42 (.cons (.v 0) (.cons (.v 3) .nil))) (.n 3) (.x (.v 1)) .no [3])) (.cons (.bin .mul (.tup (.cons (.tup .nil) .nil)) (.b1 .len (.v 1))) .nil))))) .nil)))⟩
def f_first_standing : Fn := ⟨1, 1, (.cons (.ret (.call 45 (.cons (.v 0) .nil))) .nil)⟩
def f_movers : Fn := ⟨1, 3, (.cons (.ret (.b1 .tuple (.lc (.v 1) (.t [(.n 1), (.n 2)]) (.enum (.cons (.idx (.v 0) (.k (.int 1))) .nil)) (.so (.cmp .nis (.v 2) (.k .non))) [1, 2]))) .nil)⟩
def f_can_step : Fn := ⟨2, 2, (.cons (.ret (.call 47 (.cons (.v 1) .nil))) .nil)⟩
def f_after_step : Fn := ⟨3, 9, (.cons (.setG (.t [(.n 3), (.n 4), (.n 5)]) (.v 1)) (.cons (.setG (.t [(.n 6), (.n 7), (.n 8)]) (.call 44 (.cons (.v 0) (.cons (.v 2) (.cons (.v 3) (.cons (.idx (.v 4) (.v 2)) .nil)))))) (.cons (.iff (.cmp .eq (.call 43 (.cons (.v 0) (.cons (.v 2) (.cons (.idx (.v 4) (.v 2)) .nil)))) (.tup (.cons (.g 1) .nil))) (.cons (.set 3 (.call 6 (.cons (.v 3) (.cons (.v 2) (.cons (.v 6) .nil)))) false) .nil) .nil) (.cons (.iff (.cmp .nis (.v 8) (.k .non)) (.cons (.set 5 (.call 6 (.cons (.v 5) (.cons (.v 2) (.cons (.bin .add (.idx (.v 5) (.v 2)) (.tup (.cons (.v 8) .nil))) .nil)))) false) .nil) .nil) (.cons (.ret (.tup (.cons (.v 3) (.cons (.call 6 (.cons (.v 4) (.cons (.v 2) (.cons (.v 7) .nil)))) (.cons (.v 5) .nil))))) .nil)))))⟩
def f_check_step : Fn := ⟨3, 3, (.cons (.ex (.call 17 (.cons (.v 0) (.cons (.v 2) .nil)))) (.cons (.iff (.cmp .is (.idx (.idx (.v 1) (.k (.int 1))) (.v 2)) (.k .non)) (.cons (.rse 4 .no) .nil) .nil) .nil))⟩
def f_step : Fn := ⟨3, 3, (.cons (.ex (.call 50 (.cons (.v 0) (.cons (.v 1) (.cons (.v 2) .nil))))) (.cons (.ret (.call 49 (.cons (.v 0) (.cons (.v 1) (.cons (.v 2) .nil))))) .nil))⟩
def f_next_step : Fn := ⟨3, 3, (.cons (.ex (.call 50 (.cons (.v 0) (.cons (.v 1) (.cons (.v 2) .nil))))) (.cons (.ret (.call 43 (.cons (.v 0) (.cons (.v 2) (.cons (.idx (.idx (.v 1) (.k (.int 1))) (.v 2)) .nil))))) .nil))⟩
def f__law_hand : Fn := ⟨1, 1, (.cons (.retc (.lst (.cons (.b1 .list (.v 0)) (.cons (.k (.int 0)) (.cons (.k (.int 0)) (.cons (.k (.int 1)) (.cons (.k (.int 0)) .nil))))))) .nil)⟩
def f__law_take : Fn := ⟨2, 5, (.cons (.stx 0 (.k (.int 4)) (.bin .add (.idx (.v 0) (.k (.int 4))) (.k (.int 1)))) (.cons (.iff (.and (.cons (.cmp .eq (.idx (.v 0) (.k (.int 2))) (.k (.int 0))) (.cons (.cmp .lt (.idx (.v 0) (.k (.int 1))) (.b1 .len (.idx (.v 0) (.k (.int 0))))) .nil))) (.cons (.set 3 (.b1 .int (.idx (.idx (.v 0) (.k (.int 0))) (.idx (.v 0) (.k (.int 1))))) false) (.cons (.stx 0 (.k (.int 1)) (.bin .add (.idx (.v 0) (.k (.int 1))) (.k (.int 1)))) (.cons (.iff (.cmp .ge (.v 3) (.bin .pow (.k (.int 10)) (.k (.int 18)))) (.cons (.stx 0 (.k (.int 2)) (.v 3)) .nil) (.cons (.stx 0 (.k (.int 3)) (.bin .mod (.b1 .int (.bin .add (.bin .add (.bin .mul (.idx (.v 0) (.k (.int 3))) (.k (.int 48271))) (.bin .mod (.b1 .int (.v 3)) (.k (.int 2147483647)))) (.k (.int 1)))) (.k (.int 2147483647)))) .nil)) .nil))) .nil) (.cons (.iff (.cmp .gt (.idx (.v 0) (.k (.int 2))) (.k (.int 0))) (.cons (.set 4 (.bin .mod (.b1 .int (.idx (.v 0) (.k (.int 2)))) (.v 1)) false) (.cons (.stx 0 (.k (.int 2)) (.bin .fdv (.b1 .int (.idx (.v 0) (.k (.int 2)))) (.v 1))) (.cons (.ret (.v 4)) .nil))) .nil) (.cons (.stx 0 (.k (.int 3)) (.bin .mod (.b1 .int (.bin .add (.bin .mul (.idx (.v 0) (.k (.int 3))) (.k (.int 69621))) (.bin .mul (.k (.int 7919)) (.idx (.v 0) (.k (.int 4)))))) (.k (.int 2147483647)))) (.cons (.set 2 (.bin .mod (.b1 .int (.bin .mul (.idx (.v 0) (.k (.int 3))) (.bin .add (.bin .fdv (.idx (.v 0) (.k (.int 3))) (.k (.int 1009))) (.k (.int 69621))))) (.k (.int 2147483647))) false) (.cons (.set 2 (.bin .mod (.b1 .int (.bin .mul (.v 2) (.bin .add (.bin .fdv (.v 2) (.k (.int 2003))) (.k (.int 40692))))) (.k (.int 2147483399))) false) (.cons (.ret (.bin .mod (.b1 .int (.bin .fdv (.v 2) (.k (.int 16)))) (.v 1))) .nil)))))))⟩
def f__law_pick : Fn := ⟨2, 2, (.cons (.ret (.idx (.v 1) (.call 54 (.cons (.v 0) (.cons (.b1 .len (.v 1)) .nil))))) .nil)⟩
def f__law_is_integer : Fn := ⟨1, 1, (.cons (.ret (.and (.cons (.isa (.v 0) [.int]) (.cons (.not (.isa (.v 0) [.bool])) .nil)))) .nil)⟩
def f__law_same : Fn := ⟨2, 4, (.cons (.iff (.cmp .is (.v 1) (.k .non)) (.cons (.ret (.cmp .is (.v 0) (.k .non))) .nil) .nil) (.cons (.iff (.cmp .is (.v 1) (.k (.bl true))) (.cons (.ret (.cmp .is (.v 0) (.k (.bl true)))) .nil) .nil) (.cons (.iff (.cmp .is (.v 1) (.k (.bl false))) (.cons (.ret (.cmp .is (.v 0) (.k (.bl false)))) .nil) .nil) (.cons (.iff (.isa (.v 1) [.int]) (.cons (.ret (.and (.cons (.call 56 (.cons (.v 0) .nil)) (.cons (.cmp .eq (.v 0) (.v 1)) .nil)))) .nil) .nil) (.cons (.iff (.isa (.v 1) [.str]) (.cons (.ret (.and (.cons (.isa (.v 0) [.str]) (.cons (.cmp .eq (.v 0) (.v 1)) .nil)))) .nil) .nil) (.cons (.iff (.or (.cons (.cmp .ne (.isa (.v 1) [.tuple]) (.isa (.v 0) [.tuple])) (.cons (.cmp .ne (.isa (.v 1) [.list]) (.isa (.v 0) [.list])) .nil))) (.cons (.ret (.k (.bl false))) .nil) .nil) (.cons (.iff (.cmp .ne (.b1 .len (.v 0)) (.b1 .len (.v 1))) (.cons (.ret (.k (.bl false))) .nil) .nil) (.cons (.for (.t [(.n 2), (.n 3)]) (.zip (.cons (.v 0) (.cons (.v 1) .nil))) (.cons (.iff (.not (.call 57 (.cons (.v 2) (.cons (.v 3) .nil)))) (.cons (.ret (.k (.bl false))) .nil) .nil) .nil)) (.cons (.ret (.k (.bl true))) .nil)))))))))⟩
def f__law_script : Fn := ⟨2, 4, (.cons (.set 2 (.lst .nil) true) (.cons (.for (.n 3) (.rng (.cons (.call 54 (.cons (.v 0) (.cons (.bin .add (.v 1) (.k (.int 1))) .nil))) .nil)) (.cons (.iff (.cmp .eq (.call 54 (.cons (.v 0) (.cons (.k (.int 2)) .nil))) (.k (.int 0))) (.cons (.app 2 (.cons (.tup (.cons (.k (.str s4_see)) .nil)) .nil)) .nil) (.cons (.app 2 (.cons (.tup (.cons (.k (.str s5_put)) (.cons (.call 55 (.cons (.v 0) (.cons (.lst (.cons (.k (.int 0)) (.cons (.k (.int 1)) (.cons (.k (.int 2)) (.cons (.k (.int 7)) (.cons (.k (.int 999)) (.cons (.call 54 (.cons (.v 0) (.cons (.k (.int 1000)) .nil))) .nil))))))) .nil))) .nil))) .nil)) .nil)) .nil)) (.cons (.ret (.b1 .tuple (.v 2))) .nil)))⟩
def f__law_manner : Fn := ⟨1, 4, (.cons (.set 1 (.call 55 (.cons (.v 0) (.cons (.lst (.cons (.k (.int 1)) (.cons (.k (.int 2)) (.cons (.k (.int 2)) (.cons (.k (.int 3)) (.cons (.k (.int 3)) (.cons (.k (.int 4)) (.cons (.k (.int 5)) .nil)))))))) .nil))) false) (.cons (.set 2 (.call 55 (.cons (.v 0) (.cons (.lst (.cons (.k (.int 1)) (.cons (.k (.int 2)) (.cons (.k (.int 3)) (.cons (.k (.int 6)) .nil))))) .nil))) false) (.cons (.ret (.tup (.cons (.call 55 (.cons (.v 0) (.cons (.lst (.cons (.k (.str s8_sweep)) (.cons (.k (.str s7_twice)) (.cons (.k (.str s6_borrow)) (.cons (.k (.str s6_borrow)) .nil))))) .nil))) (.cons (.b1 .tuple (.lc (.call 58 (.cons (.v 0) (.cons (.v 2) .nil))) (.n 3) (.rng (.cons (.v 1) .nil)) .no [3])) .nil)))) .nil)))⟩
def f__law_first : Fn := ⟨1, 3, (.cons (.set 1 (.b1 .tuple (.lc (.idx (.lst (.cons (.k .non) (.cons (.tup (.cons (.k (.int 0)) (.cons (.k .non) (.cons (.k .non) (.cons (.tup .nil) (.cons (.k .non) .nil)))))) .nil))) (.b1 .int (.cmp .gt (.b1 .len (.v 2)) (.k (.int 0))))) (.n 2) (.x (.v 0)) .no [2])) false) (.cons (.ret (.tup (.cons (.bin .mul (.tup (.cons (.tup (.cons (.k (.int 0)) (.cons (.k (.int 0)) (.cons (.k .non) .nil)))) .nil)) (.b1 .len (.v 0))) (.cons (.v 1) (.cons (.bin .mul (.tup (.cons (.tup .nil) .nil)) (.b1 .len (.v 0))) .nil))))) .nil))⟩
def f__law_put_at : Fn := ⟨3, 3, (.cons (.ret (.bin .add (.bin .add (.sli (.v 0) .no (.so (.v 1))) (.tup (.cons (.v 2) .nil))) (.sli (.v 0) (.so (.bin .add (.v 1) (.k (.int 1)))) .no))) .nil)⟩
def f__law_is_put : Fn := ⟨4, 9, (.cons (.setG (.t [(.n 4), (.n 5), (.n 6), (.n 7), (.n 8)]) (.idx (.idx (.v 2) (.k (.int 1))) (.v 3))) (.cons (.ret (.and (.cons (.cmp .eq (.idx (.idx (.idx (.v 1) (.v 3)) (.v 4)) (.k (.int 0))) (.k (.str s5_put))) (.cons (.or (.cons (.cmp .ne (.v 0) (.k (.str s6_borrow))) (.cons (.cmp .nis (.v 8) (.k .non)) .nil))) .nil)))) .nil))⟩
def f__law_next : Fn := ⟨4, 4, (.cons (.iff (.call 62 (.cons (.v 0) (.cons (.v 1) (.cons (.v 2) (.cons (.v 3) .nil))))) (.cons (.ret (.tup (.cons (.k (.str s5_put)) .nil))) .nil) .nil) (.cons (.ret (.tup (.cons (.k (.str s9_look)) (.cons (.b1 .len (.idx (.idx (.idx (.v 2) (.k (.int 1))) (.v 3)) (.k (.int 3)))) .nil)))) .nil))⟩
def f__law_behind : Fn := ⟨3, 3, (.cons (.iff (.cmp .eq (.bin .add (.v 2) (.k (.int 1))) (.b1 .len (.idx (.v 0) (.v 1)))) (.cons (.ret (.k .non)) .nil) .nil) (.cons (.ret (.tup (.cons (.bin .add (.v 2) (.k (.int 1))) (.cons (.k .non) (.cons (.k .non) (.cons (.tup .nil) (.cons (.k .non) .nil))))))) .nil))⟩
def f__law_seen : Fn := ⟨4, 8, (.cons (.set 4 (.b1 .tuple (.lc (.idx (.v 6) (.k (.int 0))) (.n 6) (.x (.v 3)) .no [6])) false) (.cons (.iff (.or (.cons (.cmp .eq (.v 0) (.k (.str s8_sweep))) (.cons (.and (.cons (.cmp .nis (.v 2) (.k .non)) (.cons (.cmp .eq (.v 2) (.v 4)) .nil))) .nil))) (.cons (.ret (.b1 .tuple (.lc (.sli (.v 6) .no (.so (.k (.int 2)))) (.n 6) (.x (.v 3)) .no [6]))) .nil) .nil) (.cons (.iff (.and (.cons (.cmp .eq (.v 0) (.k (.str s6_borrow))) (.cons (.cmp .nis (.v 1) (.k .non)) .nil))) (.cons (.set 5 (.lc (.v 7) (.n 7) (.rng (.cons (.b1 .len (.v 3)) .nil)) (.so (.cmp .gt (.idx (.v 4) (.v 7)) (.bin .add (.idx (.v 1) (.v 7)) (.k (.int 1))))) [7]) false) (.cons (.iff (.cmp .gt (.b1 .len (.v 5)) (.k (.int 0))) (.cons (.ret (.idx (.idx (.v 3) (.idx (.v 5) (.k (.int 0)))) (.k (.int 2)))) .nil) .nil) .nil)) .nil) (.cons (.ret (.k .non)) .nil))))⟩
def f__law_stepped : Fn := ⟨4, 16, (.cons (.setG (.t [(.n 8), (.n 9), (.n 7)]) (.v 2)) (.cons (.setG (.t [(.n 10), (.n 11), (.n 12), (.n 5), (.n 13)]) (.idx (.v 9) (.v 3))) (.cons (.set 4 (.idx (.idx (.v 1) (.v 3)) (.v 10)) false) (.cons (.iff (.call 62 (.cons (.v 0) (.cons (.v 1) (.cons (.v 2) (.cons (.v 3) .nil))))) (.cons (.set 8 (.call 61 (.cons (.v 8) (.cons (.v 3) (.cons (.tup (.cons (.bin .add (.idx (.idx (.v 8) (.v 3)) (.k (.int 0))) (.k (.int 1))) (.cons (.idx (.v 4) (.k (.int 1))) (.cons (.v 13) .nil)))) .nil)))) false) (.cons (.ret (.tup (.cons (.v 8) (.cons (.call 61 (.cons (.v 9) (.cons (.v 3) (.cons (.call 64 (.cons (.v 1) (.cons (.v 3) (.cons (.v 10) .nil)))) .nil)))) (.cons (.v 7) .nil))))) .nil)) .nil) (.cons (.set 5 (.bin .add (.v 5) (.tup (.cons (.idx (.v 8) (.b1 .len (.v 5))) .nil))) false) (.cons (.iff (.cmp .lt (.b1 .len (.v 5)) (.b1 .len (.v 8))) (.cons (.ret (.tup (.cons (.v 8) (.cons (.call 61 (.cons (.v 9) (.cons (.v 3) (.cons (.tup (.cons (.v 10) (.cons (.v 11) (.cons (.v 12) (.cons (.v 5) (.cons (.v 13) .nil)))))) .nil)))) (.cons (.v 7) .nil))))) .nil) .nil) (.cons (.set 6 (.call 65 (.cons (.v 0) (.cons (.v 11) (.cons (.v 12) (.cons (.v 5) .nil))))) false) (.cons (.iff (.cmp .is (.v 6) (.k .non)) (.cons (.set 14 (.b1 .tuple (.lc (.idx (.v 15) (.k (.int 0))) (.n 15) (.x (.v 5)) .no [15])) false) (.cons (.iff (.cmp .is (.v 11) (.k .non)) (.cons (.set 11 (.v 14) false) .nil) .nil) (.cons (.ret (.tup (.cons (.v 8) (.cons (.call 61 (.cons (.v 9) (.cons (.v 3) (.cons (.tup (.cons (.v 10) (.cons (.v 11) (.cons (.v 14) (.cons (.tup .nil) (.cons (.k .non) .nil)))))) .nil)))) (.cons (.v 7) .nil))))) .nil))) .nil) (.cons (.iff (.cmp .eq (.idx (.v 4) (.k (.int 0))) (.k (.str s5_put))) (.cons (.ret (.tup (.cons (.v 8) (.cons (.call 61 (.cons (.v 9) (.cons (.v 3) (.cons (.tup (.cons (.v 10) (.cons (.k .non) (.cons (.k .non) (.cons (.tup .nil) (.cons (.v 6) .nil)))))) .nil)))) (.cons (.v 7) .nil))))) .nil) .nil) (.cons (.set 7 (.call 61 (.cons (.v 7) (.cons (.v 3) (.cons (.bin .add (.idx (.v 7) (.v 3)) (.tup (.cons (.v 6) .nil))) .nil)))) false) (.cons (.ret (.tup (.cons (.v 8) (.cons (.call 61 (.cons (.v 9) (.cons (.v 3) (.cons (.call 64 (.cons (.v 1) (.cons (.v 3) (.cons (.v 10) .nil)))) .nil)))) (.cons (.v 7) .nil))))) .nil)))))))))))⟩
def f__law_chosen : Fn := ⟨4, 6, (.cons (.iff (.and (.cons (.cmp .eq (.v 3) (.k (.int 0))) (.cons (.cmp .isin (.v 2) (.v 1)) (.cons (.cmp .gt (.call 54 (.cons (.v 0) (.cons (.k (.int 6)) .nil))) (.k (.int 0))) .nil)))) (.cons (.ret (.v 2)) .nil) .nil) (.cons (.iff (.cmp .eq (.v 3) (.k (.int 1))) (.cons (.set 4 (.bin .add (.lc (.v 5) (.n 5) (.x (.v 1)) (.so (.cmp .gt (.v 5) (.v 2))) [5]) (.v 1)) false) (.cons (.ret (.idx (.v 4) (.k (.int 0)))) .nil)) .nil) (.cons (.ret (.call 55 (.cons (.v 0) (.cons (.v 1) .nil)))) .nil)))⟩
def f_law : Fn := ⟨1, 15, (.cons (.set 1 (.call 53 (.cons (.v 0) .nil)) false) (.cons (.setG (.t [(.n 8), (.n 9)]) (.call 59 (.cons (.v 1) .nil))) (.cons (.set 2 (.mk 0 (.cons (.v 8) (.cons (.v 9) .nil))) false) (.cons (.set 3 (.call 60 (.cons (.v 9) .nil)) false) (.cons (.iff (.not (.call 57 (.cons (.call 46 (.cons (.v 2) .nil)) (.cons (.v 3) .nil)))) (.cons (.ret (.k (.bl false))) .nil) .nil) (.cons (.set 4 (.call 54 (.cons (.v 1) (.cons (.k (.int 3)) .nil))) false) (.cons (.set 5 (.lc (.v 12) (.n 12) (.rng (.cons (.b1 .len (.v 9)) .nil)) (.so (.cmp .eq (.call 54 (.cons (.v 1) (.cons (.k (.int 6)) .nil))) (.k (.int 0)))) [12]) false) (.cons (.set 6 (.neg (.k (.int 1))) false) (.cons (.for (.n 7) (.rng (.cons (.call 55 (.cons (.v 1) (.cons (.lst (.cons (.k (.int 10)) (.cons (.k (.int 40)) (.cons (.k (.int 160)) .nil)))) .nil))) .nil)) (.cons (.set 10 (.lc (.v 12) (.n 12) (.rng (.cons (.b1 .len (.v 9)) .nil)) (.so (.cmp .nis (.idx (.idx (.v 3) (.k (.int 1))) (.v 12)) (.k .non))) [12]) false) (.cons (.iff (.not (.call 57 (.cons (.call 48 (.cons (.v 2) (.cons (.v 3) .nil))) (.cons (.b1 .tuple (.v 10)) .nil)))) (.cons (.ret (.k (.bl false))) .nil) .nil) (.cons (.set 11 (.lc (.v 12) (.n 12) (.x (.v 10)) (.so (.cmp .nin (.v 12) (.v 5))) [12]) false) (.cons (.iff (.cmp .eq (.b1 .len (.v 11)) (.k (.int 0))) (.cons .brk .nil) .nil) (.cons (.set 6 (.call 67 (.cons (.v 1) (.cons (.v 11) (.cons (.v 6) (.cons (.v 4) .nil))))) false) (.cons (.for (.n 12) (.x (.v 10)) (.cons (.iff (.not (.call 57 (.cons (.call 52 (.cons (.v 2) (.cons (.v 3) (.cons (.v 12) .nil)))) (.cons (.call 63 (.cons (.v 8) (.cons (.v 9) (.cons (.v 3) (.cons (.v 12) .nil))))) .nil)))) (.cons (.ret (.k (.bl false))) .nil) .nil) .nil)) (.cons (.set 13 (.call 66 (.cons (.v 8) (.cons (.v 9) (.cons (.v 3) (.cons (.v 6) .nil))))) false) (.cons (.set 14 (.rep (.v 3)) false) (.cons (.iff (.or (.cons (.not (.call 57 (.cons (.call 51 (.cons (.v 2) (.cons (.v 3) (.cons (.v 6) .nil)))) (.cons (.v 13) .nil)))) (.cons (.cmp .ne (.rep (.v 3)) (.v 14)) .nil))) (.cons (.ret (.k (.bl false))) .nil) .nil) (.cons (.set 3 (.v 13) false) .nil))))))))))) (.cons (.ret (.call 57 (.cons (.tup (.cons (.fld (.v 2) s3_kind) (.cons (.fld (.v 2) s2_inputs) .nil))) (.cons (.tup (.cons (.v 8) (.cons (.v 9) .nil))) .nil)))) .nil))))))))))⟩
def fns : List Fn := [f_BadPlay_init, f_is_integer, f_is_within, f_is_below, f_is_sized, f_is_pair, f_replaced, f_is_deed, f_is_script, f_is_value, f_is_near_value, f_is_lot, f_is_row_of, f_are_inputs, f_Play_init, f_Play_eq, f_is_hand, f_check_hand, f_level_cell, f_level_state, f_level_next, f_level_after, f_fresh, f_manner_cell, f_manner_state, f_is_put_next, f_manner_next, f_numbers_of, f_picture_of, f_lent, f_result_of, f_after_sweep, f_manner_after, f_top_cell, f_top_state, f_top_next, f_wish_by, f_after_names, f_after_near, f_after_chain, f_top_after, f_cell_of, f_state_of, f_next_of, f_after_of, f_begun, f_first_standing, f_movers, f_can_step, f_after_step, f_check_step, f_step, f_next_step, f__law_hand, f__law_take, f__law_pick, f__law_is_integer, f__law_same, f__law_script, f__law_manner, f__law_first, f__law_put_at, f__law_is_put, f__law_next, f__law_behind, f__law_seen, f__law_stepped, f__law_chosen, f_law]
def gs : List D := [(.str s4_see), (.str s5_put), (.int 1000), (.int 6), (.int 20), (.int 5), (.tup [(.str s8_sweep), (.str s7_twice), (.str s6_borrow)]), (.fn 8), (.str s10_levels), (.fn 9), (.str s11_names), (.str s12_chain), (.fn 11), (.int 6), (.fn 10), (.str s13_near), (.str s9_look), (.tup [(.int 0), (.int 0), .non]), (.str s6_borrow), (.str s9_look), (.str s8_sweep)]
def cls : List Cl := [⟨14, true, some 15⟩]
def prg : Prog := ⟨fns, 1, fun c => cls[c]?, gs, [((1, 1), true), ((1, 2), false), ((1, 3), false), ((1, 4), false), ((2, 1), true), ((2, 2), true), ((2, 3), false), ((2, 4), false), ((3, 1), true), ((3, 2), false), ((3, 3), true), ((3, 4), false), ((4, 1), true), ((4, 2), false), ((4, 3), false), ((4, 4), true)], [(1, none), (2, some (0, (Str.ofString "part"))), (3, none), (4, none)], 100000, some 68⟩
end K02

set_option maxRecDepth 100000
set_option maxHeartbeats 0
namespace K02
open PySem PySem.Spec PyProof.Rows L2 Ev
def body : Nat → Stmt := fun i => (PySem.Challenge.pw_onepicture_k02_whole_manners_step_by_ste).main.body.getD i (.Pass ⟨0, 0, 0, 0⟩)
def meth (c i : Nat) : Stmt := match body c with | .ClassDef _ _ _ b _ _ _ _ _ _ _ => b.getD i (.Pass ⟨0, 0, 0, 0⟩) | s => s
def fn : List He.DefD := [
  defOf ((Str.ofString "BadPlay"), some (Str.ofString "__init__")) (Str.ofString "BadPlay.__init__") (meth 2 0),
  defOf ((Str.ofString "is_integer"), none) (Str.ofString "is_integer") (body 6),
  defOf ((Str.ofString "is_within"), none) (Str.ofString "is_within") (body 7),
  defOf ((Str.ofString "is_below"), none) (Str.ofString "is_below") (body 8),
  defOf ((Str.ofString "is_sized"), none) (Str.ofString "is_sized") (body 9),
  defOf ((Str.ofString "is_pair"), none) (Str.ofString "is_pair") (body 10),
  defOf ((Str.ofString "replaced"), none) (Str.ofString "replaced") (body 11),
  defOf ((Str.ofString "is_deed"), none) (Str.ofString "is_deed") (body 28),
  defOf ((Str.ofString "is_script"), none) (Str.ofString "is_script") (body 29),
  defOf ((Str.ofString "is_value"), none) (Str.ofString "is_value") (body 30),
  defOf ((Str.ofString "is_near_value"), none) (Str.ofString "is_near_value") (body 31),
  defOf ((Str.ofString "is_lot"), none) (Str.ofString "is_lot") (body 32),
  defOf ((Str.ofString "is_row_of"), none) (Str.ofString "is_row_of") (body 33),
  defOf ((Str.ofString "are_inputs"), none) (Str.ofString "are_inputs") (body 34),
  defOf ((Str.ofString "Play"), some (Str.ofString "__init__")) (Str.ofString "Play.__init__") (meth 35 0),
  defOf ((Str.ofString "Play"), some (Str.ofString "__eq__")) (Str.ofString "Play.__eq__") (meth 35 1),
  defOf ((Str.ofString "is_hand"), none) (Str.ofString "is_hand") (body 36),
  defOf ((Str.ofString "check_hand"), none) (Str.ofString "check_hand") (body 37),
  defOf ((Str.ofString "level_cell"), none) (Str.ofString "level_cell") (body 40),
  defOf ((Str.ofString "level_state"), none) (Str.ofString "level_state") (body 41),
  defOf ((Str.ofString "level_next"), none) (Str.ofString "level_next") (body 42),
  defOf ((Str.ofString "level_after"), none) (Str.ofString "level_after") (body 43),
  defOf ((Str.ofString "fresh"), none) (Str.ofString "fresh") (body 47),
  defOf ((Str.ofString "manner_cell"), none) (Str.ofString "manner_cell") (body 48),
  defOf ((Str.ofString "manner_state"), none) (Str.ofString "manner_state") (body 49),
  defOf ((Str.ofString "is_put_next"), none) (Str.ofString "is_put_next") (body 50),
  defOf ((Str.ofString "manner_next"), none) (Str.ofString "manner_next") (body 51),
  defOf ((Str.ofString "numbers_of"), none) (Str.ofString "numbers_of") (body 52),
  defOf ((Str.ofString "picture_of"), none) (Str.ofString "picture_of") (body 53),
  defOf ((Str.ofString "lent"), none) (Str.ofString "lent") (body 54),
  defOf ((Str.ofString "result_of"), none) (Str.ofString "result_of") (body 55),
  defOf ((Str.ofString "after_sweep"), none) (Str.ofString "after_sweep") (body 56),
  defOf ((Str.ofString "manner_after"), none) (Str.ofString "manner_after") (body 57),
  defOf ((Str.ofString "top_cell"), none) (Str.ofString "top_cell") (body 59),
  defOf ((Str.ofString "top_state"), none) (Str.ofString "top_state") (body 60),
  defOf ((Str.ofString "top_next"), none) (Str.ofString "top_next") (body 61),
  defOf ((Str.ofString "wish_by"), none) (Str.ofString "wish_by") (body 62),
  defOf ((Str.ofString "after_names"), none) (Str.ofString "after_names") (body 63),
  defOf ((Str.ofString "after_near"), none) (Str.ofString "after_near") (body 64),
  defOf ((Str.ofString "after_chain"), none) (Str.ofString "after_chain") (body 65),
  defOf ((Str.ofString "top_after"), none) (Str.ofString "top_after") (body 66),
  defOf ((Str.ofString "cell_of"), none) (Str.ofString "cell_of") (body 68),
  defOf ((Str.ofString "state_of"), none) (Str.ofString "state_of") (body 69),
  defOf ((Str.ofString "next_of"), none) (Str.ofString "next_of") (body 70),
  defOf ((Str.ofString "after_of"), none) (Str.ofString "after_of") (body 71),
  defOf ((Str.ofString "begun"), none) (Str.ofString "begun") (body 72),
  defOf ((Str.ofString "first_standing"), none) (Str.ofString "first_standing") (body 73),
  defOf ((Str.ofString "movers"), none) (Str.ofString "movers") (body 74),
  defOf ((Str.ofString "can_step"), none) (Str.ofString "can_step") (body 75),
  defOf ((Str.ofString "after_step"), none) (Str.ofString "after_step") (body 76),
  defOf ((Str.ofString "check_step"), none) (Str.ofString "check_step") (body 77),
  defOf ((Str.ofString "step"), none) (Str.ofString "step") (body 78),
  defOf ((Str.ofString "next_step"), none) (Str.ofString "next_step") (body 79),
  defOf ((Str.ofString "_law_hand"), none) (Str.ofString "_law_hand") (body 81),
  defOf ((Str.ofString "_law_take"), none) (Str.ofString "_law_take") (body 82),
  defOf ((Str.ofString "_law_pick"), none) (Str.ofString "_law_pick") (body 83),
  defOf ((Str.ofString "_law_is_integer"), none) (Str.ofString "_law_is_integer") (body 84),
  defOf ((Str.ofString "_law_same"), none) (Str.ofString "_law_same") (body 85),
  defOf ((Str.ofString "_law_script"), none) (Str.ofString "_law_script") (body 86),
  defOf ((Str.ofString "_law_manner"), none) (Str.ofString "_law_manner") (body 87),
  defOf ((Str.ofString "_law_first"), none) (Str.ofString "_law_first") (body 88),
  defOf ((Str.ofString "_law_put_at"), none) (Str.ofString "_law_put_at") (body 89),
  defOf ((Str.ofString "_law_is_put"), none) (Str.ofString "_law_is_put") (body 90),
  defOf ((Str.ofString "_law_next"), none) (Str.ofString "_law_next") (body 91),
  defOf ((Str.ofString "_law_behind"), none) (Str.ofString "_law_behind") (body 92),
  defOf ((Str.ofString "_law_seen"), none) (Str.ofString "_law_seen") (body 93),
  defOf ((Str.ofString "_law_stepped"), none) (Str.ofString "_law_stepped") (body 94),
  defOf ((Str.ofString "_law_chosen"), none) (Str.ofString "_law_chosen") (body 95),
  defOf ((Str.ofString "law"), none) (Str.ofString "law") (body 96)]
def names : List (List Str) := [
  [(Str.ofString "self"), (Str.ofString "part")],
  [(Str.ofString "thing")],
  [(Str.ofString "thing"), (Str.ofString "least"), (Str.ofString "most")],
  [(Str.ofString "thing"), (Str.ofString "many")],
  [(Str.ofString "thing"), (Str.ofString "least"), (Str.ofString "most")],
  [(Str.ofString "thing")],
  [(Str.ofString "items"), (Str.ofString "number"), (Str.ofString "item")],
  [(Str.ofString "thing")],
  [(Str.ofString "thing"), (Str.ofString "deed")],
  [(Str.ofString "thing")],
  [(Str.ofString "thing")],
  [(Str.ofString "thing"), (Str.ofString "one"), (Str.ofString "other"), (Str.ofString "item")],
  [(Str.ofString "is_one"), (Str.ofString "thing"), (Str.ofString "item")],
  [(Str.ofString "kind"), (Str.ofString "thing")],
  [(Str.ofString "self"), (Str.ofString "kind"), (Str.ofString "inputs")],
  [(Str.ofString "self"), (Str.ofString "other")],
  [(Str.ofString "play"), (Str.ofString "thing")],
  [(Str.ofString "play"), (Str.ofString "thing")],
  [(Str.ofString "play"), (Str.ofString "hand")],
  [(Str.ofString "play"), (Str.ofString "hand")],
  [(Str.ofString "play"), (Str.ofString "hand"), (Str.ofString "state")],
  [(Str.ofString "play"), (Str.ofString "hand"), (Str.ofString "cells"), (Str.ofString "state"), (Str.ofString "looked"), (Str.ofString "below"), (Str.ofString "level"), (Str.ofString "now"), (Str.ofString "other"), (Str.ofString "cell")],
  [(Str.ofString "play"), (Str.ofString "hand"), (Str.ofString "done")],
  [(Str.ofString "play"), (Str.ofString "hand")],
  [(Str.ofString "play"), (Str.ofString "hand")],
  [(Str.ofString "play"), (Str.ofString "hand"), (Str.ofString "state")],
  [(Str.ofString "play"), (Str.ofString "hand"), (Str.ofString "state")],
  [(Str.ofString "cells"), (Str.ofString "cell")],
  [(Str.ofString "cells"), (Str.ofString "cell")],
  [(Str.ofString "first"), (Str.ofString "cells"), (Str.ofString "number"), (Str.ofString "cell")],
  [(Str.ofString "kind"), (Str.ofString "first"), (Str.ofString "last"), (Str.ofString "cells")],
  [(Str.ofString "play"), (Str.ofString "hand"), (Str.ofString "state"), (Str.ofString "cells"), (Str.ofString "found"), (Str.ofString "done"), (Str.ofString "first"), (Str.ofString "last"), (Str.ofString "now"), (Str.ofString "ready"), (Str.ofString "numbers")],
  [(Str.ofString "play"), (Str.ofString "hand"), (Str.ofString "cells"), (Str.ofString "state"), (Str.ofString "looked"), (Str.ofString "done"), (Str.ofString "first"), (Str.ofString "last"), (Str.ofString "now"), (Str.ofString "ready"), (Str.ofString "cell")],
  [(Str.ofString "play"), (Str.ofString "hand")],
  [(Str.ofString "play"), (Str.ofString "hand")],
  [(Str.ofString "play"), (Str.ofString "hand"), (Str.ofString "state")],
  [(Str.ofString "cells"), (Str.ofString "hand"), (Str.ofString "rank"), (Str.ofString "wished"), (Str.ofString "free"), (Str.ofString "number"), (Str.ofString "cell"), (Str.ofString "other")],
  [(Str.ofString "play"), (Str.ofString "hand"), (Str.ofString "cells"), (Str.ofString "state"), (Str.ofString "others"), (Str.ofString "wish"), (Str.ofString "is_put"), (Str.ofString "other"), (Str.ofString "cell")],
  [(Str.ofString "play"), (Str.ofString "hand"), (Str.ofString "cells"), (Str.ofString "state"), (Str.ofString "tops"), (Str.ofString "later"), (Str.ofString "number"), (Str.ofString "top"), (Str.ofString "is_put"), (Str.ofString "cell")],
  [(Str.ofString "play"), (Str.ofString "hand"), (Str.ofString "cells"), (Str.ofString "state"), (Str.ofString "found"), (Str.ofString "cell"), (Str.ofString "item")],
  [(Str.ofString "play"), (Str.ofString "hand"), (Str.ofString "cells"), (Str.ofString "state")],
  [(Str.ofString "play"), (Str.ofString "hand")],
  [(Str.ofString "play"), (Str.ofString "hand")],
  [(Str.ofString "play"), (Str.ofString "hand"), (Str.ofString "state")],
  [(Str.ofString "play"), (Str.ofString "hand"), (Str.ofString "cells"), (Str.ofString "state")],
  [(Str.ofString "play"), (Str.ofString "hands"), (Str.ofString "cells"), (Str.ofString "hand")],
  [(Str.ofString "play")],
  [(Str.ofString "standing"), (Str.ofString "hand"), (Str.ofString "state")],
  [(Str.ofString "play"), (Str.ofString "standing")],
  [(Str.ofString "play"), (Str.ofString "standing"), (Str.ofString "hand"), (Str.ofString "cells"), (Str.ofString "states"), (Str.ofString "told"), (Str.ofString "cell"), (Str.ofString "state"), (Str.ofString "item")],
  [(Str.ofString "play"), (Str.ofString "standing"), (Str.ofString "hand")],
  [(Str.ofString "play"), (Str.ofString "standing"), (Str.ofString "hand")],
  [(Str.ofString "play"), (Str.ofString "standing"), (Str.ofString "hand")],
  [(Str.ofString "_law_script_here")],
  [(Str.ofString "_law_hand_here"), (Str.ofString "_law_many"), (Str.ofString "_law_number"), (Str.ofString "_law_cell"), (Str.ofString "_law_found")],
  [(Str.ofString "_law_hand_here"), (Str.ofString "_law_things")],
  [(Str.ofString "_law_thing")],
  [(Str.ofString "_law_actual"), (Str.ofString "_law_due"), (Str.ofString "_law_one"), (Str.ofString "_law_other")],
  [(Str.ofString "_law_hand_here"), (Str.ofString "_law_most"), (Str.ofString "_law_found"), (Str.ofString "_law_k")],
  [(Str.ofString "_law_hand_here"), (Str.ofString "_law_many"), (Str.ofString "_law_most"), (Str.ofString "_law_k")],
  [(Str.ofString "_law_scripts"), (Str.ofString "_law_states"), (Str.ofString "_law_script_here")],
  [(Str.ofString "_law_row"), (Str.ofString "_law_at"), (Str.ofString "_law_thing")],
  [(Str.ofString "_law_kind"), (Str.ofString "_law_scripts"), (Str.ofString "_law_standing"), (Str.ofString "_law_one"), (Str.ofString "_law_done"), (Str.ofString "_law_first_here"), (Str.ofString "_law_last"), (Str.ofString "_law_now"), (Str.ofString "_law_ready")],
  [(Str.ofString "_law_kind"), (Str.ofString "_law_scripts"), (Str.ofString "_law_standing"), (Str.ofString "_law_one")],
  [(Str.ofString "_law_scripts"), (Str.ofString "_law_one"), (Str.ofString "_law_done")],
  [(Str.ofString "_law_kind"), (Str.ofString "_law_first_here"), (Str.ofString "_law_last"), (Str.ofString "_law_now"), (Str.ofString "_law_numbers"), (Str.ofString "_law_lenders"), (Str.ofString "_law_cell"), (Str.ofString "_law_k")],
  [(Str.ofString "_law_kind"), (Str.ofString "_law_scripts"), (Str.ofString "_law_standing"), (Str.ofString "_law_one"), (Str.ofString "_law_deed"), (Str.ofString "_law_now"), (Str.ofString "_law_picture"), (Str.ofString "_law_told"), (Str.ofString "_law_cells"), (Str.ofString "_law_states"), (Str.ofString "_law_done"), (Str.ofString "_law_first_here"), (Str.ofString "_law_last"), (Str.ofString "_law_ready"), (Str.ofString "_law_numbers"), (Str.ofString "_law_cell")],
  [(Str.ofString "_law_hand_here"), (Str.ofString "_law_able"), (Str.ofString "_law_last"), (Str.ofString "_law_mode"), (Str.ofString "_law_later"), (Str.ofString "_law_one")],
  [(Str.ofString "_law_script_here"), (Str.ofString "_law_hand_here"), (Str.ofString "_law_play"), (Str.ofString "_law_standing"), (Str.ofString "_law_mode"), (Str.ofString "_law_stopped"), (Str.ofString "_law_last"), (Str.ofString "_law_k"), (Str.ofString "_law_kind"), (Str.ofString "_law_scripts"), (Str.ofString "_law_able"), (Str.ofString "_law_free"), (Str.ofString "_law_one"), (Str.ofString "_law_due"), (Str.ofString "_law_before")]]
def tabs : Tabs := ⟨[((Str.ofString "is_integer"), 1), ((Str.ofString "is_within"), 2), ((Str.ofString "is_below"), 3), ((Str.ofString "is_sized"), 4), ((Str.ofString "is_pair"), 5), ((Str.ofString "replaced"), 6), ((Str.ofString "is_deed"), 7), ((Str.ofString "is_script"), 8), ((Str.ofString "is_value"), 9), ((Str.ofString "is_near_value"), 10), ((Str.ofString "is_lot"), 11), ((Str.ofString "is_row_of"), 12), ((Str.ofString "are_inputs"), 13), ((Str.ofString "is_hand"), 16), ((Str.ofString "check_hand"), 17), ((Str.ofString "level_cell"), 18), ((Str.ofString "level_state"), 19), ((Str.ofString "level_next"), 20), ((Str.ofString "level_after"), 21), ((Str.ofString "fresh"), 22), ((Str.ofString "manner_cell"), 23), ((Str.ofString "manner_state"), 24), ((Str.ofString "is_put_next"), 25), ((Str.ofString "manner_next"), 26), ((Str.ofString "numbers_of"), 27), ((Str.ofString "picture_of"), 28), ((Str.ofString "lent"), 29), ((Str.ofString "result_of"), 30), ((Str.ofString "after_sweep"), 31), ((Str.ofString "manner_after"), 32), ((Str.ofString "top_cell"), 33), ((Str.ofString "top_state"), 34), ((Str.ofString "top_next"), 35), ((Str.ofString "wish_by"), 36), ((Str.ofString "after_names"), 37), ((Str.ofString "after_near"), 38), ((Str.ofString "after_chain"), 39), ((Str.ofString "top_after"), 40), ((Str.ofString "cell_of"), 41), ((Str.ofString "state_of"), 42), ((Str.ofString "next_of"), 43), ((Str.ofString "after_of"), 44), ((Str.ofString "begun"), 45), ((Str.ofString "first_standing"), 46), ((Str.ofString "movers"), 47), ((Str.ofString "can_step"), 48), ((Str.ofString "after_step"), 49), ((Str.ofString "check_step"), 50), ((Str.ofString "step"), 51), ((Str.ofString "next_step"), 52), ((Str.ofString "_law_hand"), 53), ((Str.ofString "_law_take"), 54), ((Str.ofString "_law_pick"), 55), ((Str.ofString "_law_is_integer"), 56), ((Str.ofString "_law_same"), 57), ((Str.ofString "_law_script"), 58), ((Str.ofString "_law_manner"), 59), ((Str.ofString "_law_first"), 60), ((Str.ofString "_law_put_at"), 61), ((Str.ofString "_law_is_put"), 62), ((Str.ofString "_law_next"), 63), ((Str.ofString "_law_behind"), 64), ((Str.ofString "_law_seen"), 65), ((Str.ofString "_law_stepped"), 66), ((Str.ofString "_law_chosen"), 67), ((Str.ofString "law"), 68)], [((Str.ofString "Play"), 0)], [((Str.ofString "SEE"), 0), ((Str.ofString "PUT"), 1), ((Str.ofString "MOST_VALUE"), 2), ((Str.ofString "MOST_DEEDS"), 3), ((Str.ofString "MOST_THING"), 4), ((Str.ofString "MOST_HANDS"), 5), ((Str.ofString "MANNERS"), 6), ((Str.ofString "is_script"), 7), ((Str.ofString "LEVELS"), 8), ((Str.ofString "is_value"), 9), ((Str.ofString "NAMES"), 10), ((Str.ofString "CHAIN"), 11), ((Str.ofString "is_lot"), 12), ((Str.ofString "MOST_ROUNDS"), 13), ((Str.ofString "is_near_value"), 14), ((Str.ofString "NEAR"), 15), ((Str.ofString "LOOK_levels"), 16), ((Str.ofString "FIRST_CELL"), 17), ((Str.ofString "BORROW"), 18), ((Str.ofString "LOOK_manners"), 19), ((Str.ofString "SWEEP"), 20)], [(Str.ofString "all"), (Str.ofString "bool"), (Str.ofString "enumerate"), (Str.ofString "int"), (Str.ofString "isinstance"), (Str.ofString "len"), (Str.ofString "list"), (Str.ofString "max"), (Str.ofString "min"), (Str.ofString "range"), (Str.ofString "repr"), (Str.ofString "set"), (Str.ofString "sorted"), (Str.ofString "str"), (Str.ofString "tuple"), (Str.ofString "zip")], [(Str.ofString "inputs"), (Str.ofString "kind"), (Str.ofString "part"), (Str.ofString "rows")], [((Str.ofString "PictureError"), (1, false)), ((Str.ofString "BadPlay"), (2, true)), ((Str.ofString "NoHand"), (3, false)), ((Str.ofString "NoStep"), (4, false))], some (Str.ofString "law")⟩
def dt : Dt := ⟨fn.map (·.at_), [(Str.ofString "Play"), (Str.ofString "PictureError"), (Str.ofString "BadPlay"), (Str.ofString "NoHand"), (Str.ofString "NoStep")], tabs⟩
end K02

set_option maxRecDepth 100000
set_option maxHeartbeats 0
namespace K02
open PySem PySem.Spec PySem.W PySem.Calls PyProof.Rows L2 Ev
abbrev R0 : PySem.W.OpenRow := PySem.W.OpenLaw.row PySem.Challenge.rw_onepicture_k02_whole_manners_step_by_ste
abbrev hk : PySem.W.Hook := hookM 4 dt prg fn
def ob (s : PySem.W.SharedT) : AlM := obsMG 4 dt prg fn (HandSHeadRun.getT s)
theorem ob_eq (s : PySem.W.SharedT) : ob s = hk.obs s.abs := obsMG_eq (HandSHeadRun.getT_eq s)
def ls0 : List Str := [(Str.ofString "PictureError"), (Str.ofString "BadPlay"), (Str.ofString "NoHand"), (Str.ofString "NoStep"), (Str.ofString "is_integer"), (Str.ofString "is_within"), (Str.ofString "is_below"), (Str.ofString "is_sized"), (Str.ofString "is_pair"), (Str.ofString "replaced"), (Str.ofString "MOST_HANDS"), (Str.ofString "MOST_DEEDS"), (Str.ofString "MOST_VALUE"), (Str.ofString "MOST_ROUNDS"), (Str.ofString "MOST_THING"), (Str.ofString "SWEEP"), (Str.ofString "TWICE"), (Str.ofString "BORROW"), (Str.ofString "LEVELS"), (Str.ofString "NAMES"), (Str.ofString "NEAR"), (Str.ofString "CHAIN"), (Str.ofString "MANNERS"), (Str.ofString "PUT"), (Str.ofString "SEE"), (Str.ofString "is_deed"), (Str.ofString "is_script"), (Str.ofString "is_value"), (Str.ofString "is_near_value"), (Str.ofString "is_lot")]
def ls1 : List Str := [(Str.ofString "is_row_of"), (Str.ofString "are_inputs"), (Str.ofString "Play"), (Str.ofString "is_hand"), (Str.ofString "check_hand"), (Str.ofString "LOOK_levels"), (Str.ofString "level_cell"), (Str.ofString "level_state"), (Str.ofString "level_next"), (Str.ofString "level_after"), (Str.ofString "LOOK_manners"), (Str.ofString "FIRST_CELL"), (Str.ofString "fresh"), (Str.ofString "manner_cell"), (Str.ofString "manner_state"), (Str.ofString "is_put_next"), (Str.ofString "manner_next"), (Str.ofString "numbers_of"), (Str.ofString "picture_of"), (Str.ofString "lent"), (Str.ofString "result_of"), (Str.ofString "after_sweep"), (Str.ofString "manner_after"), (Str.ofString "top_cell"), (Str.ofString "top_state"), (Str.ofString "top_next"), (Str.ofString "wish_by"), (Str.ofString "after_names"), (Str.ofString "after_near"), (Str.ofString "after_chain")]
def ls2 : List Str := [(Str.ofString "top_after"), (Str.ofString "cell_of"), (Str.ofString "state_of"), (Str.ofString "next_of"), (Str.ofString "after_of"), (Str.ofString "begun"), (Str.ofString "first_standing"), (Str.ofString "movers"), (Str.ofString "can_step"), (Str.ofString "after_step"), (Str.ofString "check_step"), (Str.ofString "step"), (Str.ofString "next_step"), (Str.ofString "_law_hand"), (Str.ofString "_law_take"), (Str.ofString "_law_pick"), (Str.ofString "_law_is_integer"), (Str.ofString "_law_same"), (Str.ofString "_law_script"), (Str.ofString "_law_manner"), (Str.ofString "_law_first"), (Str.ofString "_law_put_at"), (Str.ofString "_law_is_put"), (Str.ofString "_law_next"), (Str.ofString "_law_behind"), (Str.ofString "_law_seen"), (Str.ofString "_law_stepped"), (Str.ofString "_law_chosen")]
def loose : List Str := ls0 ++ (ls1 ++ (ls2))
def qv : Program := PySem.W.view R0.prog [96]
noncomputable def st (w : World) (os : OsState) : Option PySem.W.SharedT := HandSHeadRun.endF (HandSHeadRun.stepQ (HandSHeadRun.denQ HandSHeadRun.tabQ) R0.prog w) 6000 R0.prog w os
theorem r1 (w : World) (os : OsState) : (st w os).map (fun s => (HandSHeadRun.looksF R0.prog (boot_heap w.params) s.abs, HandSHeadRun.seenQ qv loose (importedModules R0.prog.main.body) (fun s => xlAt qv [] s && recOk R0.toRowW.records s) s.abs)) = some (true, openGood qv loose) := by kernel_rfl
def fr (s : PySem.W.SharedT) : PySem.W.Frag := He.frG (HandSHeadRun.getT s) (asX (HandSHeadRun.getT s))
def fb (K : PySem.W.Frag) (p : Str × Nat) : Bool := (He.Fa.glo p.1).ok K && decide (dt.at_[p.2]? = some (p.1, none))
theorem rf (w : World) (os : OsState) : (st w os).map (fun s => (dt.T.clT.all fun p => (He.Fa.glo p.1).ok (fr s) && decide (dt.cls[p.2]? = some p.1) && decide (p.2 < prg.nc)) && ((List.range prg.nc).all fun c => clsB dt prg (fr s) c) && (dt.T.glT.all fun p => glB dt prg (fr s) p) && (dt.T.bl.all fun x => (He.Fa.free x).ok (fr s)) && (dt.T.exT.all fun p => exB dt prg (fr s) p) && (prg.xc.all fun p => exC dt prg (fr s) p) && (prg.sub.all fun p => subB dt (fr s) p)) = some true := by kernel_rfl
theorem rs0 (w : World) (os : OsState) : (st w os).map (fun s => (((dt.T.fnT.drop 0).take 80).all (fb (fr s)) && ((fn.drop 0).take 80).all fun d => d.ok (fr s), ((fn.drop 0).take 80).map fun d => He.fnW (fr s) d.at_)) = some (true, ((fn.drop 0).take 80).map He.DefD.val) := by kernel_rfl
theorem cut_fn {α : Type} (l : List α) (a b : Nat) : l.drop a = (l.drop a).take b ++ l.drop (a + b) := by rw [← List.drop_drop, List.take_append_drop]
theorem run (w : World) : HandSHeadRun.RunEq R0 (PySem.W.view R0.prog [96]) hk ob 6000 loose w := by
  intro os
  obtain ⟨s, hs, e1⟩ := Option.map_eq_some_iff.mp (r1 w os)
  have ef := rf w os
  have q0 := rs0 w os
  rw [hs] at ef q0
  show (st w os).map _ = _
  rw [hs]
  have ef0 := Option.some.inj ef
  have u1 : (dt.T.fnT.drop 80).all (fb (fr s)) = true ∧ ((fn.drop 80).all fun d => d.ok (fr s)) = true ∧ ((fn.drop 80).map fun d => He.fnW (fr s) d.at_) = (fn.drop 80).map He.DefD.val := by
    have z : (fn.drop 80).length = 0 := by decide +kernel
    have z := List.length_eq_zero_iff.mp z
    have z2 : dt.T.fnT.drop 80 = [] := by decide +kernel
    rw [z, z2]
    exact ⟨rfl, rfl, rfl⟩
  have u0 : (dt.T.fnT.drop 0).all (fb (fr s)) = true ∧ ((fn.drop 0).all fun d => d.ok (fr s)) = true ∧ ((fn.drop 0).map fun d => He.fnW (fr s) d.at_) = (fn.drop 0).map He.DefD.val := by
    have a0 : (((dt.T.fnT.drop 0).take 80).all (fb (fr s)) && ((fn.drop 0).take 80).all fun d => d.ok (fr s)) = true := congrArg Prod.fst (Option.some.inj q0)
    obtain ⟨a1, a⟩ := (Bool.and_eq_true_iff).mp a0
    have b : (((fn.drop 0).take 80).map fun d => He.fnW (fr s) d.at_) = ((fn.drop 0).take 80).map He.DefD.val := congrArg Prod.snd (Option.some.inj q0)
    rw [cut_fn fn 0 80, cut_fn dt.T.fnT 0 80, List.all_append, List.all_append, List.map_append, List.map_append, a, a1, b]
    exact ⟨by rw [u1.1]; rfl, by rw [u1.2.1]; rfl, by rw [u1.2.2]⟩
  have el : decide (dt.at_.length = prg.fns.length) = true := by decide +kernel
  have ef' : factsB dt prg (fr s) = true := by
    simp only [Bool.and_eq_true] at ef0
    have v : (dt.T.fnT.all fun p => (He.Fa.glo p.1).ok (fr s) && decide (dt.at_[p.2]? = some (p.1, none))) = true := u0.1
    unfold factsB
    rw [el, v, ef0.1.1.1.1.1.1, ef0.1.1.1.1.1.2, ef0.1.1.1.1.2, ef0.1.1.1.2, ef0.1.1.2, ef0.1.2, ef0.2]
    rfl
  have e4 : ob s = valM fn := Prod.ext (by show (factsB dt prg (fr s) && fn.all fun d => d.ok (fr s)) = true; rw [ef']; exact u0.2.1) u0.2.2
  have f1 : HandSHeadRun.looksF R0.prog (boot_heap w.params) s.abs = true := congrArg Prod.fst e1
  have f2 : HandSHeadRun.seenQ qv loose (importedModules R0.prog.main.body) (fun s => xlAt qv [] s && recOk R0.toRowW.records s) s.abs = openGood qv loose := congrArg Prod.snd e1
  show some (HandSHeadRun.looksF R0.prog (boot_heap w.params) s.abs, HandSHeadRun.seenQ qv loose (importedModules R0.prog.main.body) (fun s => xlAt qv [] s && recOk R0.toRowW.records s) s.abs, ob s) = some (true, openGood qv loose, valM fn)
  rw [f1, f2, e4]
end K02

set_option maxRecDepth 100000
set_option maxHeartbeats 4000000
/-! What the terms give. -/
namespace Ev
open PySem
noncomputable section

def mulOk (i j : Int) : Prop := (-(2 ^ 64) < i ∧ i < 2 ^ 64) ∨ (-(2 ^ 64) < j ∧ j < 2 ^ 64)
instance (i j : Int) : Decidable (mulOk i j) := by unfold mulOk; infer_instance
def grd (p : Prop) [Decidable p] (m : M D) : M D := @ite _ p (Classical.propDecidable p) m stk
theorem grd_t {p : Prop} [Decidable p] {m : M D} (h : p) : grd p m = m := by
  unfold grd
  rw [if_pos h]
theorem grd_if {p : Prop} [Decidable p] {m : M D} : grd p m = if p then m else stk := by
  unfold grd
  by_cases h : p
  · rw [if_pos h, if_pos h]
  · rw [if_neg h, if_neg h]
def binop : Bo → D → D → M D
  | .add, .int i, .int j => pure (.int (i + j))
  | .add, .str x, .str y => grd (x.length + y.length ≤ SZ) (pure (.str (x ++ y)))
  | .add, .tup x, .tup y => grd (x.length + y.length ≤ SZ) (pure (.tup (x ++ y)))
  | .add, .lst x, .lst y => grd (x.length + y.length ≤ SZ) (pure (.lst (x ++ y)))
  | .sub, .int i, .int j => pure (.int (i - j))
  | .mul, .int i, .int j => grd (mulOk i j) (pure (.int (i * j)))
  | .mul, .tup x, .int k => grd (x ≠ [] ∧ 1 ≤ k ∧ k ≤ 1000 ∧ x.length ≤ 1000) (pure (.tup (List.replicate k.toNat x).flatten))
  | .mul, .lst x, .int k => grd (-(2 ^ 63) ≤ k ∧ k < 2 ^ 63 ∧ x.length * k.toNat ≤ SZ) (pure (.lst (List.replicate k.toNat x).flatten))
  | .fdv, .int i, .int j => grd (0 < j ∧ j < 1073741824) (pure (.int (i / j)))
  | .mod, .int i, .int j => grd (0 < j) (pure (.int (i % j)))
  | .pow, .int i, .int j => grd (0 ≤ j ∧ j ≤ 1000000 ∧ i.natAbs < 2 ^ 64) (pure (.int (i ^ j.toNat)))
  | _, _, _ => stk
/-- a in the items of b -/
def hasD (a : D) (xs : List D) : Bool := xs.any fun z => D.eqv z a
def shapes (a : D) (xs : List D) : Bool := a.shp && decide (a.dep ≤ 60) && D.shpAll xs && decide (D.depAll xs ≤ 60)
def flatD : D → Bool
  | .non => true | .bl _ => true | .int _ => true | .str _ => true | _ => false
def isKey : D → Bool
  | .int _ => true | .str _ => true | _ => false
def keyEq : D → D → Bool
  | .int i, .int j => decide (i = j)
  | .str x, .str y => decide (x = y)
  | _, _ => false
def dfind (kvs : List (D × D)) (k : D) : Option D := (kvs.find? fun p => keyEq p.1 k).map (·.2)
def dput (kvs : List (D × D)) (k v : D) : List (D × D) := if kvs.any (fun p => keyEq p.1 k) then kvs.map (fun p => if keyEq p.1 k then (p.1, v) else p) else kvs ++ [(k, v)]
def isNon : D → Bool
  | .non => true | _ => false
/-- this flag -/
def isBl : D → Bool → Bool
  | .bl a, b => a == b
  | _, _ => false
def cmpop : Co → D → D → M D
  | .eq, a, b => if shape2 a b then pure (.bl (D.eqv a b)) else stk
  | .ne, a, b => if shape2 a b then pure (.bl (!D.eqv a b)) else stk
  | .lt, .int i, .int j => pure (.bl (decide (i < j)))
  | .le, .int i, .int j => pure (.bl (decide (i ≤ j)))
  | .gt, .int i, .int j => pure (.bl (decide (j < i)))
  | .ge, .int i, .int j => pure (.bl (decide (j ≤ i)))
  | .is, a, .non => pure (.bl (isNon a))
  | .nis, a, .non => pure (.bl (!isNon a))
  | .is, a, .bl b => pure (.bl (isBl a b))
  | .nis, a, .bl b => pure (.bl (!isBl a b))
  | .isin, a, .tup xs => if flatD a && xs.all flatD then pure (.bl (hasD a xs)) else stk
  | .nin, a, .tup xs => if flatD a && xs.all flatD then pure (.bl (!hasD a xs)) else stk
  | .isin, a, .lst xs => if shapes a xs then pure (.bl (hasD a xs)) else stk
  | .nin, a, .lst xs => if shapes a xs then pure (.bl (!hasD a xs)) else stk
  | .isin, a, .dic kvs => if isKey a then pure (.bl (dfind kvs a).isSome) else stk
  | .nin, a, .dic kvs => if isKey a then pure (.bl (!(dfind kvs a).isSome)) else stk
  | _, _, _ => stk
def ofO : Option D → M D
  | some d => pure d
  | none => stk
def idxop : D → D → M D
  | .tup xs, .int k => ofO (L2.atI xs k)
  | .lst xs, .int k => ofO (L2.atI xs k)
  | .dic kvs, k => if isKey k then ofO (dfind kvs k) else stk
  | _, _ => stk
/-- the content of a mutable cell -/
def der : D → M D
  | .cel n => fun w => match w[n]? with
    | some d => .ok d w
    | none => .stk
  | d => pure d
def cut {α : Type} (xs : List α) (lo hi : Option Int) : List α := (xs.drop (HT.sIx xs.length 0 lo)).take (HT.sIx xs.length xs.length hi - HT.sIx xs.length 0 lo)
def sliop : D → Option Int → Option Int → M D
  | .tup xs, lo, hi => pure (.tup (cut xs lo hi))
  | .lst xs, lo, hi => pure (.lst (cut xs lo hi))
  | .scr ns, lo, hi => pure (.lst (cut (ns.map .int) lo hi))
  | _, _, _ => stk
def intsD : List D → Option (List Int)
  | [] => some []
  | .int i :: r => (intsD r).map (i :: ·)
  | _ :: _ => none
def boolsD : List D → Option (List Bool)
  | [] => some []
  | .bl i :: r => (boolsD r).map (i :: ·)
  | _ :: _ => none
def insI (a : Int) : List Int → List Int
  | [] => [a]
  | b :: r => if a ≤ b then a :: b :: r else b :: insI a r
def sortI : List Int → List Int
  | [] => []
  | a :: r => insI a (sortI r)
def maxI : List Int → Option Int
  | [] => none
  | a :: r => some (r.foldl (fun x y => if x < y then y else x) a)
def minI : List Int → Option Int
  | [] => none
  | a :: r => some (r.foldl (fun x y => if y < x then y else x) a)
/-- each once -/
def ddup : List Int → List Int
  | [] => []
  | a :: r => if a ∈ r then ddup r else a :: ddup r
/-- the first place -/
def plcI (k : Int) : List Int → Option Nat
  | [] => none
  | a :: r => if a = k then some 0 else (plcI k r).map (· + 1)
def onInts (xs : List D) (f : List Int → M D) : M D := match intsD xs with
  | some ns => f ns
  | none => stk
/-- each int once, ascending -/
def srtOf : D → M D
  | .tup xs => onInts xs fun ns => grd (ns.length ≤ 4000 ∧ (ddup ns).length < 64) (pure (.lst ((sortI (ddup ns)).map .int)))
  | .lst xs => onInts xs fun ns => grd (ns.length ≤ 4000 ∧ (ddup ns).length < 64) (pure (.lst ((sortI (ddup ns)).map .int)))
  | _ => stk
/-- at which place -/
def idxOf : D → D → M D
  | .lst xs, .int k => onInts xs fun ns => ofO ((plcI k ns).map fun j => .int (j : Int))
  | _, _ => stk
/-- a list, else stuck -/
def isLs : D → M Unit
  | .lst _ => pure ()
  | _ => stk
def b1op : B1 → D → M D
  | .len, .tup xs => pure (.int xs.length)
  | .len, .lst xs => pure (.int xs.length)
  | .len, .dic xs => pure (.int xs.length)
  | .tuple, .tup xs => pure (.tup xs)
  | .tuple, .lst xs => pure (.tup xs)
  | .list, .tup xs => pure (.lst xs)
  | .list, .scr ns => pure (.lst (ns.map .int))
  | .len, .scr ns => pure (.int ns.length)
  | .list, .lst xs => pure (.lst xs)
  | .int, .int i => pure (.int i)
  | .int, .bl b => pure (.int (if b then 1 else 0))
  | .abs, .int i => pure (.int (if i < 0 then -i else i))
  | .all, .lst xs => (match boolsD xs with | some bs => pure (.bl (bs.all id)) | none => stk)
  | .any, .lst xs => (match boolsD xs with | some bs => pure (.bl (bs.any id)) | none => stk)
  | .sum, .lst xs => onInts xs fun ns => pure (.int ns.sum)
  | .max, .lst xs => onInts xs fun ns => ofO ((maxI ns).map .int)
  | .min, .lst xs => onInts xs fun ns => ofO ((minI ns).map .int)
  | .sorted, .lst xs => onInts xs fun ns => grd (ns.length < 64) (pure (.lst ((sortI ns).map .int)))
  | .sorted, .dic kvs => onInts (kvs.map (·.1)) fun ns => grd (ns.length < 64) (pure (.lst ((sortI ns).map .int)))
  | _, _ => stk
def isaT (nc : Nat) : D → Ty → Option Bool
  | .cel _, _ => none | .fn _, _ => none | .scr _, _ => none
  | .int _, .int => some true | .bl _, .int => some true
  | .bl _, .bool => some true
  | .str _, .str => some true
  | .tup _, .tuple => some true
  | .lst _, .list => some true
  | .dic _, .dict => some true
  | .ins c _, .cls d => if c < nc then some (c == d) else none
  | .ins c _, _ => if c < nc then some false else none
  | _, _ => some false
def isaTs (nc : Nat) (a : D) : List Ty → Option Bool
  | [] => some false
  | t :: r => match isaT nc a t with
    | some true => some true
    | some false => isaTs nc a r
    | none => none
def bindTg : Tg → D → Env → Option Env
  | .n i, d, e => if i < e.length then some (e.set i (.val d)) else none
  | .t ts, .tup ds, e => go ts ds e
  | .t _, _, _ => none
where go : List Tg → List D → Env → Option Env
  | [], [], e => some e
  | t :: ts, d :: ds, e => match bindTg t d e with
    | some e' => go ts ds e'
    | none => none
  | _, _, _ => none
def tst (m : M D) : M Bool := m >>= fun d => match d with
  | .bl b => pure b
  | _ => stk

structure Cfg where
  /-- how many classes, defs there are -/
  nc : Nat
  nf : Nat
  gs : List D
  cf : Nat → List D → M D
  cm : Nat → List D → M D
  /-- the def that is == of a class -/
  ce : Nat → Option Nat
  sub : Nat → Nat → Option Bool
  /-- the field of an error -/
  xf : Nat → Option Str
  hot : Bool
  wf : Nat

def ownV (e : Env) : X → Bool
  | .v i => (match e[i]? with | some (.own _) => true | _ => false)
  | _ => false
def ownX (e : Env) : X → Option (Nat × Option D)
  | .v i => (match e[i]? with | some (.exc c x) => some (c, x) | _ => none)
  | _ => none
def nb (e : Env) (x : X) (m : M D) : M D := if ownV e x then stk else m
def getV (e : Env) (i : Nat) : M D := match e[i]? with
  | some (.val d) => pure d
  | some (.own d) => pure d
  | _ => stk
def lcGo (f : Env → M D) (c : Env → M Bool) (tg : Tg) (e : Env) : List D → M (List D)
  | [] => pure []
  | d :: r => match bindTg tg d e with
    | none => stk
    | some e' => c e' >>= fun b => match b with
      | true => f e' >>= fun y => lcGo f c tg e r >>= fun ys => pure (y :: ys)
      | false => lcGo f c tg e r
def rngOk (i : Int) : Prop := -(2 ^ 62) ≤ i ∧ i < 2 ^ 62
noncomputable instance (i : Int) : Decidable (rngOk i) := Classical.propDecidable _
def itemsOf : D → M (List D)
  | .tup xs => pure xs
  | .lst xs => pure xs
  | _ => stk
/-- the slots of a comprehension's own names -/
def wipeE (e : Env) : List Nat → Env
  | [] => e
  | v :: vs => (wipeE e vs).set v .un
def wipeOk (e : Env) (vs : List Nat) : Bool := vs.all fun v => match e[v]? with | some (.own _) => false | _ => true
def rngD (lo : Int) (n : Nat) : List D := (List.range n).map fun (i : Nat) => .int (lo + (i : Int))
def rngOf : List D → M (List D)
  | [.int j] => if rngOk j then pure (rngD 0 j.toNat) else stk
  | [.int i, .int j] => if rngOk i ∧ rngOk j then pure (rngD i (j - i).toNat) else stk
  | _ => stk
/-- list(range(n)) -/
def lrngOf : D → M D
  | .int n => if rngOk n ∧ n.toNat ≤ SZ then pure (.lst (rngD 0 n.toNat)) else stk
  | _ => stk
/-- repr of a tuple of data -/
def repOk (d : D) : Prop := d.shp = true ∧ d.dep ≤ 60 ∧ d.py.showable = true ∧ d.py.shown.length ≤ SZ
instance (d : D) : Decidable (repOk d) := by unfold repOk; infer_instance
def repOf : D → M D
  | .tup xs => grd (repOk (.tup xs)) (pure (.str (D.tup xs).py.shown))
  | _ => stk
def enumD (xs : List D) : List D := xs.mapIdx fun i x => .tup [.int i, x]
def enumOf : List D → M (List D)
  | [.tup xs] => pure (enumD xs)
  | [.lst xs] => pure (enumD xs)
  | _ => stk
def zipD (xs ys : List D) : List D := List.zipWith (fun x y => .tup [x, y]) xs ys
def zipOf : List D → M (List D)
  | [.tup xs, .tup ys] => pure (zipD xs ys)
  | [.lst xs, .lst ys] => pure (zipD xs ys)
  | [.tup xs, .lst ys] => pure (zipD xs ys)
  | [.lst xs, .tup ys] => pure (zipD xs ys)
  | _ => stk
def calm (C : Cfg) {α : Type} (m : M α) : M α := if C.hot then stk else m
def noX {α : Type} (m : M α) : M α := fun w => match m w with
  | .exc _ _ _ => .stk
  | r => r
def isIns : D → Bool
  | .ins _ _ => true | _ => false
/-- a class's own == -/
def eqIns (C : Cfg) (e : Env) (a b : X) (x y : D) : M D := calm C (match x, y with
  | .ins c _, .ins c' _ => (match C.ce c, decide (c' = c) with | some j, true => nb e a (nb e b (noX (C.cf j [x, y]))) | _, _ => stk)
  | .ins c _, .tup _ => (match C.ce c with | some j => nb e a (nb e b (noX (C.cf j [x, y]))) | none => stk)
  | _, _ => stk)
/-- the field of a caught error; its class asked -/
def fldX (C : Cfg) (c : Nat) (x : Option D) (f : Str) : M D := match x with
  | some d => if C.xf c = some f then pure d else stk
  | none => stk
def isaX (C : Cfg) (c : Nat) : List Ty → M D
  | _ => stk
mutual
def ev (C : Cfg) : X → Env → M D
  | .k d, _ => pure d
  | .v i, e => getV e i
  | .g j, _ => ofO C.gs[j]?
  | .tup es, e => evs C es e >>= fun ds => grd (ds.length ≤ SZ) (pure (.tup ds))
  | .lst es, e => evs C es e >>= fun ds => grd (ds.length ≤ SZ) (pure (.lst ds))
  | .bin o a b, e => ev C a e >>= fun x => ev C b e >>= fun y => binop o x y
  | .neg a, e => ev C a e >>= fun x => match x with | .int i => pure (.int (-i)) | _ => stk
  | .not a, e => tst (ev C a e) >>= fun b => pure (.bl (!b))
  | .cmp o a b, e => ev C a e >>= fun x => ev C b e >>= fun y => if isIns x && o == .eq then eqIns C e a b x y else der y >>= fun y => cmpop o x y
  | .cmp2 o o' a b c, e => ev C a e >>= fun x => ev C b e >>= fun y => tst (cmpop o x y) >>= fun r => match r with
      | true => ev C c e >>= fun z => cmpop o' y z
      | false => pure (.bl false)
  | .and es, e => evAnd C es e
  | .or es, e => evOr C es e
  | .ite c a b, e => tst (ev C c e) >>= fun r => match r with
      | true => nb e a (ev C a e)
      | false => nb e b (ev C b e)
  | .idx a b, e => ev C a e >>= fun x => ev C b e >>= fun y => der x >>= fun x => idxop x y
  | .sli a lo hi, e => ev C a e >>= fun x => evo C lo e >>= fun l => evo C hi e >>= fun h => der x >>= fun x => sliop x l h
  | .rev a, e => ev C a e >>= fun x => match x with | .lst xs => pure (.lst xs.reverse) | _ => stk
  | .fld a f, e => match ownX e a with
      | some (c, x) => fldX C c x f
      | none => ev C a e >>= fun x => der x >>= fun x => match x with
        | .ins c fs => if c < C.nc then ofO (fs.lookup f) else stk
        | _ => stk
  | .call j es, e => calm C (evs C es e >>= fun ds => C.cf j ds)
  | .cav i es, e => calm C (getV e i >>= fun f => match f with
      | .fn j => if j < C.nf then evs C es e >>= fun ds => C.cf j ds else stk
      | _ => stk)
  | .mk c es, e => calm C (evs C es e >>= fun ds => C.cm c ds)
  | .b1 b a, e => ev C a e >>= fun x => der x >>= fun x => b1op b x
  | .max2 a b, e => calm C (ev C a e >>= fun x => ev C b e >>= fun y => match x, y with | .int i, .int j => pure (.int (if j > i then j else i)) | _, _ => stk)
  | .min2 a b, e => calm C (ev C a e >>= fun x => ev C b e >>= fun y => match x, y with | .int i, .int j => pure (.int (if j < i then j else i)) | _, _ => stk)
  | .isa a ts, e => match ownX e a with
      | some (c, _) => isaX C c ts
      | none => ev C a e >>= fun x => match isaTs C.nc x ts with | some b => pure (.bl b) | none => stk
  | .lc x tg it c vs, e => calm C (evI C it e >>= fun ds => if wipeOk e vs && decide (ds.length ≤ SZ) then lcGo (fun e' => noX (nb e' x (ev C x e'))) (fun e' => noX (evc C c e')) tg (wipeE e vs) ds >>= fun ys => pure (.lst ys) else stk)
  | .lenset a, e => calm C (ev C a e >>= fun x => match x with
      | .tup xs => onInts xs fun ns => grd (ns.length ≤ 1000) (pure (.int (ddup ns).length))
      | .lst xs => onInts xs fun ns => grd (ns.length ≤ 1000) (pure (.int (ddup ns).length))
      | _ => stk)
  | .srtset a, e => calm C (ev C a e >>= srtOf)
  | .lidx a b, e => ev C a e >>= fun x => isLs x >>= fun _ => ev C b e >>= fun y => idxOf x y
  | .dict0, _ => pure (.dic [])
  | .dic1 a b, e => ev C a e >>= fun x => nb e b (ev C b e) >>= fun y => if isKey x then pure (.dic [(x, y)]) else stk
  | .get d a b, e => ev C d e >>= fun x => match x with
      | .dic kvs => ev C a e >>= fun k => nb e b (ev C b e) >>= fun z => if isKey k then pure ((dfind kvs k).getD z) else stk
      | _ => stk
  | .lrng a, e => calm C (ev C a e >>= lrngOf)
  | .rep a, e => calm C (ev C a e >>= repOf)
  | .bad, _ => stk
def evs (C : Cfg) : Xs → Env → M (List D)
  | .nil, _ => pure []
  | .cons x r, e => nb e x (ev C x e) >>= fun d => evs C r e >>= fun ds => pure (d :: ds)
def evAnd (C : Cfg) : Xs → Env → M D
  | .nil, _ => stk
  | .cons x .nil, e => nb e x (ev C x e)
  | .cons x (.cons y r), e => tst (ev C x e) >>= fun b => match b with
      | true => evAnd C (.cons y r) e
      | false => pure (.bl false)
def evOr (C : Cfg) : Xs → Env → M D
  | .nil, _ => stk
  | .cons x .nil, e => nb e x (ev C x e)
  | .cons x (.cons y r), e => tst (ev C x e) >>= fun b => match b with
      | true => pure (.bl true)
      | false => evOr C (.cons y r) e
def evo (C : Cfg) : Xo → Env → M (Option Int)
  | .no, _ => pure none
  | .so x, e => ev C x e >>= fun d => match d with | .int i => pure (some i) | _ => stk
def evc (C : Cfg) : Xo → Env → M Bool
  | .no, _ => pure true
  | .so x, e => tst (ev C x e)
def evI (C : Cfg) : It → Env → M (List D)
  | .x a, e => nb e a (ev C a e) >>= itemsOf
  | .rng es, e => evs C es e >>= rngOf
  | .enum es, e => evs C es e >>= enumOf
  | .zip es, e => evs C es e >>= zipOf
end
end
end Ev

set_option maxRecDepth 100000
set_option maxHeartbeats 4000000
/-! Statements, defs, programs. -/
namespace Ev
open PySem
noncomputable section

def contD : D → Bool
  | .lst _ => true | .dic _ => true | .ins _ _ => true | _ => false
inductive Fl where
  | nx (e : Env) | rt (d : D) | bk (e : Env) | ct (e : Env) | xc (c : Nat) (x : Option D) (e : Env)
/-- what a term of a statement raises, told with the slots -/
def cat (e : Env) (m : M Fl) : M Fl := fun w => match m w with
  | .exc c x w' => .ok (.xc c x e) w'
  | r => r
def toL (e : Env) (i : Nat) (f : List D → Option (List D)) : M Fl := match e[i]? with
  | some (.own (.lst xs)) => (match f xs with | some ys => pure (.nx (e.set i (.own (.lst ys)))) | none => stk)
  | some (.val (.cel n)) => fun w => (match w[n]? with
    | some (.lst xs) => (match f xs with | some ys => .ok (.nx e) (w.set n (.lst ys)) | none => .stk)
    | _ => .stk)
  | _ => stk
def setAt (xs : List D) (k : Int) (d : D) : Option (List D) := (L2.ixN xs.length k).map fun j => xs.set j d
def putI (e : Env) (i : Nat) (k d : D) : M Fl := match k with
  | .int k => toL e i fun xs => setAt xs k d
  | _ => stk
/-- x[k] = d -/
def putAt (e : Env) (i : Nat) (k d : D) : M Fl := match e[i]? with
  | some (.own (.dic kvs)) => if isKey k ∧ kvs.length < SZ then pure (.nx (e.set i (.own (.dic (dput kvs k d))))) else stk
  | _ => putI e i k d
def putF (f : Str) (v : D) : List (Str × D) → List (Str × D)
  | [] => [(f, v)]
  | (g, x) :: r => if g = f then (g, v) :: r else (g, x) :: putF f v r
def whl (n : Nat) (c : Env → M Bool) (b : Env → M Fl) (e : Env) : M Fl := match n with
  | 0 => stk
  | n + 1 => fun w => match c e w with
    | .ok true w' => (match b e w' with
      | .ok (.nx e') w2 => whl n c b e' w2
      | .ok (.ct e') w2 => whl n c b e' w2
      | .ok (.bk e') w2 => .ok (.nx e') w2
      | r => r)
    | .ok false w' => .ok (.nx e) w'
    | .exc k x w' => .ok (.xc k x e) w'
    | .stk => .stk
def forGo (tg : Tg) (b : Env → M Fl) : List D → Env → M Fl
  | [], e => pure (.nx e)
  | d :: r, e => match bindTg tg d e with
    | none => stk
    | some e' => b e' >>= fun f => match f with
      | .nx e2 => forGo tg b r e2
      | .ct e2 => forGo tg b r e2
      | .bk e2 => pure (.nx e2)
      | f => pure f
def parE : List (Nat × Bool) → List D → Env → Option Env
  | [], [], e => some e
  | (i, o) :: ts, d :: ds, e => if i < e.length ∧ (o = true → contD d = true ∧ i ≠ 0) then parE ts ds (e.set i (if o then .own d else .val d)) else none
  | _, _, _ => none
/-- slot i has a value -/
def isS (e : Env) (i : Nat) : M Unit := match e[i]? with
  | some (.own _) => pure ()
  | some (.val _) => pure ()
  | _ => stk
/-- slot i is a list -/
def isL (e : Env) (i : Nat) : M Unit := match e[i]? with
  | some (.own (.lst _)) => pure ()
  | some (.val (.cel n)) => fun w => (match w[n]? with
    | some (.lst _) => .ok () w
    | _ => .stk)
  | _ => stk
def setS (e : Env) (i : Nat) (s : Slot) : M Fl := if i < e.length then pure (.nx (e.set i s)) else stk
/-- x.f = d -/
def putFld (C : Cfg) (e : Env) (i : Nat) (f : Str) (d : D) : M Fl := match e[i]? with
  | some (.own (.ins c fs)) => if fs.length < 1000 ∧ c < C.nc then pure (.nx (e.set i (.own (.ins c (putF f d fs))))) else stk
  | some (.val (.cel n)) => fun w => (match w[n]? with
    | some (.ins c fs) => if fs.length < 1000 ∧ c < C.nc then .ok (.nx e) (w.set n (.ins c (putF f d fs))) else .stk
    | _ => .stk)
  | _ => stk
/-- x.pop(k) -/
def popE (e : Env) (i : Nat) (j : Int) (k : Env → D → M Fl) : M Fl := match e[i]? with
  | some (.own (.lst xs)) => (match L2.ixN xs.length j with
    | some n => (match xs[n]? with
      | some d => k (e.set i (.own (.lst (xs.eraseIdx n)))) d
      | none => stk)
    | none => stk)
  | some (.val (.cel c)) => fun w => (match w[c]? with
    | some (.lst xs) => (match L2.ixN xs.length j with
      | some n => (match xs[n]? with
        | some d => k e d (w.set c (.lst (xs.eraseIdx n)))
        | none => .stk)
      | none => .stk)
    | _ => .stk)
  | _ => stk
/-- one int -/
def oneI (ds : List D) (k : Int → M Fl) : M Fl := match ds with
  | [.int j] => k j
  | _ => stk
def frzS (is : List Nat) (i : Nat) : Slot → Slot
  | .own d => if is.contains i then .val d else .own d
  | s => s
def frzE (e : Env) (is : List Nat) : Env := e.mapIdx (frzS is)
def onL (e : Env) (m : M (List D)) (k : List D → M Fl) : M Fl := fun w => match m w with
  | .ok ds w' => k ds w'
  | .exc c x w' => .ok (.xc c x e) w'
  | .stk => .stk
/-- behind an except clause: the caught error's name is gone -/
def noExS : Slot → Slot
  | .exc _ _ => .un
  | s => s
def wipeX (e : Env) : Env := e.map noExS
def newCel (d : D) : M Fl := fun w => .ok (.rt (.cel w.length)) (w ++ [d])
mutual
def ex (C : Cfg) : S → Env → M Fl
  | .set i x own, e => cat e (match own with
      | true => ev C x e >>= fun d => if contD d = true ∧ i ≠ 0 then setS e i (.own d) else stk
      | false => nb e x (ev C x e) >>= fun d => setS e i (.val d))
  | .setG t x, e => cat e (calm C (nb e x (ev C x e) >>= fun d => match bindTg t d e with
      | some e' => pure (.nx e')
      | none => stk))
  | .par ts es, e => cat e (calm C (evs C es e >>= fun ds => match parE ts ds e with
      | some e' => pure (.nx e')
      | none => stk))
  | .stx i k x, e => cat e (nb e x (ev C x e) >>= fun d => isS e i >>= fun _ => ev C k e >>= fun k => putAt e i k d)
  | .stf i f x, e => cat e (nb e x (ev C x e) >>= fun d => putFld C e i f d)
  | .augx i k o x, e => cat e (getV e i >>= der >>= fun l => ev C k e >>= fun k => idxop l k >>= fun d0 => ev C x e >>= fun d => binop o d0 d >>= fun d1 => putAt e i k d1)
  | .app i es, e => cat e (isL e i >>= fun _ => evs C es e >>= fun ds => match ds with
      | [d] => toL e i fun xs => if xs.length < SZ then some (xs ++ [d]) else none
      | _ => stk)
  | .ext i es, e => cat e (isL e i >>= fun _ => evs C es e >>= fun ds => match ds with
      | [.lst ys] => toL e i fun xs => if xs.length + ys.length ≤ SZ then some (xs ++ ys) else none
      | [.tup ys] => toL e i fun xs => if xs.length + ys.length ≤ SZ then some (xs ++ ys) else none
      | _ => stk)
  | .pop j i, e => (match e[i]? with
      | some (.own (.lst xs)) => (match xs[xs.length - 1]? with
        | some d => setS (e.set i (.own (.lst xs.dropLast))) j (.val d)
        | none => stk)
      | _ => stk)
  | .popat j i es, e => cat e (isL e i >>= fun _ => evs C es e >>= fun ds => oneI ds fun kk => popE e i kk fun e' d => setS e' j (.val d))
  | .popx i es, e => cat e (isL e i >>= fun _ => evs C es e >>= fun ds => oneI ds fun j => popE e i j fun e' _ => pure (.nx e'))
  | .apppop l i es, e => cat e (isL e l >>= fun _ => isL e i >>= fun _ => if l = i then stk else evs C es e >>= fun ds => oneI ds fun j => popE e i j fun e' d => toL e' l fun ys => if ys.length < SZ then some (ys ++ [d]) else none)
  | .ex x, e => cat e (ev C x e >>= fun _ => pure (.nx e))
  | .ret x, e => cat e (nb e x (ev C x e) >>= fun d => pure (.rt d))
  | .retc x, e => cat e (ev C x e >>= fun d => if contD d then newCel d else stk)
  | .iff c a b, e => fun w => match tst (ev C c e) w with
      | .ok true w' => exs C a e w'
      | .ok false w' => exs C b e w'
      | .exc k x w' => .ok (.xc k x e) w'
      | .stk => .stk
  | .whl c b, e => whl C.wf (fun e => tst (ev C c e)) (fun e => exs C b e) e
  | .for tg it b, e => calm C (onL e (evI C it e) fun ds => forGo tg (fun e => exs C b e) ds e)
  | .brk, e => pure (.bk e)
  | .cnt, e => pure (.ct e)
  | .pas, e => pure (.nx e)
  | .rse c x, e => calm C (match x with
      | .no => pure (.xc c none e)
      | .so x => cat e (nb e x (ev C x e) >>= fun d => pure (.xc c (some d) e)))
  | .tri b hs, e => calm C (exs C b e >>= fun f => match f with
      | .xc c x e' => exh C hs c x e'
      | f => pure f)
  | .frz is s, e => ex C s (frzE e is)
  | .bad, _ => stk
def exs (C : Cfg) : Ss → Env → M Fl
  | .nil, e => pure (.nx e)
  | .cons s r, e => ex C s e >>= fun f => match f with
      | .nx e' => exs C r e'
      | f => pure f
def exh (C : Cfg) : Hs → Nat → Option D → Env → M Fl
  | .nil, c, x, e => pure (.xc c x e)
  | .cons k i b r, c, x, e => match C.sub c k with
      | some true => (match i with
        | none => exs { C with hot := true } b e >>= fun f => match f with
            | .xc _ _ _ => stk
            | f => pure f
        | some i => if i < e.length then exs { C with hot := true } b (e.set i (.exc c x)) >>= fun f => match f with
            | .xc _ _ _ => stk
            | .nx e' => pure (.nx (wipeX (e'.set i .un)))
            | .bk e' => pure (.bk (wipeX (e'.set i .un)))
            | .ct e' => pure (.ct (wipeX (e'.set i .un)))
            | f => pure f
          else stk)
      | some false => exh C r c x e
      | none => stk
end
def cfgOf (P : Prog) (cf cm : Nat → List D → M D) : Cfg := ⟨P.nc, P.fns.length, P.gs, cf, cm, fun c => (P.cls c).bind (·.eqf), fun c k => P.sub.lookup (c, k), P.xf, false, P.wf⟩
def start (f : Fn) (ds : List D) : Env := ds.map .val ++ List.replicate (f.ns - f.np) .un
/-- what a body's end is to the caller -/
def endF (m : M Fl) : M D := fun w => match m w with
  | .ok (.nx _) w' => .ok .non w'
  | .ok (.rt d) w' => .ok d w'
  | .ok (.xc c x _) w' => .exc c x w'
  | _ => .stk
/-- .. of an __init__ -/
def endI (m : M Fl) : M D := fun w => match m w with
  | .ok (.nx e) w' => (match e[0]? with
    | some (Slot.own d) => .ok d w'
    | _ => .stk)
  | .ok (.xc c x _) w' => .exc c x w'
  | _ => .stk
def run1 (P : Prog) (cf cm : Nat → List D → M D) (j : Nat) (ds : List D) : M D := if P.rl = some j then stk else match P.fns[j]? with
  | none => stk
  | some f => if ds.length = f.np then endF (exs (cfgOf P cf cm) f.body (start f ds)) else stk
/-- an __init__: self stands in the first slot, nobody else holds it -/
def runI (P : Prog) (cf cm : Nat → List D → M D) (c : Nat) (ds : List D) : M D := match P.cls c with
  | none => stk
  | some k => if P.rl = some k.ini then stk else match P.fns[k.ini]? with
    | none => stk
    | some f => if ds.length + 1 = f.np then endI (exs (cfgOf P cf cm) f.body (Slot.own (.ins c []) :: (ds.map .val ++ List.replicate (f.ns - f.np) .un))) else stk
/-- own defs, own classes' __init__, the same a call less deep -/
def deep (P : Prog) : Nat → (Nat → List D → M D) × (Nat → List D → M D) × (Nat → List D → M D)
  | 0 => (fun _ _ => stk, fun _ _ => stk, fun _ _ => stk)
  | k + 1 => (run1 P (deep P k).1 (deep P k).2.2, runI P (deep P k).1 (deep P k).2.2, (deep P k).2.1)
/-- the def that may ask repr, called from outside -/
def lawF (P : Prog) (k : Nat) (ds : List D) : M D := match P.rl with
  | none => stk
  | some j => match P.fns[j]? with
    | none => stk
    | some f => if ds.length = f.np then endF (exs (cfgOf P (deep P k).1 (deep P k).2.2) f.body (start f ds)) else stk
def callF (P : Prog) (k : Nat) : Nat → List D → M D := (deep P k).1
end
end Ev

set_option maxRecDepth 100000
set_option maxHeartbeats 4000000
/-! How the machine's values stand in the layer's heap. -/
namespace Ev
open PySem PySem.Spec PyProof.Rows L2

abbrev Pr := Addr → Prop
/-- F: what may be named by values, and stays; P: what others hold, and stays; oa: where an own slot's container is; rho: where a cell is -/
structure Fm where
  F : Pr
  P : Pr
  oa : Nat → Addr
  rho : Nat → Addr
def KTup (K : PySem.W.Frag) (a : Addr) (xs : List V) : Prop :=
  ∃ (o : Obj) (its : Array Value) (n : Nat), K.lookup a = some o ∧ o.cls = .type "tuple" ∧ o.data = .seq its n ∧ its.size ≤ sizeLine ∧ Vals xs its.toList
def KLst (K : PySem.W.Frag) (a : Addr) (xs : List V) : Prop :=
  ∃ (o : Obj) (its : Array Value) (n : Nat), K.lookup a = some o ∧ o.cls = .type "list" ∧ o.dict = none ∧ o.data = .seq its n ∧ its.size ≤ sizeLine ∧ Vals xs its.toList
def TupAt (G : GG) (F : Pr) (H : Hp) (a : Addr) (vs : List V) : Prop := (F a ∧ H a = some (.tup vs)) ∨ KTup G.K a vs
def keyD : Key → D
  | .inl i => .int i
  | .inr x => .str x
mutual
inductive R (G : GG) (F : Pr) (rho : Nat → Addr) (n : Nat) (H : Hp) : V → D → Prop
  | non : R G F rho n H .non .non
  | bl (b : Bool) : R G F rho n H (.bl b) (.bl b)
  | int (i : Int) : R G F rho n H (.int i) (.int i)
  | str (s : Str) : R G F rho n H (.str s) (.str s)
  | tup {a : Addr} {vs : List V} {ds : List D} : TupAt G F H a vs → vs.length ≤ SZ → RA G F rho n H vs ds → R G F rho n H (.ref a) (.tup ds)
  | lst {a : Addr} {vs : List V} {ds : List D} : F a → H a = some (.lst vs) → vs.length ≤ SZ → RA G F rho n H vs ds → R G F rho n H (.ref a) (.lst ds)
  | dic {a : Addr} {kvs : List (Key × V)} {ds : List (D × D)} : F a → H a = some (.dK kvs) → kvs.length ≤ SZ → RK G F rho n H kvs ds → R G F rho n H (.ref a) (.dic ds)
  | ins {a dx : Addr} {c : Nat} {vs : List (Str × V)} {fs : List (Str × D)} : F a → H a = some (.ins (G.cl c) dx vs) → RF G F rho n H vs fs → R G F rho n H (.ref a) (.ins c fs)
  | cel {k : Nat} : k < n → R G F rho n H (.ref (rho k)) (.cel k)
  | fn {j : Nat} : R G F rho n H (.ref (G.fa j)) (.fn j)
  | scr {a : Addr} {o : Obj} {ns : List Int} : F a → H a = some (.frz o (.lst (ns.map V.int))) → ns.length ≤ SZ → R G F rho n H (.ref a) (.scr ns)
  | scrK {a : Addr} {ns : List Int} : KLst G.K a (ns.map V.int) → ns.length ≤ SZ → R G F rho n H (.ref a) (.scr ns)
inductive RA (G : GG) (F : Pr) (rho : Nat → Addr) (n : Nat) (H : Hp) : List V → List D → Prop
  | nil : RA G F rho n H [] []
  | cons {v : V} {d : D} {vs : List V} {ds : List D} : R G F rho n H v d → RA G F rho n H vs ds → RA G F rho n H (v :: vs) (d :: ds)
inductive RK (G : GG) (F : Pr) (rho : Nat → Addr) (n : Nat) (H : Hp) : List (Key × V) → List (D × D) → Prop
  | nil : RK G F rho n H [] []
  | cons {k : Key} {v : V} {d : D} {vs : List (Key × V)} {ds : List (D × D)} : R G F rho n H v d → RK G F rho n H vs ds → RK G F rho n H ((k, v) :: vs) ((keyD k, d) :: ds)
inductive RF (G : GG) (F : Pr) (rho : Nat → Addr) (n : Nat) (H : Hp) : List (Str × V) → List (Str × D) → Prop
  | nil : RF G F rho n H [] []
  | cons {f : Str} {v : V} {d : D} {vs : List (Str × V)} {ds : List (Str × D)} : R G F rho n H v d → RF G F rho n H vs ds → RF G F rho n H ((f, v) :: vs) ((f, d) :: ds)
end
/-- an own container, or a cell -/
def Own (G : GG) (F : Pr) (rho : Nat → Addr) (n : Nat) (H : Hp) (a : Addr) : D → Prop
  | .lst ds => ∃ vs, H a = some (.lst vs) ∧ vs.length ≤ SZ ∧ RA G F rho n H vs ds
  | .dic ds => ∃ vs, H a = some (.dK vs) ∧ vs.length ≤ SZ ∧ RK G F rho n H vs ds
  | .ins c fs => ∃ dx vs, H a = some (.ins (G.cl c) dx vs) ∧ RF G F rho n H vs fs
  | _ => False

section
variable {G : GG} {F F' : Pr} {rho rho' : Nat → Addr} {n n' : Nat} {H H' : Hp}
theorem RA.length {vs : List V} {ds : List D} (h : RA G F rho n H vs ds) : vs.length = ds.length := by
  induction vs generalizing ds with
  | nil => cases h; rfl
  | cons v vs ih => cases h with
    | cons _ t => simp [ih t]
theorem RK.length {vs : List (Key × V)} {ds : List (D × D)} (h : RK G F rho n H vs ds) : vs.length = ds.length := by
  induction vs generalizing ds with
  | nil => cases h; rfl
  | cons v vs ih => cases h with
    | cons _ t => simp [ih t]
theorem RA.get : ∀ {vs : List V} {ds : List D} {i : Nat} {d : D}, RA G F rho n H vs ds → ds[i]? = some d → ∃ v, vs[i]? = some v ∧ R G F rho n H v d
  | _, _, _, _, .nil, e => by simp at e
  | _, _, 0, _, .cons r _, e => by simp at e; subst e; exact ⟨_, rfl, r⟩
  | _, _, i + 1, d, .cons r t, e => by
    obtain ⟨v, h1, h2⟩ := RA.get (i := i) (d := d) t (by simpa using e)
    exact ⟨v, by simpa using h1, h2⟩
theorem RA.append : ∀ {vs us : List V} {ds es : List D}, RA G F rho n H vs ds → RA G F rho n H us es → RA G F rho n H (vs ++ us) (ds ++ es)
  | _, _, _, _, .nil, h => h
  | _, _, _, _, .cons r t, h => .cons r (RA.append t h)
theorem RA.take : ∀ {vs : List V} {ds : List D} (i : Nat), RA G F rho n H vs ds → RA G F rho n H (vs.take i) (ds.take i)
  | _, _, 0, _ => .nil
  | _, _, _ + 1, .nil => .nil
  | _, _, i + 1, .cons r t => .cons r (RA.take i t)
theorem RA.drop : ∀ {vs : List V} {ds : List D} (i : Nat), RA G F rho n H vs ds → RA G F rho n H (vs.drop i) (ds.drop i)
  | _, _, 0, h => h
  | _, _, _ + 1, .nil => .nil
  | _, _, i + 1, .cons _ t => RA.drop i t
theorem RA.set : ∀ {vs : List V} {ds : List D} {v : V} {d : D} (i : Nat), RA G F rho n H vs ds → R G F rho n H v d → RA G F rho n H (vs.set i v) (ds.set i d)
  | _, _, _, _, _, .nil, _ => .nil
  | _, _, _, _, 0, .cons _ t, r => .cons r t
  | _, _, _, _, i + 1, .cons q t, r => .cons q (RA.set i t r)
theorem RA.erase : ∀ {vs : List V} {ds : List D} (i : Nat), RA G F rho n H vs ds → RA G F rho n H (vs.eraseIdx i) (ds.eraseIdx i)
  | _, _, _, .nil => .nil
  | _, _, 0, .cons _ t => t
  | _, _, i + 1, .cons q t => .cons q (RA.erase i t)
theorem RA.reverse {vs : List V} {ds : List D} (h : RA G F rho n H vs ds) : RA G F rho n H vs.reverse ds.reverse := by
  induction vs generalizing ds with
  | nil => cases h; exact .nil
  | cons v vs ih => cases h with
    | cons r t => rw [List.reverse_cons, List.reverse_cons]; exact (ih t).append (.cons r .nil)
theorem RA.flat {vs : List V} {ds : List D} (h : RA G F rho n H vs ds) : ∀ k : Nat, RA G F rho n H (List.replicate k vs).flatten (List.replicate k ds).flatten
  | 0 => .nil
  | k + 1 => by
    rw [List.replicate_succ, List.replicate_succ, List.flatten_cons, List.flatten_cons]
    exact h.append (RA.flat h k)
theorem RA.ofInts : ∀ ns : List Int, RA G F rho n H (ns.map V.int) (ns.map D.int)
  | [] => .nil
  | i :: r => .cons (.int i) (RA.ofInts r)
theorem RF.look {vs : List (Str × V)} {fs : List (Str × D)} {f : Str} {d : D} (h : RF G F rho n H vs fs) (e : fs.lookup f = some d) : ∃ v, vs.lookup f = some v ∧ R G F rho n H v d := by
  induction vs generalizing fs with
  | nil => cases h; cases e
  | cons p vs ih => cases h with
    | @cons g v d' _ ds r t =>
      rw [List.lookup_cons] at e
      cases hb : f == g with
      | true =>
        rw [hb] at e
        cases e
        exact ⟨v, by rw [List.lookup_cons, hb], r⟩
      | false =>
        rw [hb] at e
        obtain ⟨u, h1, h2⟩ := ih t e
        exact ⟨u, by rw [List.lookup_cons, hb]; exact h1, h2⟩
theorem RF.put {vs : List (Str × V)} {fs : List (Str × D)} {f : Str} {v : V} {d : D} (h : RF G F rho n H vs fs) (r : R G F rho n H v d) : RF G F rho n H (L2.putF f v vs) (Ev.putF f d fs) := by
  induction vs generalizing fs with
  | nil => cases h; exact .cons r .nil
  | cons p vs ih => cases h with
    | @cons g u d' _ ds q t =>
      unfold L2.putF Ev.putF
      by_cases hg : g = f
      · rw [if_pos hg, if_pos hg]; exact .cons r t
      · rw [if_neg hg, if_neg hg]; exact .cons q (ih t)
theorem RF.length {vs : List (Str × V)} {ds : List (Str × D)} (h : RF G F rho n H vs ds) : vs.length = ds.length := by
  induction vs generalizing ds with
  | nil => cases h; rfl
  | cons v vs ih => cases h with
    | cons _ t => simp [ih t]
theorem TupAt.sq {a : Addr} {vs : List V} (h : TupAt G F H a vs) : SqT G.K H a vs := by
  rcases h with ⟨_, h⟩ | h
  · exact .of h
  · exact .inr h
/-- what is named stays where all that F holds stays -/
theorem R.mono (hF : ∀ a, F a → F' a) (hH : ∀ a, F a → H' a = H a) (hn : n ≤ n') (hr : ∀ k, k < n → rho' k = rho k) {v : V} {d : D} (h : R G F rho n H v d) : R G F' rho' n' H' v d := by
  refine R.rec (motive_1 := fun v d _ => R G F' rho' n' H' v d) (motive_2 := fun vs ds _ => RA G F' rho' n' H' vs ds) (motive_3 := fun vs ds _ => RK G F' rho' n' H' vs ds) (motive_4 := fun vs ds _ => RF G F' rho' n' H' vs ds)
    .non .bl .int .str ?_ ?_ ?_ ?_ ?_ .fn ?_ (fun h l => .scrK h l) .nil (fun _ _ a b => .cons a b) .nil (fun _ _ a b => .cons a b) .nil (fun _ _ a b => .cons a b) h
  · intro a vs ds ht hl _ ih
    refine .tup ?_ hl ih
    rcases ht with ⟨h1, h2⟩ | h1
    · exact .inl ⟨hF _ h1, (hH _ h1).trans h2⟩
    · exact .inr h1
  · intro a vs ds h1 h2 hl _ ih
    exact .lst (hF _ h1) ((hH _ h1).trans h2) hl ih
  · intro a vs ds h1 h2 hl _ ih
    exact .dic (hF _ h1) ((hH _ h1).trans h2) hl ih
  · intro a dx c vs fs h1 h2 _ ih
    exact .ins (hF _ h1) ((hH _ h1).trans h2) ih
  · intro k hk
    rw [← hr k hk]
    exact .cel (Nat.lt_of_lt_of_le hk hn)
  · intro a o ns h1 h2 hl
    exact .scr (hF _ h1) ((hH _ h1).trans h2) hl
theorem RA.mono (hF : ∀ a, F a → F' a) (hH : ∀ a, F a → H' a = H a) (hn : n ≤ n') (hr : ∀ k, k < n → rho' k = rho k) : ∀ {vs : List V} {ds : List D}, RA G F rho n H vs ds → RA G F' rho' n' H' vs ds
  | _, _, .nil => .nil
  | _, _, .cons a t => .cons (a.mono hF hH hn hr) (RA.mono hF hH hn hr t)
theorem RK.mono (hF : ∀ a, F a → F' a) (hH : ∀ a, F a → H' a = H a) (hn : n ≤ n') (hr : ∀ k, k < n → rho' k = rho k) : ∀ {vs : List (Key × V)} {ds : List (D × D)}, RK G F rho n H vs ds → RK G F' rho' n' H' vs ds
  | _, _, .nil => .nil
  | _, _, .cons a t => .cons (a.mono hF hH hn hr) (RK.mono hF hH hn hr t)
theorem RF.mono (hF : ∀ a, F a → F' a) (hH : ∀ a, F a → H' a = H a) (hn : n ≤ n') (hr : ∀ k, k < n → rho' k = rho k) : ∀ {vs : List (Str × V)} {ds : List (Str × D)}, RF G F rho n H vs ds → RF G F' rho' n' H' vs ds
  | _, _, .nil => .nil
  | _, _, .cons a t => .cons (a.mono hF hH hn hr) (RF.mono hF hH hn hr t)
theorem Own.mono (hF : ∀ a, F a → F' a) (hH : ∀ a, F a → H' a = H a) (hn : n ≤ n') (hr : ∀ k, k < n → rho' k = rho k) {a : Addr} {d : D} (ha : H' a = H a) (h : Own G F rho n H a d) : Own G F' rho' n' H' a d := by
  cases d with
  | lst ds => obtain ⟨vs, h1, h2, h3⟩ := h; exact ⟨vs, ha.trans h1, h2, h3.mono hF hH hn hr⟩
  | dic ds => obtain ⟨vs, h1, h2, h3⟩ := h; exact ⟨vs, ha.trans h1, h2, h3.mono hF hH hn hr⟩
  | ins c fs => obtain ⟨dx, vs, h1, h3⟩ := h; exact ⟨dx, vs, ha.trans h1, h3.mono hF hH hn hr⟩
  | _ => exact h
theorem Own.there {a : Addr} {d : D} (h : Own G F rho n H a d) : H a ≠ none := by
  cases d with
  | lst ds => obtain ⟨vs, h1, _⟩ := h; rw [h1]; simp
  | dic ds => obtain ⟨vs, h1, _⟩ := h; rw [h1]; simp
  | ins c fs => obtain ⟨dx, vs, h1, _⟩ := h; rw [h1]; simp
  | _ => exact h.elim
/-- an own container becomes a value -/
theorem Own.frz {a : Addr} {d : D} (ha : F a) (h : Own G F rho n H a d) : R G F rho n H (.ref a) d := by
  cases d with
  | lst ds => obtain ⟨vs, h1, h2, h3⟩ := h; exact .lst ha h1 h2 h3
  | dic ds => obtain ⟨vs, h1, h2, h3⟩ := h; exact .dic ha h1 h2 h3
  | ins c fs => obtain ⟨dx, vs, h1, h3⟩ := h; exact .ins ha h1 h3
  | _ => exact h.elim
end

/-- a caught error: its field -/
def XV (G : GG) (F : Pr) (rho : Nat → Addr) (n : Nat) (H : Hp) (c : Nat) : Option D → Option Addr → Prop
  | none, none => True
  | some d, some p => ∃ f v, G.xn c = some f ∧ H p = some (.xd [(f, v)]) ∧ F p ∧ R G F rho n H v d
  | _, _ => False
theorem XV.mono {G : GG} {F F' : Pr} {rho rho' : Nat → Addr} {n n' : Nat} {H H' : Hp} {c : Nat} {x : Option D} {pn : Option Addr} (h : XV G F rho n H c x pn) (hF : ∀ a, F a → F' a) (hH : ∀ a, F a → H' a = H a) (hn : n ≤ n') (hr : ∀ k, k < n → rho' k = rho k) : XV G F' rho' n' H' c x pn := by
  cases x with
  | none => cases pn with
    | none => trivial
    | some p => exact h.elim
  | some d => cases pn with
    | none => exact h.elim
    | some p =>
      obtain ⟨f, v, h1, h2, h3, h4⟩ := h
      exact ⟨f, v, h1, (hH p h3).trans h2, hF p h3, h4.mono hF hH hn hr⟩
/-! ### the whole state -/
structure RelW (G : GG) (m : Fm) (w : Wd) (H : Hp) : Prop where
  cell : ∀ k d, w[k]? = some d → Own G m.F m.rho w.length H (m.rho k) d ∧ ¬ m.F (m.rho k) ∧ ¬ m.P (m.rho k)
  inj : ∀ j k, j < w.length → k < w.length → m.rho j = m.rho k → j = k
  allF : ∀ a, m.F a → H a ≠ none
  allP : ∀ a, m.P a → H a ≠ none
  FP : ∀ a, m.P a → ¬ m.F a
def RelS (G : GG) (m : Fm) (w : Wd) (H : Hp) (σ : L2.St) (i : Nat) : Slot → Prop
  | .un => True
  | .val d => ∃ v, σ[i]? = some (some v) ∧ R G m.F m.rho w.length H v d
  | .own d => σ[i]? = some (some (.ref (m.oa i))) ∧ Own G m.F m.rho w.length H (m.oa i) d ∧ ¬ m.F (m.oa i) ∧ ¬ m.P (m.oa i) ∧ ∀ k, k < w.length → m.oa i ≠ m.rho k
  | .exc c x => ∃ a pn, σ[i]? = some (some (.ref a)) ∧ G.zp a c pn ∧ XV G m.F m.rho w.length H c x pn
structure Rel (G : GG) (m : Fm) (e : Env) (w : Wd) (σ : L2.St) (H : Hp) : Prop extends RelW G m w H where
  len : σ.length = e.length
  sl : ∀ i s, e[i]? = some s → RelS G m w H σ i s
  oinj : ∀ i j d d', e[i]? = some (.own d) → e[j]? = some (.own d') → m.oa i = m.oa j → i = j
structure Ext (m : Fm) (w : Wd) (H : Hp) (m' : Fm) (w' : Wd) (H' : Hp) : Prop where
  P : m'.P = m.P
  F : ∀ a, m.F a → m'.F a
  aF : ∀ a, m.F a → H' a = H a
  aP : ∀ a, m.P a → H' a = H a
  wl : w.length ≤ w'.length
  rho : ∀ k, k < w.length → m'.rho k = m.rho k
  oa0 : m'.oa 0 = m.oa 0
theorem Ext.refl (m : Fm) (w : Wd) (H : Hp) : Ext m w H m w H := ⟨rfl, fun _ h => h, fun _ _ => rfl, fun _ _ => rfl, Nat.le_refl _, fun _ _ => rfl, rfl⟩
theorem Ext.trans {m1 m2 m3 : Fm} {w1 w2 w3 : Wd} {H1 H2 H3 : Hp} (a : Ext m1 w1 H1 m2 w2 H2) (b : Ext m2 w2 H2 m3 w3 H3) : Ext m1 w1 H1 m3 w3 H3 :=
  ⟨b.P.trans a.P, fun x h => b.F x (a.F x h), fun x h => (b.aF x (a.F x h)).trans (a.aF x h), fun x h => (b.aP x (by rw [a.P]; exact h)).trans (a.aP x h), Nat.le_trans a.wl b.wl,
    fun k h => (b.rho k (Nat.lt_of_lt_of_le h a.wl)).trans (a.rho k h), b.oa0.trans a.oa0⟩
section
variable {G : GG} {m m' : Fm} {w w' : Wd} {H H' : Hp} {σ : L2.St} {e : Env}
theorem R.ext (x : Ext m w H m' w' H') {v : V} {d : D} (h : R G m.F m.rho w.length H v d) : R G m'.F m'.rho w'.length H' v d := h.mono x.F x.aF x.wl x.rho
theorem RA.ext (x : Ext m w H m' w' H') {v : List V} {d : List D} (h : RA G m.F m.rho w.length H v d) : RA G m'.F m'.rho w'.length H' v d := h.mono x.F x.aF x.wl x.rho
/-- a fresh place is nobody's -/
theorem RelW.free (r : RelW G m w H) {p : Addr} (hp : H p = none) : ¬ m.F p ∧ ¬ m.P p ∧ ∀ k, k < w.length → m.rho k ≠ p :=
  ⟨fun h => r.allF _ h hp, fun h => r.allP _ h hp, fun k hk q => by
    obtain ⟨d, hd⟩ : ∃ d, w[k]? = some d := ⟨w[k], by simp [hk]⟩
    exact (r.cell k d hd).1.there (by rw [q]; exact hp)⟩
theorem Rel.oaNe (r : Rel G m e w σ H) {p : Addr} (hp : H p = none) {i : Nat} {d : D} (h : e[i]? = some (.own d)) : m.oa i ≠ p := fun q =>
  (r.sl i _ h).2.1.there (by rw [q]; exact hp)
/-- a new object, named by values from now on -/
def Fm.add (m : Fm) (p : Addr) : Fm := { m with F := fun a => a = p ∨ m.F a }
theorem Rel.new (r : Rel G m e w σ H) {p : Addr} (hp : H p = none) (o : HO) : Ext m w H (m.add p) w (upd H p o) ∧ Rel G (m.add p) e w σ (upd H p o) := by
  obtain ⟨f1, f2, f3⟩ := r.toRelW.free hp
  have hne : ∀ a, H a ≠ none → upd H p o a = H a := fun a h => upd_ne fun q => h (by rw [q]; exact hp)
  have hF : ∀ a, m.F a → (m.add p).F a := fun a h => .inr h
  have hH : ∀ a, m.F a → upd H p o a = H a := fun a h => hne a (r.allF a h)
  refine ⟨⟨rfl, hF, hH, fun a h => hne a (r.allP a h), Nat.le_refl _, fun _ _ => rfl, rfl⟩, ⟨⟨fun k d h => ?_, r.inj, fun a h => ?_, fun a h => ?_, fun a h q => ?_⟩, r.len, fun i s h => ?_, r.oinj⟩⟩
  · obtain ⟨h1, h2, h3⟩ := r.cell k d h
    refine ⟨h1.mono hF hH (Nat.le_refl _) (fun _ _ => rfl) (hne _ h1.there), fun q => ?_, h3⟩
    rcases q with q | q
    · exact f3 k (List.getElem?_eq_some_iff.mp h).1 q
    · exact h2 q
  · rcases h with rfl | h
    · rw [upd_same]; simp
    · rw [hH a h]; exact r.allF a h
  · rw [hne a (r.allP a h)]; exact r.allP a h
  · rcases q with rfl | q
    · exact f2 h
    · exact r.FP a h q
  · have q := r.sl i s h
    cases s with
    | un => trivial
    | val d =>
      obtain ⟨v, h1, h2⟩ := q
      exact ⟨v, h1, h2.mono hF hH (Nat.le_refl _) fun _ _ => rfl⟩
    | own d =>
      obtain ⟨h1, h2, h3, h4, h5⟩ := q
      refine ⟨h1, h2.mono hF hH (Nat.le_refl _) (fun _ _ => rfl) (hne _ h2.there), fun z => ?_, h4, h5⟩
      rcases z with z | z
      · exact r.oaNe hp h z
      · exact h3 z
    | exc c x =>
      obtain ⟨a0, pn, h1, h2, h3⟩ := q
      exact ⟨a0, pn, h1, h2, h3.mono hF hH (Nat.le_refl _) fun _ _ => rfl⟩
/-- a new object, nobody's yet -/
theorem Rel.lay (r : Rel G m e w σ H) {p : Addr} (hp : H p = none) (o : HO) : Ext m w H m w (upd H p o) ∧ Rel G m e w σ (upd H p o) := by
  obtain ⟨f1, f2, f3⟩ := r.toRelW.free hp
  have hne : ∀ a, H a ≠ none → upd H p o a = H a := fun a h => upd_ne fun q => h (by rw [q]; exact hp)
  have hF : ∀ a, m.F a → m.F a := fun a h => h
  have hH : ∀ a, m.F a → upd H p o a = H a := fun a h => hne a (r.allF a h)
  refine ⟨⟨rfl, hF, hH, fun a h => hne a (r.allP a h), Nat.le_refl _, fun _ _ => rfl, rfl⟩, ⟨⟨fun k d h => ?_, r.inj, fun a h => ?_, fun a h => ?_, fun a h q => ?_⟩, r.len, fun i s h => ?_, r.oinj⟩⟩
  · obtain ⟨h1, h2, h3⟩ := r.cell k d h
    exact ⟨h1.mono hF hH (Nat.le_refl _) (fun _ _ => rfl) (hne _ h1.there), h2, h3⟩
  · rw [hH a h]; exact r.allF a h
  · rw [hne a (r.allP a h)]; exact r.allP a h
  · exact r.FP a h q
  · have q := r.sl i s h
    cases s with
    | un => trivial
    | val d =>
      obtain ⟨v, h1, h2⟩ := q
      exact ⟨v, h1, h2.mono hF hH (Nat.le_refl _) fun _ _ => rfl⟩
    | own d =>
      obtain ⟨h1, h2, h3, h4, h5⟩ := q
      exact ⟨h1, h2.mono hF hH (Nat.le_refl _) (fun _ _ => rfl) (hne _ h2.there), h3, h4, h5⟩
    | exc c x =>
      obtain ⟨a0, pn, h1, h2, h3⟩ := q
      exact ⟨a0, pn, h1, h2, h3.mono hF hH (Nat.le_refl _) fun _ _ => rfl⟩
end
end Ev



set_option maxRecDepth 100000
set_option maxHeartbeats 4000000
/-! What an expression's reading is asked: that the machine gives something. -/
namespace Ev
open PySem PySem.Spec PyProof.Rows L2

theorem pe_weak {X : Cx} {e : Expr} {t t' : TE} (h : PE X e t) (hw : ∀ σ H Q, t' σ H Q → t σ H Q) : PE X e t' := ⟨fun pins s σ H Q I q => h.run pins s σ H Q I (hw σ H Q q)⟩
theorem pt_weak {X : Cx} {e : Expr} {t t' : TT} (h : PT X e t) (hw : ∀ σ H Q, t' σ H Q → t σ H Q) : PT X e t' := ⟨fun pins s σ H Q I q => h.run pins s σ H Q I (hw σ H Q q)⟩
theorem pw_weak {X : Cx} {e : Expr} {t t' : TT} (h : PW X e t) (hw : ∀ σ H Q, t' σ H Q → t σ H Q) : PW X e t' := ⟨fun wh pins s σ H Q I q => h.run wh pins s σ H Q I (hw σ H Q q)⟩
theorem pa_weak {X : Cx} {e : List Expr} {t t' : TA} (h : PA X e t) (hw : ∀ σ H Q, t' σ H Q → t σ H Q) : PA X e t' := ⟨fun pos pins s σ H Q I q => h.run pos pins s σ H Q I (hw σ H Q q)⟩

/-- an error as the layer tells it: its class, its own dict -/
def XAt (G : GG) (xf : Nat → Option Str) (m : Fm) (w : Wd) (H : Hp) (c : Nat) : Option D → Option Addr → Prop
  | none, none => True
  | some d, some p => ∃ f v, xf c = some f ∧ H p = some (.xd [(f, v)]) ∧ m.F p ∧ R G m.F m.rho w.length H v d
  | _, _ => False
section
variable (G : GG) (xf : Nat → Option Str) (Wx : L2.WX)
def PostE {α β : Type} (m : Fm) (w : Wd) (H : Hp) (e : Env) (σ : L2.St) (Rl : Fm → Wd → Hp → β → α → Prop) (Q : β → Hp → Prop) : Rs α → Prop
  | .ok d w' => ∀ v m' H', Ext m w H m' w' H' → Rel G m' e w' σ H' → Rl m' w' H' v d → Q v H'
  | .exc c x w' => ∀ pn m' H', Ext m w H m' w' H' → Rel G m' e w' σ H' → XAt G xf m' w' H' c x pn → Wx (.ref (G.cl c)) pn σ H'
  | .stk => False
/-- a value -/
def RR : Fm → Wd → Hp → V → D → Prop := fun m w H v d => R G m.F m.rho w.length H v d
def RRs : Fm → Wd → Hp → List V → List D → Prop := fun m w H v d => RA G m.F m.rho w.length H v d
/-- a value, or the content of an own slot -/
def RX (e : Env) (σ : L2.St) (x : X) : Fm → Wd → Hp → V → D → Prop := fun m w H v d => if ownV e x = true then ∃ i, x = .v i ∧ e[i]? = some (.own d) ∧ σ[i]? = some (some v) else R G m.F m.rho w.length H v d
def RB : Fm → Wd → Hp → Bool → Bool → Prop := fun _ _ _ v d => v = d
def TB (C : Cfg) (x : X) : TE := fun σ H Q => ∃ m e w, Rel G m e w σ H ∧ PostE G xf Wx m w H e σ (RX G e σ x) Q (ev C x e w)
def TN (C : Cfg) (x : X) : TE := fun σ H Q => ∃ m e w, Rel G m e w σ H ∧ PostE G xf Wx m w H e σ (RR G) Q (nb e x (ev C x e) w)
def TT' (C : Cfg) (x : X) : TT := fun σ H Q => ∃ m e w, Rel G m e w σ H ∧ PostE G xf Wx m w H e σ RB Q (tst (ev C x e) w)
def TS' (C : Cfg) (x : Xs) : TA := fun σ H Q => ∃ m e w, Rel G m e w σ H ∧ PostE G xf Wx m w H e σ (RRs G) Q (evs C x e w)
end
section
variable {G : GG} {xf : Nat → Option Str} {Wx : L2.WX} {m m1 : Fm} {w w1 : Wd} {H H1 : Hp} {e : Env} {σ : L2.St} {C : Cfg} {x : X}
theorem PostE.shift {α β : Type} {Rl : Fm → Wd → Hp → β → α → Prop} {Q : β → Hp → Prop} {r : Rs α} (h : PostE G xf Wx m w H e σ Rl Q r) (xt : Ext m w H m1 w1 H1) : PostE G xf Wx m1 w1 H1 e σ Rl Q r := by
  cases r with
  | ok d w' => exact fun v m' H' x r y => h v m' H' (xt.trans x) r y
  | exc c x w' => exact fun pn m' H' x r y => h pn m' H' (xt.trans x) r y
  | stk => exact h
theorem PostE.step {α β α' β' : Type} {Rl : Fm → Wd → Hp → β → α → Prop} {Rl1 : Fm → Wd → Hp → β' → α' → Prop} {Q : β → Hp → Prop} {Q1 : β' → Hp → Prop} {r : M α'} {k : α' → M α} (h : PostE G xf Wx m w H e σ Rl Q ((r >>= k) w))
    (hk : ∀ d w1 v m1 H1, Ext m w H m1 w1 H1 → Rel G m1 e w1 σ H1 → Rl1 m1 w1 H1 v d → PostE G xf Wx m1 w1 H1 e σ Rl Q (k d w1) → Q1 v H1) : PostE G xf Wx m w H e σ Rl1 Q1 (r w) := by
  rw [bind_def] at h
  cases q : r w with
  | ok d w' =>
    rw [q] at h
    exact fun v m' H' x r y => hk d w' v m' H' x r y (h.shift x)
  | exc c x w' =>
    rw [q] at h
    exact h
  | stk =>
    rw [q] at h
    exact h
theorem PostE.val {α β : Type} {Rl : Fm → Wd → Hp → β → α → Prop} {Q : β → Hp → Prop} {d : α} {v : β} (h : PostE G xf Wx m w H e σ Rl Q ((pure d : M α) w)) (r : Rel G m e w σ H) (y : Rl m w H v d) : Q v H := h v m H (.refl _ _ _) r y
theorem PostE.stk_elim {α β : Type} {Rl : Fm → Wd → Hp → β → α → Prop} {Q : β → Hp → Prop} (h : PostE G xf Wx m w H e σ Rl Q ((stk : M α) w)) {P : Prop} : P := False.elim h
theorem PostE.new {Q : VK} {d : D} {p : Addr} {o : HO} (h : PostE G xf Wx m w H e σ (RR G) Q ((pure d : M D) w)) (r : Rel G m e w σ H) (hp : H p = none)
    (y : Rel G (m.add p) e w σ (upd H p o) → RR G (m.add p) w (upd H p o) (.ref p) d) : Q (.ref p) (upd H p o) := by
  obtain ⟨x, r'⟩ := r.new hp o
  exact h _ _ _ x r' (y r')
theorem PostE.newX {Q : VK} {d : D} {p : Addr} {o : HO} (hx : ownV e x = false) (h : PostE G xf Wx m w H e σ (RX G e σ x) Q ((pure d : M D) w)) (r : Rel G m e w σ H) (hp : H p = none)
    (y : Rel G (m.add p) e w σ (upd H p o) → RR G (m.add p) w (upd H p o) (.ref p) d) : Q (.ref p) (upd H p o) := by
  obtain ⟨xt, r'⟩ := r.new hp o
  refine h _ _ _ xt r' ?_
  show (if ownV e x = true then _ else _)
  rw [if_neg (by rw [hx]; exact Bool.false_ne_true)]
  exact y r'
theorem PostE.grd {β : Type} {Rl : Fm → Wd → Hp → β → D → Prop} {Q : β → Hp → Prop} {p : Prop} [Decidable p] {k : M D} (h : PostE G xf Wx m w H e σ Rl Q (grd p k w)) : p ∧ PostE G xf Wx m w H e σ Rl Q (k w) := by
  unfold Ev.grd at h
  by_cases hp : p
  · rw [if_pos hp] at h; exact ⟨hp, h⟩
  · rw [if_neg hp] at h; exact h.stk_elim
theorem RX.of (h : ownV e x = false) {v : V} {d : D} : RX G e σ x m w H v d ↔ R G m.F m.rho w.length H v d := by
  unfold RX
  rw [if_neg (by rw [h]; exact Bool.false_ne_true)]
theorem PostE.rx (h : ownV e x = false) {Q : VK} {r : Rs D} : PostE G xf Wx m w H e σ (RX G e σ x) Q r ↔ PostE G xf Wx m w H e σ (RR G) Q r := by
  cases r with
  | ok d w' => exact ⟨fun q v m' H' a b c => q v m' H' a b ((RX.of h).mpr c), fun q v m' H' a b c => q v m' H' a b ((RX.of h).mp c)⟩
  | exc c x w' => exact Iff.rfl
  | stk => exact Iff.rfl
/-- what must not be an own slot's name -/
theorem tn_of {X : Cx} {ex : Expr} (h : PE X ex (TB G xf Wx C x)) : PE X ex (TN G xf Wx C x) := pe_weak h fun σ H Q ⟨m, e, w, r, q⟩ => by
  refine ⟨m, e, w, r, ?_⟩
  unfold nb at q
  by_cases ho : ownV e x = true
  · rw [if_pos ho] at q; exact q.stk_elim
  · rw [if_neg ho] at q
    exact (PostE.rx (by simpa using ho)).mpr q
theorem nb_post {β : Type} {Rl : Fm → Wd → Hp → β → D → Prop} {Q : β → Hp → Prop} {k : M D} (h : PostE G xf Wx m w H e σ Rl Q (nb e x k w)) : ownV e x = false ∧ PostE G xf Wx m w H e σ Rl Q (k w) := by
  unfold nb at h
  by_cases ho : ownV e x = true
  · rw [if_pos ho] at h; exact h.stk_elim
  · rw [if_neg ho] at h; exact ⟨by simpa using ho, h⟩
theorem RX.mono {m' : Fm} {w' : Wd} {H' : Hp} (xt : Ext m w H m' w' H') {v : V} {d : D} (h : RX G e σ x m w H v d) : RX G e σ x m' w' H' v d := by
  unfold RX at h ⊢
  by_cases ho : ownV e x = true
  · rw [if_pos ho] at h ⊢; exact h
  · rw [if_neg ho] at h ⊢; exact h.ext xt
/-! ### views -/
theorem RX.own (r : Rel G m e w σ H) {v : V} {d : D} (h : RX G e σ x m w H v d) : R G m.F m.rho w.length H v d ∨ ∃ a, v = .ref a ∧ Own G m.F m.rho w.length H a d := by
  unfold RX at h
  by_cases ho : ownV e x = true
  · rw [if_pos ho] at h
    obtain ⟨i, _, h1, h2⟩ := h
    obtain ⟨h3, h4, _⟩ := r.sl i _ h1
    rw [h3] at h2
    cases h2
    exact .inr ⟨_, rfl, h4⟩
  · rw [if_neg ho] at h
    exact .inl h
theorem RX.int (r : Rel G m e w σ H) {v : V} {i : Int} (h : RX G e σ x m w H v (.int i)) : v = .int i := by
  rcases h.own r with h | ⟨a, _, h⟩
  · cases h; rfl
  · exact h.elim
theorem RX.bl (r : Rel G m e w σ H) {v : V} {i : Bool} (h : RX G e σ x m w H v (.bl i)) : v = .bl i := by
  rcases h.own r with h | ⟨a, _, h⟩
  · cases h; rfl
  · exact h.elim
theorem RX.str (r : Rel G m e w σ H) {v : V} {i : Str} (h : RX G e σ x m w H v (.str i)) : v = .str i := by
  rcases h.own r with h | ⟨a, _, h⟩
  · cases h; rfl
  · exact h.elim
theorem RX.non (r : Rel G m e w σ H) {v : V} (h : RX G e σ x m w H v .non) : v = .non := by
  rcases h.own r with h | ⟨a, _, h⟩
  · cases h; rfl
  · exact h.elim
theorem RX.tup (r : Rel G m e w σ H) {v : V} {ds : List D} (h : RX G e σ x m w H v (.tup ds)) : ∃ a vs, v = .ref a ∧ TupAt G m.F H a vs ∧ vs.length ≤ SZ ∧ RA G m.F m.rho w.length H vs ds := by
  rcases h.own r with h | ⟨a, _, h⟩
  · cases h with
    | tup a b c => exact ⟨_, _, rfl, a, b, c⟩
  · exact h.elim
theorem RX.lst (r : Rel G m e w σ H) {v : V} {ds : List D} (h : RX G e σ x m w H v (.lst ds)) : ∃ a vs, v = .ref a ∧ H a = some (.lst vs) ∧ vs.length ≤ SZ ∧ RA G m.F m.rho w.length H vs ds := by
  rcases h.own r with h | ⟨a, e1, h⟩
  · cases h with
    | lst _ a b c => exact ⟨_, _, rfl, a, b, c⟩
  · obtain ⟨vs, h1, h2, h3⟩ := h
    exact ⟨a, vs, e1, h1, h2, h3⟩
theorem RX.dic (r : Rel G m e w σ H) {v : V} {ds : List (D × D)} (h : RX G e σ x m w H v (.dic ds)) : ∃ a vs, v = .ref a ∧ H a = some (.dK vs) ∧ vs.length ≤ SZ ∧ RK G m.F m.rho w.length H vs ds := by
  rcases h.own r with h | ⟨a, e1, h⟩
  · cases h with
    | dic _ a b c => exact ⟨_, _, rfl, a, b, c⟩
  · obtain ⟨vs, h1, h2, h3⟩ := h
    exact ⟨a, vs, e1, h1, h2, h3⟩
theorem RX.ins (r : Rel G m e w σ H) {v : V} {c : Nat} {fs : List (Str × D)} (h : RX G e σ x m w H v (.ins c fs)) : ∃ a dx vs, v = .ref a ∧ H a = some (.ins (G.cl c) dx vs) ∧ RF G m.F m.rho w.length H vs fs := by
  rcases h.own r with h | ⟨a, e1, h⟩
  · cases h with
    | ins _ a b => exact ⟨_, _, _, rfl, a, b⟩
  · obtain ⟨dx, vs, h1, h3⟩ := h
    exact ⟨a, dx, vs, e1, h1, h3⟩
theorem RX.cel (r : Rel G m e w σ H) {v : V} {k : Nat} (h : RX G e σ x m w H v (.cel k)) : k < w.length ∧ v = .ref (m.rho k) := by
  rcases h.own r with h | ⟨a, _, h⟩
  · cases h with
    | cel a => exact ⟨a, rfl⟩
  · exact h.elim
theorem RX.fn (r : Rel G m e w σ H) {v : V} {k : Nat} (h : RX G e σ x m w H v (.fn k)) : v = .ref (G.fa k) := by
  rcases h.own r with h | ⟨a, _, h⟩
  · cases h; rfl
  · exact h.elim
theorem RX.scr (r : Rel G m e w σ H) {v : V} {ns : List Int} (h : RX G e σ x m w H v (.scr ns)) : ∃ a, v = .ref a ∧ SqL G.K H a (ns.map V.int) ∧ ns.length ≤ SZ := by
  rcases h.own r with h | ⟨a, _, h⟩
  · cases h with
    | scr _ a b => exact ⟨_, rfl, .inl (.inr ⟨_, a⟩), b⟩
    | scrK a b => exact ⟨_, rfl, .inr a, b⟩
  · exact h.elim
end
end Ev

set_option maxRecDepth 100000
set_option maxHeartbeats 4000000
/-! Expressions, one by one: the machine's term is a reading of the Python. -/
namespace Ev
open PySem PySem.Spec PyProof.Rows L2

theorem SZ_eq : (SZ : Nat) = sizeLine := by rw [sizeLine_eq]
theorem flat_len {α : Type} (xs : List α) : ∀ k : Nat, (List.replicate k xs).flatten.length = k * xs.length
  | 0 => by simp
  | k + 1 => by rw [List.replicate_succ, List.flatten_cons, List.length_append, flat_len xs k, Nat.add_mul, Nat.one_mul, Nat.add_comm]
theorem tuple_mulOne (l : Addr) (items : Array Value) (n : Nat) (sl : Array (Option Value)) (dd : Option Addr) (u : Tok) :
    Meets (Builtin.«tuple.__mul__» ⟨[.ref l, .int 1 u], []⟩) (fun _ R s => s.heap.get? l = some { cls := .type "tuple", dict := dd, data := .seq items n, slots := sl } ∧ R (.ok (.ret (Value.ref l))) s) :=
  .of_wp fun prog w A R s h => by
    obtain ⟨hp, g, d, tk, os⟩ := s
    obtain ⟨hl, h⟩ := h
    have f1 := AutoSeq1.idx_int
    wp_walk using wpAny_loadPart' hl
    exact ⟨_, rfl, h⟩
/-- t * 1 is t -/
theorem op_rep1 {X : Cx} : OpR X (binaryOp .Mult) (fun x y H Q => ∃ l xs, x = .ref l ∧ y = .int 1 ∧ SqT X.K H l xs ∧ xs ≠ [] ∧ Q (.ref l) H) := by
  intro pins s σ H x y v u Q I rx ry h
  obtain ⟨l, xs, rfl, rfl, hT, hne, q⟩ := h
  cases rx
  obtain ⟨t, rfl⟩ := ry
  obtain ⟨its, r, ⟨⟨cls, dd, data, sl⟩, ho, hc, n, hd⟩, hs⟩ := I.tuple hT
  simp only at hc hd
  subst hc hd
  refine wpAny_binaryOp_repeat_ref (T := "tuple") (U := "int") (by decide) ⟨_, ho, rfl⟩ (fun s' => typeIs_int s' 1 t) noFill_tuple_mul F.fills_int_mul F.slot_int_rmul repeat_tuple F.slot_int_index.lookup
    (call_meets F.slot_int_rmul (typeIs_int s 1 t) F.entry_int_rmul (F.args_int_rmul_2 _ _) (int_rmul_tuple 1 t l its.toArray n dd sl)
      ⟨ho, rfl, ⟨_, ho, rfl⟩, call_meets F.slot_tuple_mul ⟨_, ho, rfl⟩ F.entry_tuple_mul (F.args_tuple_mul_2 _ _) (tuple_mulOne l its.toArray n sl dd t) ⟨ho, ?_⟩⟩)
  exact ⟨.ref l, H, I, rfl, q⟩
section
variable {G : GG} {xf : Nat → Option Str} {Wx : L2.WX} {m m1 : Fm} {w w1 : Wd} {H H1 : Hp} {e : Env} {σ : L2.St} {C : Cfg} {X : Cx} {pos : Pos}

/-! ### constants, names -/
def litD : Const → D → Bool
  | .none, .non => true
  | .bool b, .bl c => b == c
  | .int i, .int j => decide (i = j)
  | .str x, .str y => decide (x = y)
  | _, _ => false
theorem c_lit {c : Const} {j : Nat} {d : D} (h : litD c d = true) : PE X (.Constant c j pos) (TB G xf Wx C (.k d)) := by
  have fin : ∀ v : V, (∀ F rho n H, R G F rho n H v d) → ∀ σ H Q, TB G xf Wx C (.k d) σ H Q → tC v σ H Q := fun v hv σ H Q ⟨m, e, w, r, q⟩ => by
    have q' : PostE G xf Wx m w H e σ (RX G e σ (.k d)) Q ((pure d : M D) w) := by rw [← show ev C (.k d) e = (pure d : M D) from by rw [ev]]; exact q
    exact q'.val r ((RX.of rfl).mpr (hv _ _ _ _))
  cases c <;> cases d <;> simp only [litD] at h <;> first | cases h | skip
  · exact pe_weak pe_non (fin .non fun _ _ _ _ => .non)
  · have e := eq_of_beq h; subst e; exact pe_weak pe_bl (fin (.bl _) fun _ _ _ _ => .bl _)
  · have e := of_decide_eq_true h; subst e; exact pe_weak pe_int (fin (.int _) fun _ _ _ _ => .int _)
  · have e := of_decide_eq_true h; subst e; exact pe_weak pe_str (fin (.str _) fun _ _ _ _ => .str _)
theorem getV_post {i : Nat} {Q : VK} (r : Rel G m e w σ H) (h : PostE G xf Wx m w H e σ (RX G e σ (.v i)) Q (getV e i w)) : ∃ v, σ[i]? = some (some v) ∧ Q v H := by
  unfold getV at h
  cases q : e[i]? with
  | none => rw [q] at h; exact h.stk_elim
  | some s =>
    rw [q] at h
    have rs := r.sl i s q
    cases s with
    | un => exact h.stk_elim
    | val d =>
      obtain ⟨v, h1, h2⟩ := rs
      refine ⟨v, h1, h.val r ((RX.of ?_).mpr h2)⟩
      show (match e[i]? with | some (.own _) => true | _ => false) = false
      rw [q]
    | own d =>
      obtain ⟨h1, h2, _⟩ := rs
      refine ⟨_, h1, h.val r ?_⟩
      unfold RX
      rw [if_pos (by show (match e[i]? with | some (.own _) => true | _ => false) = true; rw [q])]
      exact ⟨i, rfl, q, h1⟩
    | exc c x => exact h.stk_elim
theorem c_var {i : Nat} {x : Str} (hN : X.N[i]? = some x) (hv : Vis X.env.scope x) (hd : (x == ("__debug__" : Str)) = false) (hcd : (x == ("__classdict__" : Str)) = false) : PE X (.Name x pos) (TB G xf Wx C (.v i)) :=
  pe_weak (pe_var hN hv hd hcd) fun σ H Q ⟨m, e, w, r, q⟩ => getV_post r (by rw [ev] at q; exact q)
theorem c_glob {j : Nat} {x : Str} {v : V} {u : Value} {d : D} (hg : Gl X x) (hm : X.mg x = some u) (hr : RelV v u) (hd : C.gs[j]? = some d) (hR : ∀ F rho n H, R G F rho n H v d) (hdb : (x == ("__debug__" : Str)) = false) : PE X (.Name x pos) (TB G xf Wx C (.g j)) :=
  pe_weak (pe_glob hg hm hr hdb) fun σ H Q ⟨m, e, w, r, q⟩ => by
    rw [ev, hd] at q
    exact PostE.val (d := d) (by exact q) r ((RX.of rfl).mpr (hR _ _ _ _))

/-! ### displays -/
theorem c_nil : PA X [] (TS' G xf Wx C .nil) := pa_weak pa_nil fun σ H Q ⟨m, e, w, r, q⟩ => by
  rw [evs] at q
  exact PostE.val (d := []) q r .nil
theorem c_cons {a : Expr} {as : List Expr} {x : Ev.X} {xs : Xs} (ha : PE X a (TB G xf Wx C x)) (hs : PA X as (TS' G xf Wx C xs)) (hst : starEach (a :: as) X.env = (false, eval a X.env) :: starEach as X.env) : PA X (a :: as) (TS' G xf Wx C (.cons x xs)) :=
  pa_weak (pa_cons (tn_of ha) hs hst) fun σ H Q ⟨m, e, w, r, q⟩ => by
    rw [evs] at q
    refine ⟨m, e, w, r, q.step fun d w1 v m1 H1 x1 r1 y1 q1 => ⟨m1, e, w1, r1, q1.step fun ds w2 vs m2 H2 x2 r2 y2 q2 => ?_⟩⟩
    exact PostE.val (d := d :: ds) q2 r2 (.cons (R.ext x2 y1) y2)
theorem c_tup {es : List Expr} {xs : Xs} {x1 : Nat} (h : PA X es (TS' G xf Wx C xs)) : PE X (.Tuple es x1 pos) (TB G xf Wx C (.tup xs)) :=
  pe_weak (pe_tup h) fun σ H Q ⟨m, e, w, r, q⟩ => by
    rw [ev] at q
    refine ⟨m, e, w, r, q.step fun ds w1 vs m1 H1 x1 r1 y1 q1 => ?_⟩
    obtain ⟨hl, q1⟩ := q1.grd
    have hl' : vs.length ≤ SZ := by rw [RA.length y1]; exact hl
    refine ⟨by rw [← SZ_eq]; exact hl', fun p hp => q1.newX rfl r1 hp fun r2 => ?_⟩
    exact .tup (.inl ⟨.inl rfl, upd_same⟩) hl' (RA.ext (r1.new hp (.tup vs)).1 y1)
theorem c_lst {es : List Expr} {xs : Xs} (h : PA X es (TS' G xf Wx C xs)) : PE X (.List es pos) (TB G xf Wx C (.lst xs)) :=
  pe_weak (pe_lst h) fun σ H Q ⟨m, e, w, r, q⟩ => by
    rw [ev] at q
    refine ⟨m, e, w, r, q.step fun ds w1 vs m1 H1 x1 r1 y1 q1 => ?_⟩
    obtain ⟨hl, q1⟩ := q1.grd
    have hl' : vs.length ≤ SZ := by rw [RA.length y1]; exact hl
    refine ⟨by rw [← SZ_eq]; exact hl', fun p hp => q1.newX rfl r1 hp fun r2 => ?_⟩
    exact .lst (.inl rfl) upd_same hl' (RA.ext (r1.new hp (.lst vs)).1 y1)

/-! ### operators -/
/-- two operands, then what the operator gives -/
theorem two {a b : Ev.X} {x : Ev.X} {ta tb : TE} {k : D → D → M D} {Q : VK} {r2 : R2} (r : Rel G m e w σ H) (q : PostE G xf Wx m w H e σ (RX G e σ x) Q ((ev C a e >>= fun d => ev C b e >>= fun d' => k d d') w))
    (h : ∀ d d' u v m2 w2 H2, Rel G m2 e w2 σ H2 → RX G e σ a m2 w2 H2 u d → RX G e σ b m2 w2 H2 v d' → PostE G xf Wx m2 w2 H2 e σ (RX G e σ x) Q (k d d' w2) → r2 u v H2 Q) :
    TB G xf Wx C a σ H fun u H1 => TB G xf Wx C b σ H1 fun v H2 => r2 u v H2 Q :=
  ⟨m, e, w, r, q.step fun d w1 u m1 H1 x1 r1 y1 q1 => ⟨m1, e, w1, r1, q1.step fun d' w2 v m2 H2 x2 r2 y2 q2 => h d d' u v m2 w2 H2 r2 (y1.mono x2) y2 q2⟩⟩
def rAdd (K : PySem.W.Frag) : R2 := fun x y H Q => rI0 (fun i j => .int (i + j)) x y H Q ∨ (∃ i j, x = .str i ∧ y = .str j ∧ i.length + j.length ≤ sizeLine ∧ Q (.str (i ++ j)) H) ∨ rCatA K x y H Q ∨ rCat x y H Q
theorem op_addA : OpR X (binaryOp .Add) (rAdd X.K) := op_add.or (op_add_str.or (op_catA.or op_cat))
theorem c_add {ea eb : Expr} {a b : Ev.X} (hK : X.K = G.K) (ha : PE X ea (TB G xf Wx C a)) (hb : PE X eb (TB G xf Wx C b)) : PE X (.BinOp ea .Add eb pos) (TB G xf Wx C (.bin .add a b)) :=
  pe_weak (pe_op op_addA ha hb) fun σ H Q ⟨m, e, w, r, q⟩ => by
    rw [ev] at q
    refine two (r2 := rAdd X.K) (ta := fun _ _ _ => True) (tb := fun _ _ _ => True) r q fun d d' u v m2 w2 H2 r2 y1 y2 q2 => ?_
    cases d <;> cases d' <;> simp only [binop] at q2 <;> first | exact q2.stk_elim | skip
    · rw [y1.int r2, y2.int r2]
      exact .inl ⟨_, _, rfl, rfl, q2.val r2 ((RX.of rfl).mpr (.int _))⟩
    · obtain ⟨hl, q2⟩ := q2.grd
      rw [y1.str r2, y2.str r2]
      exact .inr (.inl ⟨_, _, rfl, rfl, by rw [← SZ_eq]; exact hl, q2.val r2 ((RX.of rfl).mpr (.str _))⟩)
    · obtain ⟨hl, q2⟩ := q2.grd
      obtain ⟨a1, vs, rfl, t1, l1, z1⟩ := y1.tup r2
      obtain ⟨a2, us, rfl, t2, l2, z2⟩ := y2.tup r2
      have e1 := z1.length
      have e2 := z2.length
      refine .inr (.inr (.inl ⟨a1, a2, vs, us, rfl, rfl, by rw [hK]; exact t1.sq, by rw [hK]; exact t2.sq, by rw [e1, e2, ← SZ_eq]; exact hl, fun z => ?_, fun _ z => ?_, fun _ _ p hp => ?_⟩))
      · subst z
        cases z1
        exact q2.val r2 ((RX.of rfl).mpr (.tup t2 l2 z2))
      · subst z
        cases z2
        refine q2.val r2 ((RX.of rfl).mpr ?_)
        rw [List.append_nil]
        exact .tup t1 l1 z1
      · refine q2.newX rfl r2 hp fun r3 => ?_
        exact .tup (.inl ⟨.inl rfl, upd_same⟩) (by rw [List.length_append, e1, e2]; exact hl) (RA.ext (r2.new hp _).1 (z1.append z2))
    · obtain ⟨hl, q2⟩ := q2.grd
      obtain ⟨a1, vs, rfl, t1, l1, z1⟩ := y1.lst r2
      obtain ⟨a2, us, rfl, t2, l2, z2⟩ := y2.lst r2
      have e1 := z1.length
      have e2 := z2.length
      refine .inr (.inr (.inr ⟨a1, a2, vs, us, rfl, rfl, t1, t2, by rw [e1, e2, ← SZ_eq]; exact hl, fun p hp => ?_⟩))
      refine q2.newX rfl r2 hp fun r3 => ?_
      exact .lst (.inl rfl) upd_same (by rw [List.length_append, e1, e2]; exact hl) (RA.ext (r2.new hp _).1 (z1.append z2))
def rMul (K : PySem.W.Frag) : R2 := fun x y H Q => rI CMul (fun i j => .int (i * j)) x y H Q ∨ (∃ l xs, x = .ref l ∧ y = .int 1 ∧ SqT K H l xs ∧ xs ≠ [] ∧ Q (.ref l) H) ∨ rRepT K x y H Q ∨ rRep x y H Q
theorem op_mulA : OpR X (binaryOp .Mult) (rMul X.K) := op_mul.or (op_rep1.or (op_repT.or op_rep))
theorem c_mul {ea eb : Expr} {a b : Ev.X} (hK : X.K = G.K) (ha : PE X ea (TB G xf Wx C a)) (hb : PE X eb (TB G xf Wx C b)) : PE X (.BinOp ea .Mult eb pos) (TB G xf Wx C (.bin .mul a b)) :=
  pe_weak (pe_op op_mulA ha hb) fun σ H Q ⟨m, e, w, r, q⟩ => by
    rw [ev] at q
    refine two (r2 := rMul X.K) (ta := fun _ _ _ => True) (tb := fun _ _ _ => True) r q fun d d' u v m2 w2 H2 r2 y1 y2 q2 => ?_
    cases d <;> cases d' <;> simp only [binop] at q2 <;> first | exact q2.stk_elim | skip
    · obtain ⟨hl, q2⟩ := q2.grd
      rw [y1.int r2, y2.int r2]
      exact .inl ⟨_, _, rfl, rfl, hl, q2.val r2 ((RX.of rfl).mpr (.int _))⟩
    · rename_i xs k
      obtain ⟨⟨h0, h1, h2, h3⟩, q2⟩ := q2.grd
      obtain ⟨a1, vs, rfl, t1, l1, z1⟩ := y1.tup r2
      rw [y2.int r2]
      have e1 := z1.length
      have hne : vs ≠ [] := fun z => h0 (by subst z; cases z1; rfl)
      by_cases hk : k = 1
      · subst hk
        refine .inr (.inl ⟨a1, vs, rfl, rfl, by rw [hK]; exact t1.sq, hne, q2.val r2 ((RX.of rfl).mpr ?_)⟩)
        rw [show (List.replicate (1 : Int).toNat xs).flatten = xs by simp [List.replicate]]
        exact .tup t1 l1 z1
      · refine .inr (.inr (.inl ⟨a1, k, vs, rfl, rfl, by rw [hK]; exact t1.sq, hne, by omega, h2, by rw [e1]; exact h3, fun p hp => ?_⟩))
        refine q2.newX rfl r2 hp fun r3 => ?_
        refine .tup (.inl ⟨.inl rfl, upd_same⟩) ?_ (RA.ext (r2.new hp _).1 (z1.flat _))
        rw [flat_len, e1]
        have : k.toNat ≤ 1000 := by omega
        calc k.toNat * xs.length ≤ 1000 * 1000 := Nat.mul_le_mul this h3
          _ ≤ SZ := by decide
    · rename_i xs k
      obtain ⟨⟨h0, h1, h2⟩, q2⟩ := q2.grd
      obtain ⟨a1, vs, rfl, t1, l1, z1⟩ := y1.lst r2
      rw [y2.int r2]
      have e1 := z1.length
      refine .inr (.inr (.inr ⟨a1, k, vs, rfl, rfl, t1, h0, h1, by rw [e1, ← SZ_eq]; exact h2, fun p hp => ?_⟩))
      refine q2.newX rfl r2 hp fun r3 => ?_
      refine .lst (.inl rfl) upd_same ?_ (RA.ext (r2.new hp _).1 (z1.flat _))
      rw [flat_len, e1, Nat.mul_comm]
      exact h2
theorem c_sub {ea eb : Expr} {a b : Ev.X} (ha : PE X ea (TB G xf Wx C a)) (hb : PE X eb (TB G xf Wx C b)) : PE X (.BinOp ea .Sub eb pos) (TB G xf Wx C (.bin .sub a b)) :=
  pe_weak (pe_op op_sub ha hb) fun σ H Q ⟨m, e, w, r, q⟩ => by
    rw [ev] at q
    refine two (r2 := rI0 fun i j => .int (i - j)) (ta := fun _ _ _ => True) (tb := fun _ _ _ => True) r q fun d d' u v m2 w2 H2 r2 y1 y2 q2 => ?_
    cases d <;> cases d' <;> simp only [binop] at q2 <;> first | exact q2.stk_elim | skip
    rw [y1.int r2, y2.int r2]
    exact ⟨_, _, rfl, rfl, q2.val r2 ((RX.of rfl).mpr (.int _))⟩
theorem c_fdv {ea eb : Expr} {a b : Ev.X} (ha : PE X ea (TB G xf Wx C a)) (hb : PE X eb (TB G xf Wx C b)) : PE X (.BinOp ea .FloorDiv eb pos) (TB G xf Wx C (.bin .fdv a b)) :=
  pe_weak (pe_op op_fdiv ha hb) fun σ H Q ⟨m, e, w, r, q⟩ => by
    rw [ev] at q
    refine two (r2 := rI CDiv fun i j => .int (i / j)) (ta := fun _ _ _ => True) (tb := fun _ _ _ => True) r q fun d d' u v m2 w2 H2 r2 y1 y2 q2 => ?_
    cases d <;> cases d' <;> simp only [binop] at q2 <;> first | exact q2.stk_elim | skip
    obtain ⟨hl, q2⟩ := q2.grd
    rw [y1.int r2, y2.int r2]
    exact ⟨_, _, rfl, rfl, hl, q2.val r2 ((RX.of rfl).mpr (.int _))⟩
theorem c_mod {ea eb : Expr} {a b : Ev.X} (ha : PE X ea (TB G xf Wx C a)) (hb : PE X eb (TB G xf Wx C b)) : PE X (.BinOp ea .Mod eb pos) (TB G xf Wx C (.bin .mod a b)) :=
  pe_weak (pe_op op_mod ha hb) fun σ H Q ⟨m, e, w, r, q⟩ => by
    rw [ev] at q
    refine two (r2 := rI (fun _ j => 0 < j) fun i j => .int (i % j)) (ta := fun _ _ _ => True) (tb := fun _ _ _ => True) r q fun d d' u v m2 w2 H2 r2 y1 y2 q2 => ?_
    cases d <;> cases d' <;> simp only [binop] at q2 <;> first | exact q2.stk_elim | skip
    obtain ⟨hl, q2⟩ := q2.grd
    rw [y1.int r2, y2.int r2]
    exact ⟨_, _, rfl, rfl, hl, q2.val r2 ((RX.of rfl).mpr (.int _))⟩
theorem c_pow {ea eb : Expr} {a b : Ev.X} (ha : PE X ea (TB G xf Wx C a)) (hb : PE X eb (TB G xf Wx C b)) : PE X (.BinOp ea .Pow eb pos) (TB G xf Wx C (.bin .pow a b)) :=
  pe_weak (pe_op op_pow ha hb) fun σ H Q ⟨m, e, w, r, q⟩ => by
    rw [ev] at q
    refine two (r2 := rI CPow fun i j => .int (i ^ j.toNat)) (ta := fun _ _ _ => True) (tb := fun _ _ _ => True) r q fun d d' u v m2 w2 H2 r2 y1 y2 q2 => ?_
    cases d <;> cases d' <;> simp only [binop] at q2 <;> first | exact q2.stk_elim | skip
    obtain ⟨hl, q2⟩ := q2.grd
    rw [y1.int r2, y2.int r2]
    exact ⟨_, _, rfl, rfl, hl, q2.val r2 ((RX.of rfl).mpr (.int _))⟩
theorem c_neg {ea : Expr} {a : Ev.X} (ha : PE X ea (TB G xf Wx C a)) : PE X (.UnaryOp .USub ea pos) (TB G xf Wx C (.neg a)) :=
  pe_weak (pe_un un_neg ha) fun σ H Q ⟨m, e, w, r, q⟩ => by
    rw [ev] at q
    refine ⟨m, e, w, r, q.step fun d w1 u m1 H1 x1 r1 y1 q1 => ?_⟩
    cases d <;> first | exact PostE.stk_elim (by exact q1) | skip
    rw [y1.int r1]
    exact ⟨_, rfl, PostE.val (by exact q1) r1 ((RX.of rfl).mpr (.int _))⟩

/-! ### tests -/
theorem tst_post {x : Ev.X} {Q : Bool → Hp → Prop} (r : Rel G m e w σ H) (q : PostE G xf Wx m w H e σ RB Q (tst (ev C x e) w)) : PostE G xf Wx m w H e σ (RX G e σ x) (fun v H' => ∃ b, v = .bl b ∧ Q b H') (ev C x e w) := by
  unfold tst at q
  refine q.step fun d w1 u m1 H1 x1 r1 y1 q1 => ?_
  cases d <;> first | exact PostE.stk_elim (by exact q1) | skip
  exact ⟨_, y1.bl r1, PostE.val (by exact q1) r1 rfl⟩
/-- an expression that isn't a chain of tests itself -/
theorem t_of {ex : Expr} {x : Ev.X} (h : PE X ex (TB G xf Wx C x)) (he : ∀ whole, isTrue ex X.env whole = (do let v ← whole; standAt ex.pos; holding [v] (truthy v))) : PT X ex (TT' G xf Wx C x) :=
  pt_weak (pt_val h he) fun σ H Q ⟨m, e, w, r, q⟩ => ⟨m, e, w, r, tst_post r q⟩
theorem c_not {ea : Expr} {a : Ev.X} (ha : PE X ea (TB G xf Wx C a)) : PE X (.UnaryOp .Not ea pos) (TB G xf Wx C (.not a)) :=
  pe_weak (pe_not ha) fun σ H Q ⟨m, e, w, r, q⟩ => by
    rw [ev] at q
    refine ⟨m, e, w, r, tst_post r (q.step fun b w1 u m1 H1 x1 r1 y1 q1 => ?_)⟩
    cases y1
    exact q1.val r1 ((RX.of rfl).mpr (.bl _))
theorem t_not {ea : Expr} {a : Ev.X} (ha : PT X ea (TT' G xf Wx C a)) : PT X (.UnaryOp .Not ea pos) (TT' G xf Wx C (.not a)) :=
  pt_weak (pt_not ha) fun σ H Q ⟨m, e, w, r, q⟩ => by
    rw [ev] at q
    unfold tst at q
    rw [bnd_assoc] at q
    refine ⟨m, e, w, r, PostE.step (r := tst (ev C a e)) q fun b w1 u m1 H1 x1 r1 y1 q1 => ?_⟩
    cases y1
    exact PostE.val (by exact q1) r1 rfl
end
end Ev

set_option maxRecDepth 100000
set_option maxHeartbeats 4000000
/-! Comparisons, items, slices, fields, builtins. -/
namespace Ev
open PySem PySem.Spec PyProof.Rows L2

/-! ### data as the library reads it -/
mutual
theorem dpR {G : GG} {F : Pr} {rho : Nat → Addr} {n : Nat} {H : Hp} : ∀ (d : D) (v : V), R G F rho n H v d → d.shp = true → Dp G.K H v d.py
  | .non, _, h, _ => by cases h; exact .non
  | .bl b, _, h, _ => by cases h; exact .bl b
  | .int i, _, h, _ => by cases h; exact .int i
  | .str x, _, h, _ => by cases h; exact .str x
  | .tup ds, _, h, s => by
    cases h with
    | tup a b c => exact .tup a.sq (dpRA ds _ c (by simpa [D.shp] using s))
  | .lst ds, _, h, s => by
    cases h with
    | lst a b c d => exact .lst (.of b) (dpRA ds _ d (by simpa [D.shp] using s))
  | .dic _, _, _, s => by simp [D.shp] at s
  | .ins _ _, _, _, s => by simp [D.shp] at s
  | .cel _, _, _, s => by simp [D.shp] at s
  | .fn _, _, _, s => by simp [D.shp] at s
  | .scr _, _, _, s => by simp [D.shp] at s
theorem dpRA {G : GG} {F : Pr} {rho : Nat → Addr} {n : Nat} {H : Hp} : ∀ (ds : List D) (vs : List V), RA G F rho n H vs ds → D.shpAll ds = true → DpAll G.K H vs (D.pyAll ds)
  | [], _, h, _ => by cases h; exact .nil
  | d :: ds, _, h, s => by
    cases h with
    | cons a b =>
      have s' : d.shp = true ∧ D.shpAll ds = true := by simpa [D.shpAll] using s
      exact .cons (dpR d _ a s'.1) (dpRA ds _ b s'.2)
end
mutual
theorem canLay_py : ∀ d : D, d.shp = true → d.py.canLay0 = true
  | .non, _ => rfl | .bl _, _ => rfl | .int _, _ => rfl
  | .str x, s => by simpa [D.shp, D.py, PyData.canLay0] using s
  | .tup ds, s => by simpa [D.py, PyData.canLay0] using canLay_pyAll ds (by simpa [D.shp] using s)
  | .lst ds, s => by simpa [D.py, PyData.canLay0] using canLay_pyAll ds (by simpa [D.shp] using s)
  | .dic _, s => by simp [D.shp] at s
  | .ins _ _, s => by simp [D.shp] at s
  | .cel _, s => by simp [D.shp] at s
  | .fn _, s => by simp [D.shp] at s
  | .scr _, s => by simp [D.shp] at s
theorem canLay_pyAll : ∀ ds : List D, D.shpAll ds = true → PyData.canLayAll0 (D.pyAll ds) = true
  | [], _ => rfl
  | d :: ds, s => by
    have s' : d.shp = true ∧ D.shpAll ds = true := by simpa [D.shpAll] using s
    simp [D.pyAll, PyData.canLayAll0, canLay_py d s'.1, canLay_pyAll ds s'.2]
end
mutual
theorem dep_py : ∀ d : D, d.py.depth ≤ d.dep
  | .non => Nat.le_refl _ | .bl _ => Nat.le_refl _ | .int _ => Nat.le_refl _ | .str _ => Nat.le_refl _
  | .tup ds => by simpa [D.py, D.dep, PyData.depth] using dep_pyAll ds
  | .lst ds => by simpa [D.py, D.dep, PyData.depth] using dep_pyAll ds
  | .dic _ => Nat.zero_le _ | .ins _ _ => Nat.zero_le _ | .cel _ => Nat.zero_le _ | .fn _ => Nat.zero_le _ | .scr _ => Nat.zero_le _
theorem dep_pyAll : ∀ ds : List D, PyData.depthAll (D.pyAll ds) ≤ D.depAll ds
  | [] => Nat.le_refl _
  | d :: ds => by
    have h1 := dep_py d
    have h2 := dep_pyAll ds
    simp only [D.pyAll, D.depAll, PyData.depthAll]
    omega
end
theorem shaped_of {d : D} (h : d.shp = true) (hd : d.dep ≤ 60) : SeqAt.shaped d.py = true := by
  unfold SeqAt.shaped
  rw [canLay_py d h, Bool.true_and]
  exact decide_eq_true (Nat.le_trans (dep_py d) (by omega))
theorem shape2_of {a b : D} (h : shape2 a b = true) : (a.shp = true ∧ SeqAt.shaped a.py = true) ∧ b.shp = true ∧ SeqAt.shaped b.py = true := by
  unfold shape2 at h
  simp only [Bool.and_eq_true, decide_eq_true_eq] at h
  obtain ⟨⟨⟨h1, h2⟩, h3⟩, h4⟩ := h
  exact ⟨⟨h1, shaped_of h1 h3⟩, h2, shaped_of h2 h4⟩

section
variable {G : GG} {xf : Nat → Option Str} {Wx : L2.WX} {m m1 : Fm} {w w1 : Wd} {H H1 : Hp} {e : Env} {σ : L2.St} {C : Cfg} {X : Cx} {pos : Pos}
theorem RX.dp {x : Ev.X} (r : Rel G m e w σ H) {v : V} {d : D} (h : RX G e σ x m w H v d) (s : d.shp = true) : Dp G.K H v d.py := by
  rcases h.own r with h | ⟨a, e1, h⟩
  · exact dpR d v h s
  · cases d with
    | lst ds =>
      obtain ⟨vs, h1, h2, h3⟩ := h
      subst e1
      exact .lst (.of h1) (dpRA ds vs h3 (by simpa [D.shp] using s))
    | dic _ => simp [D.shp] at s
    | ins _ _ => simp [D.shp] at s
    | _ => exact h.elim
/-- what a cell holds -/
inductive View (G : GG) (m : Fm) (w : Wd) (H : Hp) : V → D → Prop
  | v {v : V} {d : D} : R G m.F m.rho w.length H v d → View G m w H v d
  | o {a : Addr} {d : D} : Own G m.F m.rho w.length H a d → View G m w H (.ref a) d
theorem RX.view {x : Ev.X} (r : Rel G m e w σ H) {v : V} {d : D} (h : RX G e σ x m w H v d) : View G m w H v d := by
  rcases h.own r with h1 | ⟨a, e1, h1⟩
  · exact .v h1
  · subst e1; exact .o h1
theorem der_post {α β : Type} {Rl : Fm → Wd → Hp → β → α → Prop} {Q : β → Hp → Prop} {x : Ev.X} {k : D → M α} (r : Rel G m e w σ H) {v : V} {d : D} (h : RX G e σ x m w H v d) (q : PostE G xf Wx m w H e σ Rl Q ((der d >>= k) w)) :
    ∃ d', View G m w H v d' ∧ PostE G xf Wx m w H e σ Rl Q (k d' w) ∧ ∀ j, d' = .cel j → False := by
  have gen : (∀ j, d ≠ .cel j) → ∃ d', View G m w H v d' ∧ PostE G xf Wx m w H e σ Rl Q (k d' w) ∧ ∀ j, d' = .cel j → False := fun hn => by
    have e1 : der d = pure d := by
      cases d <;> first | rfl | exact absurd rfl (hn _)
    rw [e1] at q
    exact ⟨d, h.view r, q, hn⟩
  cases d with
  | cel j =>
    obtain ⟨hj, rfl⟩ := h.cel r
    rw [bind_def] at q
    have e1 : der (.cel j) w = .ok w[j] w := by
      unfold der
      simp [hj]
    rw [e1] at q
    have o := (r.cell j w[j] (by simp [hj])).1
    refine ⟨w[j], .o o, q, fun i z => ?_⟩
    rw [z] at o
    exact o
  | _ => exact gen fun _ z => nomatch z
theorem View.tup {v : V} {ds : List D} (h : View G m w H v (.tup ds)) : ∃ a vs, v = .ref a ∧ TupAt G m.F H a vs ∧ vs.length ≤ SZ ∧ RA G m.F m.rho w.length H vs ds := by
  cases h with
  | v h => cases h with
    | tup a b c => exact ⟨_, _, rfl, a, b, c⟩
  | o h => exact h.elim
theorem View.lst {v : V} {ds : List D} (h : View G m w H v (.lst ds)) : ∃ a vs, v = .ref a ∧ H a = some (.lst vs) ∧ vs.length ≤ SZ ∧ RA G m.F m.rho w.length H vs ds := by
  cases h with
  | v h => cases h with
    | lst _ a b c => exact ⟨_, _, rfl, a, b, c⟩
  | o h =>
    obtain ⟨vs, h1, h2, h3⟩ := h
    exact ⟨_, vs, rfl, h1, h2, h3⟩
theorem View.dic {v : V} {ds : List (D × D)} (h : View G m w H v (.dic ds)) : ∃ a vs, v = .ref a ∧ H a = some (.dK vs) ∧ vs.length ≤ SZ ∧ RK G m.F m.rho w.length H vs ds := by
  cases h with
  | v h => cases h with
    | dic _ a b c => exact ⟨_, _, rfl, a, b, c⟩
  | o h =>
    obtain ⟨vs, h1, h2, h3⟩ := h
    exact ⟨_, vs, rfl, h1, h2, h3⟩
theorem View.ins {v : V} {c : Nat} {fs : List (Str × D)} (h : View G m w H v (.ins c fs)) : ∃ a dx vs, v = .ref a ∧ H a = some (.ins (G.cl c) dx vs) ∧ RF G m.F m.rho w.length H vs fs := by
  cases h with
  | v h => cases h with
    | ins _ a b => exact ⟨_, _, _, rfl, a, b⟩
  | o h =>
    obtain ⟨dx, vs, h1, h3⟩ := h
    exact ⟨_, dx, vs, rfl, h1, h3⟩
theorem View.scr {v : V} {ns : List Int} (h : View G m w H v (.scr ns)) : ∃ a, v = .ref a ∧ SqL G.K H a (ns.map V.int) ∧ ns.length ≤ SZ := by
  cases h with
  | v h => cases h with
    | scr _ a b => exact ⟨_, rfl, .inl (.inr ⟨_, a⟩), b⟩
    | scrK a b => exact ⟨_, rfl, .inr a, b⟩
  | o h => exact h.elim
theorem View.flat {v : V} {d : D} (h : View G m w H v d) (f : flatD d = true) : (d = .non ∧ v = .non) ∨ (∃ b, d = .bl b ∧ v = .bl b) ∨ (∃ i, d = .int i ∧ v = .int i) ∨ ∃ s, d = .str s ∧ v = .str s := by
  cases d with
  | non => exact .inl ⟨rfl, by cases h with | v h => (cases h; rfl) | o h => exact h.elim⟩
  | bl b => exact .inr (.inl ⟨b, rfl, by cases h with | v h => (cases h; rfl) | o h => exact h.elim⟩)
  | int b => exact .inr (.inr (.inl ⟨b, rfl, by cases h with | v h => (cases h; rfl) | o h => exact h.elim⟩))
  | str b => exact .inr (.inr (.inr ⟨b, rfl, by cases h with | v h => (cases h; rfl) | o h => exact h.elim⟩))
  | _ => simp [flatD] at f
theorem View.dp {v : V} {d : D} (h : View G m w H v d) (s : d.shp = true) : Dp G.K H v d.py := by
  cases h with
  | v h => exact dpR d v h s
  | o h =>
    cases d with
    | lst ds =>
      obtain ⟨vs, h1, h2, h3⟩ := h
      exact .lst (.of h1) (dpRA ds vs h3 (by simpa [D.shp] using s))
    | dic _ => simp [D.shp] at s
    | ins _ _ => simp [D.shp] at s
    | _ => exact h.elim
theorem RA.view {vs : List V} {ds : List D} (h : RA G m.F m.rho w.length H vs ds) : ∀ v ∈ vs, ∃ d ∈ ds, View G m w H v d := fun v hv => by
  induction vs generalizing ds with
  | nil => cases hv
  | cons u vs ih => cases h with
    | cons a b =>
      rcases List.mem_cons.mp hv with rfl | hv
      · exact ⟨_, List.mem_cons_self, .v a⟩
      · obtain ⟨d, h1, h2⟩ := ih b hv
        exact ⟨d, List.mem_cons_of_mem _ h1, h2⟩
/-! ### in flat items -/
theorem flat_v {v : V} {d : D} (h : View G m w H v d) (f : flatD d = true) : flatV v = true := by
  rcases h.flat f with ⟨_, rfl⟩ | ⟨b, _, rfl⟩ | ⟨b, _, rfl⟩ | ⟨b, _, rfl⟩ <;> rfl
theorem flat_all {vs : List V} {ds : List D} (h : RA G m.F m.rho w.length H vs ds) (f : ds.all flatD = true) : vs.all flatV = true := by
  rw [List.all_eq_true] at f ⊢
  intro v hv
  obtain ⟨d, h1, h2⟩ := RA.view h v hv
  exact flat_v h2 (f d h1)
theorem eqv_flat {u v : V} {d c : D} (h : View G m w H u d) (k : View G m w H v c) (f : flatD d = true) (g : flatD c = true) : eqV u v = D.eqv d c := by
  rcases h.flat f with ⟨rfl, rfl⟩ | ⟨b, rfl, rfl⟩ | ⟨b, rfl, rfl⟩ | ⟨b, rfl, rfl⟩ <;> rcases k.flat g with ⟨rfl, rfl⟩ | ⟨a, rfl, rfl⟩ | ⟨a, rfl, rfl⟩ | ⟨a, rfl, rfl⟩ <;>
    simp [eqV, D.eqv, D.py, PyData.eqv]
theorem in_flat {v : V} {d : D} {vs : List V} {ds : List D} (k : View G m w H v d) (g : flatD d = true) (h : RA G m.F m.rho w.length H vs ds) (f : ds.all flatD = true) : inV v vs = hasD d ds := by
  unfold inV hasD
  induction vs generalizing ds with
  | nil => cases h; rfl
  | cons u vs ih => cases h with
    | cons a b =>
      rw [List.all_cons, Bool.and_eq_true] at f
      rw [List.any_cons, List.any_cons, ih b f.2, eqv_flat (.v a) k f.1 g]
/-! ### keys -/
theorem key_v {v : V} {d : D} (h : View G m w H v d) (f : isKey d = true) : ∃ k : Key, v = kV k ∧ d = keyD k := by
  cases d with
  | int i => cases h with
    | v h => cases h; exact ⟨.inl i, rfl, rfl⟩
    | o h => exact h.elim
  | str i => cases h with
    | v h => cases h; exact ⟨.inr i, rfl, rfl⟩
    | o h => exact h.elim
  | _ => simp [isKey] at f
theorem keyEq_iff (j k : Key) : keyEq (keyD j) (keyD k) = decide (j = k) := by
  cases j with
  | inl i => cases k with
    | inl j => simp [keyD, keyEq]
    | inr y => simp [keyD, keyEq]
  | inr x => cases k with
    | inl j => simp [keyD, keyEq]
    | inr y => simp [keyD, keyEq]
theorem RK.find {vs : List (Key × V)} {ds : List (D × D)} (h : RK G m.F m.rho w.length H vs ds) (k : Key) : (dfind ds (keyD k) = none ∧ valV vs k = none) ∨ ∃ d v, dfind ds (keyD k) = some d ∧ valV vs k = some v ∧ R G m.F m.rho w.length H v d := by
  unfold dfind valV
  induction vs generalizing ds with
  | nil => cases h; exact .inl ⟨rfl, rfl⟩
  | cons p vs ih => cases h with
    | @cons j v d vs ds a b =>
      rw [List.find?_cons, List.find?_cons, keyEq_iff]
      by_cases hj : j = k
      · subst hj
        rw [decide_eq_true rfl]
        exact .inr ⟨d, v, rfl, rfl, a⟩
      · rw [decide_eq_false hj]
        exact ih b
theorem ix_dict (hu : X.A.units + 1 < cLine) : IxR X (fun x y H Q => ∃ a v, x = .ref a ∧ DGet H a y (some v) ∧ Q v H) := by
  intro value slice pins s σ H x y v u Q I rx ry h hs
  obtain ⟨a, z, rfl, g, q⟩ := h
  cases rx
  exact tail_any (dict_typeIs I g) PySem.F.slot_dict_getitem.lookup (d_getItem hu I g ry fun w' s3 I3 rw' => ⟨z, H, I3, rw', q⟩) hs
def rIxA (K : PySem.W.Frag) : R2 := fun x y H Q => rIxL K x y H Q ∨ rIxT K x y H Q ∨ ∃ a v, x = .ref a ∧ DGet H a y (some v) ∧ Q v H
theorem ix_any (hu : X.A.units + 1 < cLine) : IxR X (rIxA X.K) := ix_list.or (ix_tup.or (ix_dict hu))
theorem RA.at {vs : List V} {ds : List D} (h : RA G m.F m.rho w.length H vs ds) {k : Int} {d : D} (q : atI ds k = some d) : ∃ v, atI vs k = some v ∧ R G m.F m.rho w.length H v d := by
  unfold atI at q ⊢
  rw [h.length]
  cases z : ixN ds.length k with
  | none => rw [z] at q; cases q
  | some j =>
    rw [z] at q
    exact h.get q
theorem ofO_post {β : Type} {Rl : Fm → Wd → Hp → β → D → Prop} {Q : β → Hp → Prop} {o : Option D} (h : PostE G xf Wx m w H e σ Rl Q (ofO o w)) : ∃ d, o = some d ∧ PostE G xf Wx m w H e σ Rl Q ((pure d : M D) w) := by
  cases o with
  | none => exact PostE.stk_elim (by exact h)
  | some d => exact ⟨d, rfl, h⟩
theorem idx_post {a b x : Ev.X} {d d' : D} {u v : V} {Q : VK} (hK : X.K = G.K) (hx : ownV e x = false) (r : Rel G m e w σ H) (y1 : RX G e σ a m w H u d) (y2 : RX G e σ b m w H v d') (q : PostE G xf Wx m w H e σ (RX G e σ x) Q ((der d >>= fun z => idxop z d') w)) : rIxA X.K u v H Q := by
  obtain ⟨c, vw, q, nc⟩ := der_post r y1 q
  cases c with
  | tup xs =>
    cases d' <;> simp only [idxop] at q <;> first | exact q.stk_elim | skip
    obtain ⟨z, hz, q⟩ := ofO_post q
    obtain ⟨p, vs, rfl, t1, l1, z1⟩ := vw.tup
    obtain ⟨v1, a1, a2⟩ := z1.at hz
    rw [y2.int r]
    exact .inr (.inl ⟨p, vs, _, v1, rfl, rfl, by rw [hK]; exact t1.sq, a1, q.val r ((RX.of hx).mpr a2)⟩)
  | lst xs =>
    cases d' <;> simp only [idxop] at q <;> first | exact q.stk_elim | skip
    obtain ⟨z, hz, q⟩ := ofO_post q
    obtain ⟨p, vs, rfl, t1, l1, z1⟩ := vw.lst
    obtain ⟨v1, a1, a2⟩ := z1.at hz
    rw [y2.int r]
    exact .inl ⟨p, vs, _, v1, rfl, rfl, .of t1, a1, q.val r ((RX.of hx).mpr a2)⟩
  | dic kvs =>
    simp only [idxop] at q
    by_cases hk : isKey d' = true
    · rw [if_pos hk] at q
      obtain ⟨z, hz, q3⟩ := ofO_post q
      obtain ⟨p, vs, rfl, t1, l1, z1⟩ := vw.dic
      obtain ⟨k, rfl, rfl⟩ := key_v (y2.view r) hk
      rcases z1.find k with ⟨c1, _⟩ | ⟨d2, v2, c1, c2, c3⟩
      · rw [c1] at hz; cases hz
      · rw [c1] at hz
        cases hz
        exact .inr (.inr ⟨p, v2, rfl, by rw [← c2]; exact DGet.k t1, q3.val r ((RX.of hx).mpr c3)⟩)
    · rw [if_neg hk] at q; exact q.stk_elim
  | _ => exact PostE.stk_elim (by exact q)
theorem c_idx {ea eb : Expr} {a b : Ev.X} (hK : X.K = G.K) (hu : X.A.units + 200 < cLine) (ha : PE X ea (TB G xf Wx C a)) (hb : PE X eb (TB G xf Wx C b)) (hs : PlainIx eb) : PE X (.Subscript ea eb pos) (TB G xf Wx C (.idx a b)) :=
  pe_weak (pe_ix (ix_any (by omega)) ha hb hs) fun σ H Q ⟨m, e, w, r, q⟩ => by
    rw [ev] at q
    exact two (r2 := rIxA X.K) (ta := fun _ _ _ => True) (tb := fun _ _ _ => True) (k := fun x y => der x >>= fun z => idxop z y) r q fun d d' u v m2 w2 H2 r2 y1 y2 q2 => idx_post hK rfl r2 y1 y2 q2
end
end Ev

set_option maxRecDepth 100000
set_option maxHeartbeats 4000000
/-! Calls of own defs; comparisons. -/
namespace Ev
open PySem PySem.Spec PyProof.Rows L2

section
variable (G : GG) (xf : Nat → Option Str)
/-- what is wanted behind a call -/
def PostF (m : Fm) (w : Wd) (H : Hp) (Q : VK) (E : XK) : Rs D → Prop
  | .ok d w' => ∀ v m' H', Ext m w H m' w' H' → RelW G m' w' H' → R G m'.F m'.rho w'.length H' v d → Q v H'
  | .exc c x w' => ∀ pn m' H', Ext m w H m' w' H' → RelW G m' w' H' → XAt G xf m' w' H' c x pn → E (.ref (G.cl c)) pn H'
  | .stk => False
/-- the promise: what the machine says -/
def spOf (r : List D → M D) : Sp := fun vs H Q E => ∃ m w ds, RelW G m w H ∧ RA G m.F m.rho w.length H vs ds ∧ PostF G xf m w H Q E (r ds w)
end
structure FnUse (G : GG) (xf : Nat → Option Str) (X : Cx) (j : Nat) (r : List D → M D) : Prop where
  ok : ∃ k fd ps, FnOk X.prog X.w X.K X.mg X.base (L2.CX X.prog X.w) k (G.fa j) fd ps (spOf G xf r) ∧ Room k X.A ∧ Binds X.K fd ps [] ∧ PySem.W.keepIn X.K (.ref (G.fa j)) = true

section
variable {G : GG} {xf : Nat → Option Str} {Wx : L2.WX} {m m' m1 : Fm} {w w' w1 : Wd} {H H' H1 : Hp} {e : Env} {σ : L2.St} {C : Cfg} {X : Cx} {pos : Pos}
/-- a caller's own slots are held apart from the callee -/
def Fm.call (m : Fm) (e : Env) : Fm := { m with P := fun a => m.P a ∨ ∃ i d, e[i]? = some (.own d) ∧ m.oa i = a }
/-- .. and back -/
def Fm.back (m m' : Fm) : Fm := { F := m'.F, P := m.P, oa := m.oa, rho := m'.rho }
theorem Rel.toCall (r : Rel G m e w σ H) : RelW G (m.call e) w H := by
  refine ⟨fun k d h => ?_, r.inj, r.allF, fun a h => ?_, fun a h => ?_⟩
  · obtain ⟨h1, h2, h3⟩ := r.cell k d h
    refine ⟨h1, h2, fun q => ?_⟩
    rcases q with q | ⟨i, d', h4, h5⟩
    · exact h3 q
    · exact (r.sl i _ h4).2.2.2.2 k (List.getElem?_eq_some_iff.mp h).1 h5
  · rcases h with h | ⟨i, d', h4, h5⟩
    · exact r.allP a h
    · rw [← h5]; exact (r.sl i _ h4).2.1.there
  · rcases h with h | ⟨i, d', h4, h5⟩
    · exact r.FP a h
    · rw [← h5]; exact (r.sl i _ h4).2.2.1
theorem Rel.back (r : Rel G m e w σ H) (x : Ext (m.call e) w H m' w' H') (r' : RelW G m' w' H') : Ext m w H (m.back m') w' H' ∧ Rel G (m.back m') e w' σ H' := by
  have hF : ∀ a, m.F a → m'.F a := x.F
  have hH : ∀ a, m.F a → H' a = H a := x.aF
  have hP : ∀ a, m.P a → m'.P a := fun a h => by rw [x.P]; exact .inl h
  have hown : ∀ i d, e[i]? = some (.own d) → m'.P (m.oa i) ∧ H' (m.oa i) = H (m.oa i) := fun i d h => ⟨by rw [x.P]; exact .inr ⟨i, d, h, rfl⟩, x.aP _ (.inr ⟨i, d, h, rfl⟩)⟩
  refine ⟨⟨rfl, hF, hH, fun a h => x.aP a (.inl h), x.wl, x.rho, rfl⟩, ⟨⟨fun k d h => ?_, r'.inj, r'.allF, fun a h => ?_, fun a h => r'.FP a (hP a h)⟩, r.len, fun i s h => ?_, r.oinj⟩⟩
  · obtain ⟨h1, h2, h3⟩ := r'.cell k d h
    exact ⟨h1, h2, fun q => h3 (hP _ q)⟩
  · rw [x.aP a (.inl h)]; exact r.allP a h
  · have q := r.sl i s h
    cases s with
    | un => trivial
    | val d =>
      obtain ⟨v, h1, h2⟩ := q
      exact ⟨v, h1, h2.mono hF hH x.wl x.rho⟩
    | own d =>
      obtain ⟨h1, h2, h3, h4, h5⟩ := q
      obtain ⟨o1, o2⟩ := hown i d h
      refine ⟨h1, h2.mono hF hH x.wl x.rho o2, fun z => r'.FP _ o1 z, h4, fun k hk z => ?_⟩
      obtain ⟨dk, hdk⟩ : ∃ d, w'[k]? = some d := ⟨w'[k], by simp [hk]⟩
      exact (r'.cell k dk hdk).2.2 (by rw [← show m.oa i = m'.rho k from z]; exact o1)
    | exc c x0 =>
      obtain ⟨a0, pn, h1, h2, h3⟩ := q
      exact ⟨a0, pn, h1, h2, h3.mono hF hH x.wl x.rho⟩
theorem XAt.back {c : Nat} {x : Option D} {pn : Option Addr} (h : XAt G xf m' w' H' c x pn) : XAt G xf (m.back m') w' H' c x pn := h
/-- behind the arguments: what the callee's promise is asked -/
theorem call_post {Q : VK} {r : List D → M D} {ds : List D} {vs : List V} (rl : Rel G m e w σ H) (ra : RA G m.F m.rho w.length H vs ds) (q : PostE G xf Wx m w H e σ (RR G) Q (r ds w)) : spOf G xf r vs H Q (WE Wx σ) := by
  refine ⟨m.call e, w, ds, rl.toCall, ra, ?_⟩
  cases z : r ds w with
  | ok d w' =>
    rw [z] at q
    exact fun v m' H' x r' y => by
      obtain ⟨x1, r1⟩ := rl.back x r'
      exact q v _ H' x1 r1 y
  | exc c x w' =>
    rw [z] at q
    exact fun pn m' H' x r' y => by
      obtain ⟨x1, r1⟩ := rl.back x r'
      exact q pn _ H' x1 r1 y
  | stk => rw [z] at q; exact q
theorem calm_post {α β : Type} {Rl : Fm → Wd → Hp → β → α → Prop} {Q : β → Hp → Prop} {k : M α} (h : PostE G xf Wx m w H e σ Rl Q (calm C k w)) : C.hot = false ∧ PostE G xf Wx m w H e σ Rl Q (k w) := by
  unfold Ev.calm at h
  by_cases hc : C.hot = true
  · rw [if_pos hc] at h; exact h.stk_elim
  · rw [if_neg hc] at h; exact ⟨by simpa using hc, h⟩
theorem c_call {x : Str} {p : Pos} {j : Nat} {a : Expr} {as : List Expr} {xs : Xs} (hh : C.hot = false → FnUse G xf X j (C.cf j)) (tk : Takes X Wx) (hg : Gl X x) (hm : X.mg x = some (.ref (G.fa j))) (ha : PA X (a :: as) (TS' G xf Wx C xs))
    (hdb : (x == ("__debug__" : Str)) = false) (he : starEach (a :: as) X.env = (false, eval a X.env) :: starEach as X.env) (hpl : (backTo pos (starEach as X.env)).any (·.1) = false) : PE X (.Call (.Name x p) (a :: as) [] pos) (TB G xf Wx C (.call j xs)) := by
  by_cases hc : C.hot = true
  · refine ⟨fun pins s σ H Q I ⟨m, e, w, r, q⟩ => ?_⟩
    rw [ev] at q
    have := (calm_post q).1
    rw [hc] at this; cases this
  · obtain ⟨k, fd, ps, F, hr, hb, hk⟩ := (hh (by simpa using hc)).ok
    refine pe_weak (pe_callS F hr hg hm hk hb (passAt tk) ha hdb he hpl) fun σ H Q ⟨m, e, w, r, q⟩ => ?_
    rw [ev] at q
    obtain ⟨_, q⟩ := calm_post q
    exact ⟨m, e, w, r, q.step fun ds w1 vs m1 H1 x1 r1 y1 q1 => call_post r1 y1 ((PostE.rx rfl).mp q1)⟩

/-! ### comparisons -/
/-- own ==: what the layer is asked of a class -/
structure EqUse (G : GG) (X : Cx) (c j : Nat) : Prop where
  find : PySem.W.findIn X.K (.ref (G.cl c)) "__eq__" = some (some (.ref (G.fa j)))
  fn : PySem.W.isFn X.K (.ref (G.fa j)) = true
  tup : PySem.W.notFirst X.K (G.cl c) (.type "tuple") = true
def rOwn (G : GG) (xf : Nat → Option Str) (K : PySem.W.Frag) (c : Nat) (r : List D → M D) : R2 := fun x y H Q => ∃ a dx fs b, x = .ref a ∧ y = .ref b ∧ H a = some (.ins (G.cl c) dx fs) ∧ ((∃ dy gs, H b = some (.ins (G.cl c) dy gs)) ∨ ∃ ys, SqT K H b ys) ∧
  spOf G xf r [x, y] H Q (fun _ _ _ => False)
theorem op_own {c j : Nat} {r : List D → M D} (u : EqUse G X c j) (f : FnUse G xf X j r) : OpR X (compareOp .Eq) (rOwn G xf X.K c r) := by
  intro pins s σ H x y v u' Q I rx ry h
  obtain ⟨k, fd, ps, F, hr, hb, hk⟩ := f.ok
  obtain ⟨a, dx, fs, b, rfl, rfl, ha, hy, hsp⟩ := h
  cases rx
  cases ry
  obtain ⟨mA, J, _⟩ := ins_get I.hok ha
  obtain ⟨od, J, _⟩ := J.look
  obtain ⟨m, hF⟩ := I.fr
  show wpAny (model X.prog X.w) X.A (richCompare .Eq (.ref a) (.ref b)) (EP X pins σ Q) X.xe s
  have fin : wpAny (model X.prog X.w) X.A (call (.ref (G.fa j)) [.ref a, .ref b]) (PySem.W.CmpBack (EP X pins σ Q)) X.xe s := by
    have r2 : Vals [V.ref a, V.ref b] [Value.ref a, Value.ref b] := .cons rfl (.cons rfl .nil)
    refine wpAny_mono (run_fnS (E := fun _ _ _ _ => False) F hr hb (fun pins H s e s' I c => passL pins σ H s e s' I c) I r2 hsp) (fun z s' hz => ?_) fun _ _ x => x
    obtain ⟨v, H', I', rv, q⟩ := id hz
    cases z <;> first | exact hz | skip
    cases v <;> first | (obtain ⟨_, e⟩ := rv; cases e) | cases rv
  rcases hy with ⟨dy, gs, hy⟩ | ⟨ys, hy⟩
  · obtain ⟨mB, J', _⟩ := ins_get I.hok hy
    obtain ⟨od', J', _⟩ := J'.look
    exact PySem.W.cmp_K (op := .Eq) (tb := .ref (G.cl c)) hr.units0 hF I.ok.mod.kin J J'.type (by simp [PySem.W.notFirst]) u.find u.fn fin
  · obtain ⟨its, rv, ⟨o, ho, hc, n, hd⟩, _⟩ := I.tuple hy
    exact PySem.W.cmp_K (op := .Eq) (tb := .type "tuple") hr.units0 hF I.ok.mod.kin J (hc ▸ (PySem.W.Looks.ld ho).andThen .now) u.tup u.find u.fn fin
/-- a call that raises nothing -/
theorem noX_post {β : Type} {Rl : Fm → Wd → Hp → β → D → Prop} {Q : β → Hp → Prop} {k : M D} (h : PostE G xf Wx m w H e σ Rl Q (noX k w)) : ∃ d w', k w = .ok d w' ∧ PostE G xf Wx m w H e σ Rl Q (.ok d w') := by
  unfold noX at h
  cases q : k w with
  | ok d w' => rw [q] at h; exact ⟨d, w', rfl, h⟩
  | exc c x w' => rw [q] at h; exact False.elim h
  | stk => rw [q] at h; exact False.elim h
theorem own_post {Q : VK} {r : List D → M D} {ds : List D} {vs : List V} (rl : Rel G m e w σ H) (ra : RA G m.F m.rho w.length H vs ds) (q : PostE G xf Wx m w H e σ (RR G) Q (noX (r ds) w)) : spOf G xf r vs H Q (fun _ _ _ => False) := by
  obtain ⟨d, w', z, q⟩ := noX_post q
  refine ⟨m.call e, w, ds, rl.toCall, ra, ?_⟩
  rw [z]
  exact fun v m' H' x r' y => by
    obtain ⟨x1, r1⟩ := rl.back x r'
    exact q v _ H' x1 r1 y
/-- what == asks: data, or a class's own -/
def rEqA (G : GG) (xf : Nat → Option Str) (C : Cfg) (K : PySem.W.Frag) : R2 := fun x y H Q => rEqD K x y H Q ∨ ∃ c j, C.hot = false ∧ C.ce c = some j ∧ rOwn G xf K c (C.cf j) x y H Q
theorem op_eqA (hu : X.A.units + 200 < cLine) (he : ∀ c j, C.hot = false → C.ce c = some j → EqUse G X c j ∧ FnUse G xf X j (C.cf j)) : OpR X (compareOp .Eq) (rEqA G xf C X.K) := by
  intro pins s σ H x y v u Q I rx ry h
  rcases h with h | ⟨c, j, h1, h2, h⟩
  · exact op_eqD (by omega) pins s σ H x y v u Q I rx ry h
  · exact op_own (he c j h1 h2).1 (he c j h1 h2).2 pins s σ H x y v u Q I rx ry h
def Co.op : Co → CmpOp
  | .eq => .Eq | .ne => .NotEq | .lt => .Lt | .le => .LtE | .gt => .Gt | .ge => .GtE | .is => .Is | .nis => .IsNot | .isin => .In | .nin => .NotIn
def rIs (n : Bool) : R2 := fun x y H Q => (y = .non ∧ Q (.bl (if n then !decide (x = .non) else decide (x = .non))) H) ∨ ∃ b : Bool, y = .bl b ∧ Q (.bl (if n then !decide (x = .bl b) else decide (x = .bl b))) H
theorem plain_bl {x : V} {v : Value} (r : RelV x v) (b : Bool) : plainIs v (.bool b) = true := by
  cases x <;> first | (cases r; rfl) | (obtain ⟨t, rfl⟩ := r; rfl)
theorem bl_ne {x : V} {v : Value} (r : RelV x v) {b : Bool} (h : x ≠ .bl b) : v ≠ .bool b := by
  cases x <;> first | (cases r; exact fun z => h (by cases z; rfl)) | (obtain ⟨t, rfl⟩ := r; exact fun z => by cases z)
theorem op_isV : OpR X (compareOp .Is) (fun x y H Q => ∃ b : Bool, y = .bl b ∧ Q (.bl (decide (x = .bl b))) H) := by
  intro pins s σ H x y v u Q I rx ry h
  obtain ⟨b, rfl, q⟩ := h
  cases (show u = Value.bool b from ry)
  by_cases e : x = .bl b
  · subst e
    cases (show v = Value.bool b from rx)
    exact wpAny_is_self rfl ⟨.bl true, H, I, rfl, by simpa using q⟩
  · exact wpAny_is_other (plain_bl rx b) (bl_ne rx e) ⟨.bl false, H, I, rfl, by simpa [e] using q⟩
theorem op_notV : OpR X (compareOp .IsNot) (fun x y H Q => ∃ b : Bool, y = .bl b ∧ Q (.bl (!decide (x = .bl b))) H) := by
  intro pins s σ H x y v u Q I rx ry h
  obtain ⟨b, rfl, q⟩ := h
  cases (show u = Value.bool b from ry)
  by_cases e : x = .bl b
  · subst e
    cases (show v = Value.bool b from rx)
    exact wpAny_isNot_self rfl ⟨.bl false, H, I, rfl, by simpa using q⟩
  · exact wpAny_isNot_other (plain_bl rx b) (bl_ne rx e) ⟨.bl true, H, I, rfl, by simpa [e] using q⟩
theorem op_isA : OpR X (compareOp .Is) (rIs false) := op_isN.or op_isV
theorem op_nisA : OpR X (compareOp .IsNot) (rIs true) := op_notN.or op_notV
theorem op_inDict (hu : X.A.units + 1 < cLine) : OpR X (compareOp .In) (fun x y H Q => ∃ a o, y = .ref a ∧ DGet H a x o ∧ Q (.bl o.isSome) H) := by
  intro pins s σ H x y v u Q I rx ry h
  obtain ⟨a, o, rfl, g, q⟩ := h
  cases ry
  exact d_in hu I g rx fun s3 I3 => ⟨.bl o.isSome, H, I3, rfl, q⟩
theorem op_ninDict (hu : X.A.units + 1 < cLine) : OpR X (compareOp .NotIn) (fun x y H Q => ∃ a o, y = .ref a ∧ DGet H a x o ∧ Q (.bl (!o.isSome)) H) := by
  intro pins s σ H x y v u Q I rx ry h
  obtain ⟨a, o, rfl, g, q⟩ := h
  cases ry
  exact d_notIn hu I g rx fun s3 I3 => ⟨.bl (!o.isSome), H, I3, rfl, q⟩
def rInA (K : PySem.W.Frag) (n : Bool) : R2 := fun x y H Q => rIn K n x y H Q ∨ (if n then rNotInD K x y H Q else rInD K x y H Q) ∨ ∃ a o, y = .ref a ∧ DGet H a x o ∧ Q (.bl (if n then !o.isSome else o.isSome)) H
theorem op_inA (hu : X.A.units + 200 < cLine) : OpR X (compareOp .In) (rInA X.K false) := op_in_seq.or ((op_inD (by omega)).or (op_inDict (by omega)))
theorem op_ninA (hu : X.A.units + 200 < cLine) : OpR X (compareOp .NotIn) (rInA X.K true) := op_notIn_seq.or ((op_notInD (by omega)).or (op_ninDict (by omega)))
/-- the rule of each comparison -/
def rCo (G : GG) (xf : Nat → Option Str) (C : Cfg) (K : PySem.W.Frag) : Co → R2
  | .eq => rEqA G xf C K
  | .ne => rNeD K
  | .lt => rI0 fun i j => .bl (decide (i < j))
  | .le => rI0 fun i j => .bl (decide (i ≤ j))
  | .gt => rI0 fun i j => .bl (decide (j < i))
  | .ge => rI0 fun i j => .bl (decide (j ≤ i))
  | .is => rIs false
  | .nis => rIs true
  | .isin => rInA K false
  | .nin => rInA K true
theorem op_co (hu : X.A.units + 200 < cLine) (he : ∀ c j, C.hot = false → C.ce c = some j → EqUse G X c j ∧ FnUse G xf X j (C.cf j)) : ∀ o : Co, OpR X (compareOp o.op) (rCo G xf C X.K o)
  | .eq => op_eqA hu he
  | .ne => op_neD (by omega)
  | .lt => op_lt
  | .le => op_le
  | .gt => op_gt
  | .ge => op_ge
  | .is => op_isA
  | .nis => op_nisA
  | .isin => op_inA hu
  | .nin => op_ninA hu
theorem any_py (a : D) : ∀ xs : List D, ((D.pyAll xs).any fun z => PyData.eqv z a.py) = hasD a xs
  | [] => rfl
  | x :: xs => by
    have ih := any_py a xs
    unfold hasD at ih ⊢
    rw [D.pyAll, List.any_cons, List.any_cons, ih]
    rfl
theorem shapes_of {a : D} {xs : List D} (h : shapes a xs = true) : (a.shp = true ∧ SeqAt.shaped a.py = true) ∧ (D.lst xs).shp = true ∧ SeqAt.shaped (.list (D.pyAll xs)) = true := by
  unfold shapes at h
  simp only [Bool.and_eq_true, decide_eq_true_eq] at h
  obtain ⟨⟨⟨h1, h2⟩, h3⟩, h4⟩ := h
  refine ⟨⟨h1, shaped_of h1 h2⟩, by simpa [D.shp] using h3, ?_⟩
  unfold SeqAt.shaped
  have e1 : (PyData.list (D.pyAll xs)).canLay0 = true := by simpa [PyData.canLay0] using canLay_pyAll xs h3
  rw [e1, Bool.true_and]
  refine decide_eq_true ?_
  have := dep_pyAll xs
  simp only [PyData.depth]
  omega
theorem non_iff {v : V} {d : D} (h : View G m w H v d) : decide (v = .non) = isNon d := by
  cases h with
  | v h => cases h <;> simp [isNon]
  | o h => cases d <;> first | exact h.elim | simp [isNon]
theorem bl_iff {v : V} {d : D} (h : View G m w H v d) (b : Bool) : decide (v = .bl b) = isBl d b := by
  cases h with
  | v h => cases h <;> first | (simp [isBl]; done) | (rename_i c; cases b <;> cases c <;> rfl)
  | o h => cases d <;> first | exact h.elim | simp [isBl]
/-- a comparison's answer -/
theorem co_post {x : Ev.X} {o : Co} {d d' : D} {u v : V} {Q : VK} (hK : X.K = G.K) (hx : ownV e x = false) (r : Rel G m e w σ H) (y1 : View G m w H u d) (y2 : View G m w H v d') (q : PostE G xf Wx m w H e σ (RX G e σ x) Q (cmpop o d d' w)) : rCo G xf C X.K o u v H Q := by
  have bl : ∀ b : Bool, PostE G xf Wx m w H e σ (RX G e σ x) Q ((pure (.bl b) : M D) w) → Q (.bl b) H := fun b q => q.val r ((RX.of hx).mpr (.bl _))
  have hint : ∀ {u : V} {i : Int}, View G m w H u (.int i) → u = .int i := fun h => by
    rcases h.flat rfl with ⟨z, _⟩ | ⟨b, z, _⟩ | ⟨b, z, h⟩ | ⟨b, z, _⟩ <;> cases z
    exact h
  cases o
  case eq =>
    simp only [cmpop] at q
    split at q
    · rename_i hs
      obtain ⟨⟨h1, h2⟩, h3, h4⟩ := shape2_of hs
      exact .inl ⟨_, _, by rw [hK]; exact y1.dp h1, by rw [hK]; exact y2.dp h3, h2, h4, bl _ q⟩
    · exact q.stk_elim
  case ne =>
    simp only [cmpop] at q
    split at q
    · rename_i hs
      obtain ⟨⟨h1, h2⟩, h3, h4⟩ := shape2_of hs
      exact ⟨_, _, by rw [hK]; exact y1.dp h1, by rw [hK]; exact y2.dp h3, h2, h4, bl _ q⟩
    · exact q.stk_elim
  case lt =>
    cases d <;> cases d' <;> simp only [cmpop] at q <;> first | exact q.stk_elim | skip
    rw [hint y1, hint y2]; exact ⟨_, _, rfl, rfl, bl _ q⟩
  case le =>
    cases d <;> cases d' <;> simp only [cmpop] at q <;> first | exact q.stk_elim | skip
    rw [hint y1, hint y2]; exact ⟨_, _, rfl, rfl, bl _ q⟩
  case gt =>
    cases d <;> cases d' <;> simp only [cmpop] at q <;> first | exact q.stk_elim | skip
    rw [hint y1, hint y2]; exact ⟨_, _, rfl, rfl, bl _ q⟩
  case ge =>
    cases d <;> cases d' <;> simp only [cmpop] at q <;> first | exact q.stk_elim | skip
    rw [hint y1, hint y2]; exact ⟨_, _, rfl, rfl, bl _ q⟩
  case is =>
    have hn : ∀ {v : V}, View G m w H v .non → v = .non := fun h => by
      rcases h.flat rfl with ⟨_, h⟩ | ⟨b, z, _⟩ | ⟨b, z, _⟩ | ⟨b, z, _⟩
      · exact h
      all_goals cases z
    by_cases h' : d' = .non
    · subst h'
      have q2 : PostE G xf Wx m w H e σ (RX G e σ x) Q ((pure (.bl (isNon d)) : M D) w) := by
        cases d <;> exact q
      rw [← non_iff y1] at q2
      exact .inl ⟨hn y2, bl _ q2⟩
    · cases d' <;> first | exact absurd rfl h' | skip
      all_goals first | (simp only [cmpop] at q; exact q.stk_elim) | skip
      rename_i b
      simp only [cmpop] at q
      rcases y2.flat rfl with ⟨z, _⟩ | ⟨_, z, h2⟩ | ⟨_, z, _⟩ | ⟨_, z, _⟩ <;> cases z
      refine .inr ⟨_, h2, bl _ ?_⟩
      simp only [Bool.false_eq_true, if_false]
      rw [bl_iff y1]
      exact q
  case nis =>
    have hn : ∀ {v : V}, View G m w H v .non → v = .non := fun h => by
      rcases h.flat rfl with ⟨_, h⟩ | ⟨b, z, _⟩ | ⟨b, z, _⟩ | ⟨b, z, _⟩
      · exact h
      all_goals cases z
    by_cases h' : d' = .non
    · subst h'
      have q2 : PostE G xf Wx m w H e σ (RX G e σ x) Q ((pure (.bl (!isNon d)) : M D) w) := by
        cases d <;> exact q
      rw [← non_iff y1] at q2
      exact .inl ⟨hn y2, bl _ q2⟩
    · cases d' <;> first | exact absurd rfl h' | skip
      all_goals first | (simp only [cmpop] at q; exact q.stk_elim) | skip
      rename_i b
      simp only [cmpop] at q
      rcases y2.flat rfl with ⟨z, _⟩ | ⟨_, z, h2⟩ | ⟨_, z, _⟩ | ⟨_, z, _⟩ <;> cases z
      refine .inr ⟨_, h2, bl _ ?_⟩
      simp only [if_true]
      rw [bl_iff y1]
      exact q
  case isin =>
    cases d' <;> simp only [cmpop] at q <;> first | exact PostE.stk_elim (by exact q) | skip
    · rename_i xs
      split at q
      · rename_i hs
        rw [Bool.and_eq_true] at hs
        obtain ⟨p, vs, rfl, t1, l1, z1⟩ := y2.tup
        refine .inl ⟨p, vs, rfl, .inr (by rw [hK]; exact t1.sq), flat_v y1 hs.1, flat_all z1 hs.2, ?_⟩
        rw [in_flat y1 hs.1 z1 hs.2]
        exact bl _ q
      · exact q.stk_elim
    · rename_i xs
      split at q
      · rename_i hs
        obtain ⟨⟨h1, h2⟩, h3, h4⟩ := shapes_of hs
        have dp := y2.dp h3
        refine .inr (.inl ⟨_, _, by rw [hK]; exact y1.dp h1, by rw [hK]; exact dp, h2, h4, ?_⟩)
        rw [any_py]
        exact bl _ q
      · exact q.stk_elim
    · rename_i kvs
      split at q
      · rename_i hs
        obtain ⟨p, vs, rfl, t1, l1, z1⟩ := y2.dic
        obtain ⟨k, rfl, rfl⟩ := key_v y1 hs
        refine .inr (.inr ⟨p, _, rfl, DGet.k t1, ?_⟩)
        rcases z1.find k with ⟨c1, c2⟩ | ⟨d2, v2, c1, c2, _⟩
        · rw [c1] at q; rw [c2]; exact bl _ q
        · rw [c1] at q; rw [c2]; exact bl _ q
      · exact q.stk_elim
  case nin =>
    cases d' <;> simp only [cmpop] at q <;> first | exact PostE.stk_elim (by exact q) | skip
    · rename_i xs
      split at q
      · rename_i hs
        rw [Bool.and_eq_true] at hs
        obtain ⟨p, vs, rfl, t1, l1, z1⟩ := y2.tup
        refine .inl ⟨p, vs, rfl, .inr (by rw [hK]; exact t1.sq), flat_v y1 hs.1, flat_all z1 hs.2, ?_⟩
        rw [in_flat y1 hs.1 z1 hs.2]
        exact bl _ q
      · exact q.stk_elim
    · rename_i xs
      split at q
      · rename_i hs
        obtain ⟨⟨h1, h2⟩, h3, h4⟩ := shapes_of hs
        have dp := y2.dp h3
        refine .inr (.inl ⟨_, _, by rw [hK]; exact y1.dp h1, by rw [hK]; exact dp, h2, h4, ?_⟩)
        rw [any_py]
        exact bl _ q
      · exact q.stk_elim
    · rename_i kvs
      split at q
      · rename_i hs
        obtain ⟨p, vs, rfl, t1, l1, z1⟩ := y2.dic
        obtain ⟨k, rfl, rfl⟩ := key_v y1 hs
        refine .inr (.inr ⟨p, _, rfl, DGet.k t1, ?_⟩)
        rcases z1.find k with ⟨c1, c2⟩ | ⟨d2, v2, c1, c2, _⟩
        · rw [c1] at q; rw [c2]; exact bl _ q
        · rw [c1] at q; rw [c2]; exact bl _ q
      · exact q.stk_elim
def inMark (o : Co) (b : Expr) : Bool := behindInMarks o.op b
theorem cmp_post {x a b : Ev.X} {o : Co} {d d' : D} {u v : V} {Q : VK} (hK : X.K = G.K) (hx : ownV e x = false) (r : Rel G m e w σ H) (y1 : RX G e σ a m w H u d) (y2 : RX G e σ b m w H v d')
    (q : PostE G xf Wx m w H e σ (RX G e σ x) Q ((if isIns d && o == .eq then eqIns C e a b d d' else der d' >>= fun y => cmpop o d y) w)) : rCo G xf C X.K o u v H Q := by
  by_cases hi : (isIns d && o == .eq) = true
  · rw [if_pos hi] at q
    rw [Bool.and_eq_true] at hi
    obtain ⟨hi, ho⟩ := hi
    have ho : o = .eq := by simpa using ho
    subst ho
    unfold eqIns at q
    obtain ⟨hc, q⟩ := calm_post q
    obtain ⟨c, fs, rfl⟩ : ∃ c fs, d = .ins c fs := by cases d <;> simp [isIns] at hi ⊢
    have fin : ∀ {j : Nat}, C.ce c = some j → PostE G xf Wx m w H e σ (RX G e σ x) Q (nb e a (nb e b (noX (C.cf j [.ins c fs, d']))) w) → (∀ a', v = .ref a' → (∃ dy gs, H a' = some (.ins (G.cl c) dy gs)) ∨ ∃ ys, SqT X.K H a' ys) → (∃ a', v = .ref a') → rCo G xf C X.K .eq u v H Q := fun {j} hj q hy hv => by
      obtain ⟨n1, q⟩ := nb_post q
      obtain ⟨n2, q⟩ := nb_post q
      have z1 := (RX.of n1).mp y1
      have z2 := (RX.of n2).mp y2
      obtain ⟨a1, dx, vs, rfl, t1, _⟩ := y1.ins r
      obtain ⟨a', rfl⟩ := hv
      exact .inr ⟨c, j, hc, hj, a1, dx, vs, a', rfl, rfl, t1, hy a' rfl, own_post r (.cons z1 (.cons z2 .nil)) ((PostE.rx hx).mp q)⟩
    cases d' <;> first | exact PostE.stk_elim (by exact q) | skip
    · rename_i ys
      cases hj : C.ce c with
      | none => simp only [hj] at q; exact PostE.stk_elim (by exact q)
      | some j =>
        simp only [hj] at q
        obtain ⟨a2, vs2, rfl, t2, _, _⟩ := y2.tup r
        exact fin hj q (fun a' z => by cases z; exact .inr ⟨vs2, by rw [hK]; exact t2.sq⟩) ⟨a2, rfl⟩
    · rename_i c2 gs _
      cases hj : C.ce c with
      | none => simp only [hj] at q; exact PostE.stk_elim (by exact q)
      | some j =>
        by_cases hcc : c2 = c
        · obtain ⟨a2, dy, vs2, rfl, t2, _⟩ := y2.ins r
          simp only [hj, decide_eq_true hcc] at q
          exact fin hj q (fun a' z => by cases z; exact .inl ⟨dy, vs2, by rw [← hcc]; exact t2⟩) ⟨a2, rfl⟩
        · simp only [hj, decide_eq_false hcc] at q
          exact PostE.stk_elim (by exact q)
  · rw [if_neg hi] at q
    obtain ⟨c, vw, q, _⟩ := der_post r y2 q
    exact co_post hK hx r (y1.view r) vw q
theorem c_cmp {ea eb : Expr} {a b : Ev.X} {o : Co} (hK : X.K = G.K) (hu : X.A.units + 200 < cLine) (he : ∀ c j, C.hot = false → C.ce c = some j → EqUse G X c j ∧ FnUse G xf X j (C.cf j)) (ha : PE X ea (TB G xf Wx C a)) (hb : PE X eb (TB G xf Wx C b))
    (hm : behindInMarks o.op eb = false) : PE X (.Compare ea [o.op] [eb] pos) (TB G xf Wx C (.cmp o a b)) :=
  pe_weak (pe_cmpR (op_co hu he o) ha hb hm) fun σ H Q ⟨m, e, w, r, q⟩ => by
    rw [ev] at q
    exact two (r2 := rCo G xf C X.K o) (ta := fun _ _ _ => True) (tb := fun _ _ _ => True) (k := fun x y => if isIns x && o == .eq then eqIns C e a b x y else der y >>= fun y => cmpop o x y) r q fun d d' u v m2 w2 H2 r2 y1 y2 q2 => cmp_post hK rfl r2 y1 y2 q2
theorem bl_post {Q : VK} {x : Ev.X} {Q' : Bool → Hp → Prop} (r : Rel G m e w σ H) {k : M D} (q : PostE G xf Wx m w H e σ RB Q' (tst k w)) : PostE G xf Wx m w H e σ (RX G e σ x) (fun v H' => ∃ b, v = .bl b ∧ Q' b H') (k w) := by
  unfold tst at q
  refine q.step fun d w1 u m1 H1 x1 r1 y1 q1 => ?_
  cases d <;> first | exact PostE.stk_elim (by exact q1) | skip
  exact ⟨_, y1.bl r1, PostE.val (by exact q1) r1 rfl⟩
theorem t_cmp {ea eb : Expr} {a b : Ev.X} {o : Co} (hK : X.K = G.K) (hu : X.A.units + 200 < cLine) (he : ∀ c j, C.hot = false → C.ce c = some j → EqUse G X c j ∧ FnUse G xf X j (C.cf j)) (ha : PE X ea (TB G xf Wx C a)) (hb : PE X eb (TB G xf Wx C b))
    (hm : behindInMarks o.op eb = false) : PT X (.Compare ea [o.op] [eb] pos) (TT' G xf Wx C (.cmp o a b)) :=
  pt_weak (pt_cmpR (op_co hu he o) ha hb hm) fun σ H Q ⟨m, e, w, r, q⟩ => by
    have q2 := tst_post r q
    rw [ev] at q2
    exact two (r2 := rCo G xf C X.K o) (ta := fun _ _ _ => True) (tb := fun _ _ _ => True) (k := fun x y => if isIns x && o == .eq then eqIns C e a b x y else der y >>= fun y => cmpop o x y) r q2 fun d d' u v m2 w2 H2 r2 y1 y2 q2 => cmp_post hK rfl r2 y1 y2 q2
end
end Ev

set_option maxRecDepth 100000
set_option maxHeartbeats 4000000
/-! Chains of tests, choices, slices, fields, builtins. -/
namespace Ev
open PySem PySem.Spec PyProof.Rows L2
theorem mem_ddup (k : Int) : ∀ l : List Int, k ∈ ddup l ↔ k ∈ l
  | [] => Iff.rfl
  | a :: r => by
    have ih := mem_ddup k r
    unfold ddup
    by_cases h : a ∈ r
    · rw [if_pos h, ih, List.mem_cons]
      exact ⟨.inr, fun q => q.elim (fun e => by rw [e]; exact h) id⟩
    · rw [if_neg h, List.mem_cons, List.mem_cons, ih]
theorem nodup_ddup : ∀ l : List Int, (ddup l).Nodup
  | [] => List.nodup_nil
  | a :: r => by
    unfold ddup
    by_cases h : a ∈ r
    · rw [if_pos h]; exact nodup_ddup r
    · rw [if_neg h]
      exact List.nodup_cons.mpr ⟨fun q => h ((mem_ddup a r).mp q), nodup_ddup r⟩
theorem ddup_len {l m : List Int} (hn : m.Nodup) (hm : ∀ k, k ∈ m ↔ k ∈ l) : m.length = (ddup l).length :=
  ((List.perm_ext_iff_of_nodup hn (nodup_ddup l)).mpr fun k => (hm k).trans (mem_ddup k l).symm).length_eq
theorem fold_dedup : ∀ (l acc : List Int), acc.Nodup → (l.foldl step_dedup acc).Nodup ∧ ∀ k, k ∈ l.foldl step_dedup acc ↔ k ∈ acc ∨ k ∈ l
  | [], acc, h => ⟨h, fun k => by simp⟩
  | a :: r, acc, h => by
    have hs : (step_dedup acc a).Nodup ∧ ∀ k, k ∈ step_dedup acc a ↔ k ∈ acc ∨ k = a := by
      unfold step_dedup
      by_cases hc : acc.any (· == a) = true
      · rw [if_pos hc]
        refine ⟨h, fun k => ⟨.inl, fun q => q.elim id fun e => ?_⟩⟩
        obtain ⟨x, hx, e2⟩ := List.any_eq_true.mp hc
        rw [e, ← (beq_iff_eq.mp e2)]
        exact hx
      · rw [if_neg hc]
        have hn : a ∉ acc := fun q => hc (List.any_eq_true.mpr ⟨a, q, by simp⟩)
        refine ⟨?_, fun k => by simp⟩
        rw [List.nodup_append]
        refine ⟨h, by simp, fun x hx y hy e => ?_⟩
        simp at hy
        exact hn (by rw [← hy, ← e]; exact hx)
    obtain ⟨i1, i2⟩ := fold_dedup r (step_dedup acc a) hs.1
    refine ⟨i1, fun k => ?_⟩
    rw [List.foldl_cons, i2 k, hs.2 k, List.mem_cons, or_assoc]
theorem firstMet_ddup (ns : List Int) : (firstMet (fun i => ns.getD i 0) ns.length).length = (ddup ns).length := by
  unfold firstMet
  have e : (List.range ns.length).map (fun i => ns.getD i 0) = ns := by
    apply List.ext_getElem
    · simp
    · intro i h1 h2
      simp only [List.getElem_map, List.getElem_range]
      rw [List.getD_eq_getElem?_getD, List.getElem?_eq_getElem h2]
      rfl
  rw [e]
  obtain ⟨h1, h2⟩ := fold_dedup ns [] List.nodup_nil
  exact ddup_len h1 fun k => by rw [h2 k]; simp
section
variable {X : Cx} {p p2 q pos : Pos} {a : Expr} {ta : TE}
def tLenSet (K : PySem.W.Frag) (ta : TE) : TE := fun σ H Q => ta σ H fun x H1 => ∃ (l : Addr) (ns : List Int), x = V.ref l ∧ (SqL K H1 l (ns.map V.int) ∨ SqT K H1 l (ns.map V.int)) ∧ ns.length ≤ 1000 ∧ Q (.int (ddup ns).length) H1
theorem pe_lenSet (hc : X.calm = true) (hg : Gl X "len") (hm : X.mg "len" = none) (hg2 : Gl X "set") (hm2 : X.mg "set" = none) (ha : PE X a ta)
    (na : starEach [a] X.env = (false, eval a X.env) :: starEach [] X.env) : PE X (.Call (.Name "len" p) [.Call (.Name "set" p2) [a] [] q] [] pos) (tLenSet X.K ta) := by
  refine ⟨fun pins s σ H Q I h => ?_⟩
  refine Call_ (ld_blt I hg hm PySem.boot_len ?_)
  refine PyProof.Rows.callWith_builtin1 (PyProof.Rows.args_cons ?_ rfl) rfl rfl
  refine Call_ (ld_blt I hg2 hm2 PyProof.Rows.boot_set ?_)
  refine PyProof.Rows.callWith_type1 (PyProof.Rows.args_cons (thn (ha.run pins s σ H _ I h) fun v s1 ⟨x, H1, I1, r1, q1⟩ => PyProof.Rows.args_nil ?_) na) na rfl
  obtain ⟨l, ns, rfl, hq, h1, q1⟩ := q1
  cases r1
  rcases hq with hq | hq
  · obtain ⟨its, r, pl, hz⟩ := I1.list hq
    have hl : its.toArray.size = ns.length := by rw [List.size_toArray, ← r.length, List.length_map]
    refine call_set_list (I1.ok.hd hc) pl.isList (ns := ns) (by simpa using r.ints) (by unfold scanBound; omega) fun h' tk hS hk => ?_
    rw [hl, firstMet_ddup] at hS
    refine PyProof.Rows.args_nil ?_
    obtain ⟨o, es, ep, t, ho, hex, hd, _, _, _, hf, hn⟩ := hS
    have I2 : L2.Inv X pins σ H1 { s1 with heap := h', toks := tk } := I1.kept fun b o e => hk b o (Heap.lt_size e) e
    have hle : (ddup ns).length ≤ 1000 := by
      rw [← firstMet_ddup]
      exact Nat.le_trans (firstMet_length_le _ _) h1
    refine call_len_set ho hex hd hf (by rw [hn] <;> omega) ⟨.int (ddup ns).length, H1, I2.tok _, ⟨_, by rw [hn]⟩, q1⟩
  · obtain ⟨its, r, pt, hz⟩ := I1.tuple hq
    have hi : IntsAre its.toArray.toList ns := by simpa using r.ints
    refine call_set_tupI ns (I1.ok.hd hc) (show s1.heap.IsTuple l its.toArray from pt) hi (by unfold scanBound; omega) fun h' tk c R1 hcn k => ?_
    obtain ⟨o, es, ep, t, ho, hex, hdt, g, nd, hm2, hb, hf, hn, hr, hl2⟩ := R1
    refine PyProof.Rows.args_nil ?_
    have I2 : L2.Inv X pins σ H1 { s1 with heap := h', toks := tk } := I1.kept k
    have e : c = (ddup ns).length := by
      rw [← hn, ← Array.length_toList, ← List.length_map (f := keyOf)]
      refine ddup_len nd fun j => ?_
      rw [← hm2 j, decide_eq_true_eq]
    refine call_len_set ho hex hdt hf (by rw [hn] <;> omega) ⟨.int (ddup ns).length, H1, I2.tok _, ⟨_, by rw [hn, e]⟩, q1⟩
end
end Ev

set_option maxRecDepth 100000
set_option maxHeartbeats 4000000
namespace Ev
open PySem PySem.Spec PyProof.Rows L2

section
variable {G : GG} {xf : Nat → Option Str} {Wx : L2.WX} {m m1 : Fm} {w w1 : Wd} {H H1 : Hp} {e : Env} {σ : L2.St} {C : Cfg} {X : Cx} {pos : Pos}
variable (G xf Wx) in
def TAnd (C : Cfg) (x : Xs) : TE := fun σ H Q => ∃ m e w, Rel G m e w σ H ∧ PostE G xf Wx m w H e σ (RR G) Q (evAnd C x e w)
variable (G xf Wx) in
def TAndT (C : Cfg) (x : Xs) : TT := fun σ H Q => ∃ m e w, Rel G m e w σ H ∧ PostE G xf Wx m w H e σ RB Q (tst (evAnd C x e) w)
variable (G xf Wx) in
def TOr (C : Cfg) (x : Xs) : TE := fun σ H Q => ∃ m e w, Rel G m e w σ H ∧ PostE G xf Wx m w H e σ (RR G) Q (evOr C x e w)
variable (G xf Wx) in
def TOrT (C : Cfg) (x : Xs) : TT := fun σ H Q => ∃ m e w, Rel G m e w σ H ∧ PostE G xf Wx m w H e σ RB Q (tst (evOr C x e) w)
theorem tst_nb {x : Ev.X} {Q : Bool → Hp → Prop} (r : Rel G m e w σ H) (q : PostE G xf Wx m w H e σ RB Q (tst (nb e x (ev C x e)) w)) : PostE G xf Wx m w H e σ RB Q (tst (ev C x e) w) := by
  unfold nb at q
  by_cases ho : ownV e x = true
  · rw [if_pos ho] at q; exact PostE.stk_elim (by exact q)
  · rw [if_neg ho] at q; exact q
theorem and_one {a : Expr} {x : Ev.X} (ha : PE X a (TB G xf Wx C x)) : PE X (.BoolOp .And [a] pos) (TAnd G xf Wx C (.cons x .nil)) :=
  pe_weak (pe_one (tn_of ha)) fun σ H Q ⟨m, e, w, r, q⟩ => ⟨m, e, w, r, by rw [evAnd] at q; exact q⟩
theorem or_one {a : Expr} {x : Ev.X} (ha : PE X a (TB G xf Wx C x)) : PE X (.BoolOp .Or [a] pos) (TOr G xf Wx C (.cons x .nil)) :=
  pe_weak (pe_one (tn_of ha)) fun σ H Q ⟨m, e, w, r, q⟩ => ⟨m, e, w, r, by rw [evOr] at q; exact q⟩
theorem and_oneT {a : Expr} {x : Ev.X} (ha : PT X a (TT' G xf Wx C x)) : PW X (.BoolOp .And [a] pos) (TAndT G xf Wx C (.cons x .nil)) :=
  pw_weak (pw_and1 ha) fun σ H Q ⟨m, e, w, r, q⟩ => ⟨m, e, w, r, tst_nb r (by rw [evAnd] at q; exact q)⟩
theorem or_oneT {a : Expr} {x : Ev.X} (ha : PT X a (TT' G xf Wx C x)) : PW X (.BoolOp .Or [a] pos) (TOrT G xf Wx C (.cons x .nil)) :=
  pw_weak (pw_or1 ha) fun σ H Q ⟨m, e, w, r, q⟩ => ⟨m, e, w, r, tst_nb r (by rw [evOr] at q; exact q)⟩
theorem and_cons {a b : Expr} {rest : List Expr} {x y : Ev.X} {ys : Xs} (ha : PE X a (TB G xf Wx C x)) (hb : PE X (.BoolOp .And (b :: rest) pos) (TAnd G xf Wx C (.cons y ys))) :
    PE X (.BoolOp .And (a :: b :: rest) pos) (TAnd G xf Wx C (.cons x (.cons y ys))) :=
  pe_weak (pe_and ha hb) fun σ H Q ⟨m, e, w, r, q⟩ => by
    rw [evAnd] at q
    refine ⟨m, e, w, r, tst_post r (q.step fun kk w1 u m1 H1 x1 r1 y1 q1 => ?_)⟩
    cases y1
    cases kk with
    | true => exact ⟨m1, e, w1, r1, q1⟩
    | false => exact PostE.val (d := D.bl _) (v := V.bl _) (by exact q1) r1 (R.bl _)
theorem or_cons {a b : Expr} {rest : List Expr} {x y : Ev.X} {ys : Xs} (ha : PE X a (TB G xf Wx C x)) (hb : PE X (.BoolOp .Or (b :: rest) pos) (TOr G xf Wx C (.cons y ys))) :
    PE X (.BoolOp .Or (a :: b :: rest) pos) (TOr G xf Wx C (.cons x (.cons y ys))) :=
  pe_weak (pe_or ha hb) fun σ H Q ⟨m, e, w, r, q⟩ => by
    rw [evOr] at q
    refine ⟨m, e, w, r, tst_post r (q.step fun kk w1 u m1 H1 x1 r1 y1 q1 => ?_)⟩
    cases y1
    cases kk with
    | true => exact PostE.val (d := D.bl _) (v := V.bl _) (by exact q1) r1 (R.bl _)
    | false => exact ⟨m1, e, w1, r1, q1⟩
theorem and_consT {a b : Expr} {rest : List Expr} {x y : Ev.X} {ys : Xs} (ha : PT X a (TT' G xf Wx C x)) (hb : PW X (.BoolOp .And (b :: rest) pos) (TAndT G xf Wx C (.cons y ys))) :
    PW X (.BoolOp .And (a :: b :: rest) pos) (TAndT G xf Wx C (.cons x (.cons y ys))) :=
  pw_weak (pw_and ha hb) fun σ H Q ⟨m, e, w, r, q⟩ => by
    rw [evAnd] at q
    unfold tst at q
    rw [bnd_assoc] at q
    refine ⟨m, e, w, r, PostE.step (r := tst (ev C x e)) q fun kk w1 u m1 H1 x1 r1 y1 q1 => ?_⟩
    cases y1
    cases kk with
    | true => exact ⟨m1, e, w1, r1, q1⟩
    | false => exact PostE.val (by exact q1) r1 rfl
theorem or_consT {a b : Expr} {rest : List Expr} {x y : Ev.X} {ys : Xs} (ha : PT X a (TT' G xf Wx C x)) (hb : PW X (.BoolOp .Or (b :: rest) pos) (TOrT G xf Wx C (.cons y ys))) :
    PW X (.BoolOp .Or (a :: b :: rest) pos) (TOrT G xf Wx C (.cons x (.cons y ys))) :=
  pw_weak (pw_or ha hb) fun σ H Q ⟨m, e, w, r, q⟩ => by
    rw [evOr] at q
    unfold tst at q
    rw [bnd_assoc] at q
    refine ⟨m, e, w, r, PostE.step (r := tst (ev C x e)) q fun kk w1 u m1 H1 x1 r1 y1 q1 => ?_⟩
    cases y1
    cases kk with
    | true => exact PostE.val (by exact q1) r1 rfl
    | false => exact ⟨m1, e, w1, r1, q1⟩
theorem c_and {es : List Expr} {xs : Xs} (h : PE X (.BoolOp .And es pos) (TAnd G xf Wx C xs)) : PE X (.BoolOp .And es pos) (TB G xf Wx C (.and xs)) :=
  pe_weak h fun σ H Q ⟨m, e, w, r, q⟩ => ⟨m, e, w, r, (PostE.rx rfl).mp (by rw [ev] at q; exact q)⟩
theorem c_or {es : List Expr} {xs : Xs} (h : PE X (.BoolOp .Or es pos) (TOr G xf Wx C xs)) : PE X (.BoolOp .Or es pos) (TB G xf Wx C (.or xs)) :=
  pe_weak h fun σ H Q ⟨m, e, w, r, q⟩ => ⟨m, e, w, r, (PostE.rx rfl).mp (by rw [ev] at q; exact q)⟩
theorem t_and {es : List Expr} {xs : Xs} (h : PW X (.BoolOp .And es pos) (TAndT G xf Wx C xs)) : PT X (.BoolOp .And es pos) (TT' G xf Wx C (.and xs)) :=
  pt_weak h.pt fun σ H Q ⟨m, e, w, r, q⟩ => ⟨m, e, w, r, by unfold tst at q ⊢; rw [ev] at q; exact q⟩
theorem t_or {es : List Expr} {xs : Xs} (h : PW X (.BoolOp .Or es pos) (TOrT G xf Wx C xs)) : PT X (.BoolOp .Or es pos) (TT' G xf Wx C (.or xs)) :=
  pt_weak h.pt fun σ H Q ⟨m, e, w, r, q⟩ => ⟨m, e, w, r, by unfold tst at q ⊢; rw [ev] at q; exact q⟩
theorem c_ite {ec ea eb : Expr} {c a b : Ev.X} (hc : PT X ec (TT' G xf Wx C c)) (ha : PE X ea (TB G xf Wx C a)) (hb : PE X eb (TB G xf Wx C b)) : PE X (.IfExp ec ea eb pos) (TB G xf Wx C (.ite c a b)) :=
  pe_weak (pe_ifExp hc (tn_of ha) (tn_of hb)) fun σ H Q ⟨m, e, w, r, q⟩ => by
    rw [ev] at q
    refine ⟨m, e, w, r, q.step fun kk w1 u m1 H1 x1 r1 y1 q1 => ?_⟩
    cases y1
    cases kk with
    | true => exact ⟨m1, e, w1, r1, (PostE.rx rfl).mp q1⟩
    | false => exact ⟨m1, e, w1, r1, (PostE.rx rfl).mp q1⟩
theorem pt_ifExp {c a b : Expr} {tA ta tb : TT} (hc : PT X c tA) (ha : PT X a ta) (hb : PT X b tb) : PT X (.IfExp c a b pos) (fun σ H Q => tA σ H fun k H1 => if k = true then ta σ H1 Q else tb σ H1 Q) := by
  refine ⟨fun pins s σ H Q I h => ?_⟩
  show wpAny _ _ (isTrue c X.env (eval c X.env) >>= fun k => if k = true then isTrue a X.env (eval a X.env) else isTrue b X.env (eval b X.env)) _ _ _
  refine wpAny_bind (thn (hc.run pins s σ H _ I h) fun d s1 ⟨H1, I1, q1⟩ => ?_)
  cases d with
  | true => exact ha.run pins s1 σ H1 Q I1 q1
  | false => exact hb.run pins s1 σ H1 Q I1 q1
theorem t_ite {ec ea eb : Expr} {c a b : Ev.X} (hc : PT X ec (TT' G xf Wx C c)) (ha : PT X ea (TT' G xf Wx C a)) (hb : PT X eb (TT' G xf Wx C b)) : PT X (.IfExp ec ea eb pos) (TT' G xf Wx C (.ite c a b)) :=
  pt_weak (pt_ifExp hc ha hb) fun σ H Q ⟨m, e, w, r, q⟩ => by
    rw [ev] at q
    unfold tst at q
    rw [bnd_assoc] at q
    refine ⟨m, e, w, r, PostE.step (r := tst (ev C c e)) q fun kk w1 u m1 H1 x1 r1 y1 q1 => ?_⟩
    cases y1
    cases kk with
    | true => exact ⟨m1, e, w1, r1, tst_nb r1 q1⟩
    | false => exact ⟨m1, e, w1, r1, tst_nb r1 q1⟩
theorem chain_post {o o' : Co} {x a b c : Ev.X} {Q : VK} (hK : X.K = G.K) (hx : ownV e x = false) (r : Rel G m e w σ H)
    (q : PostE G xf Wx m w H e σ (RX G e σ x) Q ((ev C a e >>= fun x => ev C b e >>= fun y => tst (cmpop o x y) >>= fun r => match r with | true => ev C c e >>= fun z => cmpop o' y z | false => pure (.bl false)) w)) :
    tChain (rCo G xf C X.K o) (rCo G xf C X.K o') (TB G xf Wx C a) (TB G xf Wx C b) (TB G xf Wx C c) σ H Q := by
  refine ⟨m, e, w, r, q.step fun d w1 u m1 H1 x1 r1 y1 q1 => ⟨m1, e, w1, r1, q1.step fun d' w2 v m2 H2 x2 r2 y2 q2 => ?_⟩⟩
  unfold tst at q2
  rw [bnd_assoc] at q2
  have q3 : PostE G xf Wx m2 w2 H2 e σ (RX G e σ (.k .non)) (fun z H3 => ∃ k, z = .bl k ∧ (if k = true then TB G xf Wx C c σ H3 fun w' H4 => rCo G xf C X.K o' v w' H4 Q else Q (.bl false) H3)) (cmpop o d d' w2) := by
    refine q2.step fun d2 w3 z m3 H3 x3 r3 y3 q3 => ?_
    cases d2 <;> first | exact PostE.stk_elim (by exact q3) | skip
    rename_i k
    refine ⟨k, y3.bl r3, ?_⟩
    cases k with
    | true =>
      simp only [if_true]
      exact ⟨m3, e, w3, r3, PostE.step (r := ev C c e) q3 fun d4 w4 v4 m4 H4 x4 r4 y4 q4 => co_post hK hx r4 ((y2.mono (x3.trans x4)).view r4) (y4.view r4) q4⟩
    | false =>
      simp only [Bool.false_eq_true, if_false]
      exact PostE.val (by exact q3) r3 ((RX.of hx).mpr (.bl _))
  exact co_post hK rfl r2 ((y1.mono x2).view r2) (y2.view r2) q3
theorem c_cmp2 {ea eb ec : Expr} {a b c : Ev.X} {o o' : Co} (hK : X.K = G.K) (hu : X.A.units + 200 < cLine) (he : ∀ c j, C.hot = false → C.ce c = some j → EqUse G X c j ∧ FnUse G xf X j (C.cf j)) (ha : PE X ea (TB G xf Wx C a)) (hb : PE X eb (TB G xf Wx C b)) (hc : PE X ec (TB G xf Wx C c))
    (hm : lastMarks [o.op, o'.op] [eb, ec] = false) : PE X (.Compare ea [o.op, o'.op] [eb, ec] pos) (TB G xf Wx C (.cmp2 o o' a b c)) :=
  pe_weak (pe_chain (op_co hu he o) (op_co hu he o') ha hb hc hm) fun σ H Q ⟨m, e, w, r, q⟩ => by
    rw [ev] at q
    exact chain_post hK rfl r q
theorem t_cmp2 {ea eb ec : Expr} {a b c : Ev.X} {o o' : Co} (hK : X.K = G.K) (hu : X.A.units + 200 < cLine) (he : ∀ c j, C.hot = false → C.ce c = some j → EqUse G X c j ∧ FnUse G xf X j (C.cf j)) (ha : PE X ea (TB G xf Wx C a)) (hb : PE X eb (TB G xf Wx C b)) (hc : PE X ec (TB G xf Wx C c))
    (hm : lastMarks [o.op, o'.op] [eb, ec] = false) : PT X (.Compare ea [o.op, o'.op] [eb, ec] pos) (TT' G xf Wx C (.cmp2 o o' a b c)) :=
  pt_weak (pt_chain (op_co hu he o) (op_co hu he o') ha hb hc hm) fun σ H Q ⟨m, e, w, r, q⟩ => by
    have q2 := tst_post r q
    rw [ev] at q2
    exact chain_post hK rfl r q2

/-! ### slices -/
variable (G xf Wx) in
def TO' (C : Cfg) (x : Xo) : TO := fun σ H Q => ∃ m e w, Rel G m e w σ H ∧ PostE G xf Wx m w H e σ (fun _ _ _ v d => v = d) Q (evo C x e w)
theorem po_no : PO X none (TO' G xf Wx C .no) := ⟨fun pins s σ H Q I ⟨m, e, w, r, q⟩ => po_none.run pins s σ H Q I (by rw [evo] at q; exact PostE.val q r rfl)⟩
theorem po_so {ea : Expr} {a : Ev.X} (h : PE X ea (TB G xf Wx C a)) : PO X (some ea) (TO' G xf Wx C (.so a)) := ⟨fun pins s σ H Q I ⟨m, e, w, r, q⟩ => (po_some h).run pins s σ H Q I (by
  rw [evo] at q
  refine ⟨m, e, w, r, q.step fun d w1 u m1 H1 x1 r1 y1 q1 => ?_⟩
  cases d <;> first | exact PostE.stk_elim (by exact q1) | skip
  exact ⟨_, y1.int r1, PostE.val (by exact q1) r1 rfl⟩)⟩
theorem cut_RA {vs : List V} {ds : List D} (h : RA G m.F m.rho w.length H vs ds) (lo hi : Option Int) : RA G m.F m.rho w.length H (cutV vs lo hi) (cut ds lo hi) := by
  unfold cutV cut
  rw [h.length]
  exact (h.drop _).take _
theorem c_sli {ea : Expr} {lo hi : Option Expr} {a : Ev.X} {xl xh : Xo} {p2 : Pos} (hK : X.K = G.K) (ha : PE X ea (TB G xf Wx C a)) (hl : PO X lo (TO' G xf Wx C xl)) (hh : PO X hi (TO' G xf Wx C xh)) : PE X (.Subscript ea (.Slice lo hi none p2) pos) (TB G xf Wx C (.sli a xl xh)) :=
  pe_weak (pe_slice (sl_list.or sl_tupA) ha hl hh) fun σ H Q ⟨m, e, w, r, q⟩ => by
    rw [ev] at q
    refine ⟨m, e, w, r, q.step fun d w1 u m1 H1 x1 r1 y1 q1 => ⟨m1, e, w1, r1, q1.step fun l w2 l' m2 H2 x2 r2 y2 q2 => ⟨m2, e, w2, r2, q2.step fun h w3 h' m3 H3 x3 r3 y3 q3 => ?_⟩⟩⟩
    have y2' : l' = l := y2
    have y3' : h' = h := y3
    subst y2' y3'
    obtain ⟨c, vw, q4, -⟩ := der_post r3 (y1.mono (x2.trans x3)) q3
    cases c <;> simp only [sliop] at q4 <;> first | exact PostE.stk_elim (by exact q4) | skip
    · obtain ⟨p, vs, rfl, t1, l1, z1⟩ := vw.tup
      refine .inr ⟨p, vs, rfl, by rw [hK]; exact t1.sq, fun hw => ?_, fun _ p' hp => ?_⟩
      · refine PostE.val q4 r3 ((RX.of rfl).mpr ?_)
        rename_i xs
        have e1 : cut xs l' h' = xs := by
          unfold cut
          rw [z1.length] at hw
          rw [hw.1, hw.2, List.drop_zero, Nat.sub_zero, List.take_length]
        rw [e1]
        exact .tup t1 l1 z1
      · refine q4.newX rfl r3 hp fun r4 => ?_
        exact .tup (.inl ⟨.inl rfl, upd_same⟩) (Nat.le_trans (cutV_length _ _ _) l1) (RA.ext (r3.new hp _).1 (cut_RA z1 _ _))
    · obtain ⟨p, vs, rfl, t1, l1, z1⟩ := vw.lst
      refine .inl ⟨p, vs, rfl, .of t1, fun p' hp => ?_⟩
      refine q4.newX rfl r3 hp fun r4 => ?_
      exact .lst (.inl rfl) upd_same (Nat.le_trans (cutV_length _ _ _) l1) (RA.ext (r3.new hp _).1 (cut_RA z1 _ _))
    · obtain ⟨p, rfl, t1, l1⟩ := vw.scr
      refine .inl ⟨p, _, rfl, by rw [hK]; exact t1, fun p' hp => ?_⟩
      refine q4.newX rfl r3 hp fun r4 => ?_
      exact .lst (.inl rfl) upd_same (Nat.le_trans (cutV_length _ _ _) (by rw [List.length_map]; exact l1)) (RA.ext (r3.new hp _).1 (cut_RA (RA.ofInts _) _ _))
theorem c_rev {ea : Expr} {a : Ev.X} {k : Nat} {p1 p2 p3 : Pos} (hK : X.K = G.K) (ha : PE X ea (TB G xf Wx C a)) : PE X (.Subscript ea (.Slice none none (some (.UnaryOp .USub (.Constant (.int 1) k p1) p2)) p3) pos) (TB G xf Wx C (.rev a)) :=
  pe_weak (pe_revL ha) fun σ H Q ⟨m, e, w, r, q⟩ => by
    rw [ev] at q
    refine ⟨m, e, w, r, q.step fun d w1 u m1 H1 x1 r1 y1 q1 => ?_⟩
    cases d <;> first | exact PostE.stk_elim (by exact q1) | skip
    obtain ⟨p, vs, rfl, t1, l1, z1⟩ := y1.lst r1
    refine ⟨p, vs, rfl, .of t1, fun p' hp => ?_⟩
    refine PostE.newX (d := .lst _) rfl (by exact q1) r1 hp fun r4 => ?_
    exact .lst (.inl rfl) upd_same (by rw [List.length_reverse]; exact l1) (RA.ext (r1.new hp _).1 z1.reverse)

/-! ### fields -/
/-- a context that holds the caught errors that are told of -/
def Pins (G : GG) (C : Cfg) (X : Cx) : Prop := ∀ a c pn, G.zp a c pn → G.xn c = C.xf c ∧ (∃ oe, (a, oe) ∈ X.pn ∧ Zc (.ref (G.cl c)) pn oe ∧ ∃ vs, oe.data = .fields vs) ∧ ∀ f, C.xf c = some f → XfC X.K (G.cl c) ∧ PySem.W.findIn X.K (.ref (G.cl c)) f = some none
theorem pe_xfp {X : Cx} {a C : Addr} {oe : Obj} {cls : Value} {d : Option Addr} {e : Expr} {te : TE} {pos : Pos} {n : Str} (T : XfC X.K C) (hno : PySem.W.findIn X.K (.ref C) n = some none)
    (hp : (a, oe) ∈ X.pn) (hz : Zc cls d oe) (hf : ∃ vs, oe.data = .fields vs) (he : PE X e te) (hb : attributeBase e n X.env (eval e X.env) = eval e X.env) :
    PE X (.Attribute e n pos) (tXf a cls d C n te) := by
  refine ⟨fun pins s σ H Q I h => ?_⟩
  refine attr_of hb (thn (he.run pins s σ H _ I h) fun u s1 hh => ?_)
  obtain ⟨x, H1, I1, rx, ex, ec, dd, fs, v, ed, ea, l, q⟩ := hh
  subst ex
  obtain rfl : u = Value.ref a := rx
  subst ec
  subst ed
  obtain ⟨ha, _⟩ := I1.pin (a, oe) (List.mem_append_left _ hp)
  obtain ⟨vs, hd⟩ := hf
  have hx : ObjOk X.prog X.w H1 s1.heap dd (.xd fs) := I1.hok dd _ ea
  obtain ⟨mA, hns, hr⟩ := hx
  obtain ⟨od, ho, hl⟩ := lookIn_ns hns
  obtain ⟨u, hu, ru⟩ := RelO.some_of (v := v) (o := mA n) (by rw [← l]; exact hr n)
  have J : PySem.W.InstAt s1.heap a oe C (some od) := ⟨ha, hz.1, by unfold PySem.W.notCls; rw [hd] <;> rfl, by rw [hz.2]; exact ho⟩
  exact HandSPX.exc_get I1.kIn J T.ga T.gg T.exC (PySem.W.findObj_own T.hdC hno rfl (by rw [hl, hu])) (handed_of ru) ⟨v, H1, I1.tok _, ru, q⟩
theorem pe_or {X : Cx} {e : Expr} {t u : TE} (h1 : PE X e t) (h2 : PE X e u) : PE X e (fun σ H Q => t σ H Q ∨ u σ H Q) := ⟨fun pins s σ H Q I q => q.elim (h1.run pins s σ H Q I) (h2.run pins s σ H Q I)⟩
/-- the field of a caught error -/
def tXc (G : GG) (C : Cfg) (a : Ev.X) (f : Str) : TE := fun σ H Q => ∃ i a0 c pn, a = .v i ∧ G.zp a0 c pn ∧ C.xf c = some f ∧ tXf a0 (.ref (G.cl c)) pn (G.cl c) f (tVar i) σ H Q
theorem pe_xc {ea : Expr} {a : Ev.X} {f : Str} (hx : Pins G C X) (hv : ∀ i, a = .v i → PE X ea (tVar i)) (hb : attributeBase ea f X.env (eval ea X.env) = eval ea X.env) : PE X (.Attribute ea f pos) (tXc G C a f) :=
  ⟨fun pins s σ H Q I ⟨i, a0, c, pn, ha, hz, hf, h⟩ => by
    obtain ⟨_, ⟨oe, h1, h2, h3⟩, h4⟩ := hx a0 c pn hz
    obtain ⟨h5, h6⟩ := h4 f hf
    exact (pe_xfp h5 h6 h1 h2 h3 (hv i ha) hb).run pins s σ H Q I h⟩
theorem ownX_some {a : Ev.X} {p : Nat × Option D} (h : ownX e a = some p) : ∃ i, a = .v i ∧ e[i]? = some (.exc p.1 p.2) := by
  cases a <;> first | cases h | skip
  rename_i i
  unfold ownX at h
  dsimp only at h
  cases z : e[i]? with
  | none => rw [z] at h; cases h
  | some s => cases s with
    | exc c x => rw [z] at h; cases h; exact ⟨i, rfl, z⟩
    | _ => rw [z] at h; cases h
/-- isinstance is not asked of a caught error here -/
theorem isa_post {β : Type} {Rl : Fm → Wd → Hp → β → D → Prop} {Q : β → Hp → Prop} {a : Ev.X} {ts : List Ty} (q : PostE G xf Wx m w H e σ Rl Q (ev C (.isa a ts) e w)) : PostE G xf Wx m w H e σ Rl Q ((ev C a e >>= fun x => match isaTs C.nc x ts with | some b => pure (.bl b) | none => stk) w) := by
  rw [ev] at q
  cases z : ownX e a with
  | none => rw [z] at q; exact q
  | some p => rw [z] at q; exact PostE.stk_elim (by exact q)
theorem c_fld {ea : Expr} {a : Ev.X} {f : Str} (hf : ∀ c, c < C.nc → Cls X.K (G.cl c) ∧ NoAttr X.K (G.cl c) f) (hb : attributeBase ea f X.env (eval ea X.env) = eval ea X.env) (ha : PE X ea (TB G xf Wx C a)) (hx : Pins G C X) (hv : ∀ i, a = .v i → PE X ea (tVar i)) : PE X (.Attribute ea f pos) (TB G xf Wx C (.fld a f)) :=
  pe_weak (pe_or (pe_fld ha hb) (pe_xc hx hv hb)) fun σ H Q ⟨m, e, w, r, q⟩ => by
    rw [ev] at q
    by_cases zx : ownX e a = none
    case neg =>
      obtain ⟨p, zx⟩ := Option.ne_none_iff_exists'.mp zx
      rw [zx] at q
      obtain ⟨i, rfl, he⟩ := ownX_some zx
      obtain ⟨c, x⟩ := p
      obtain ⟨a0, pn, h1, h2, h3⟩ := r.sl i _ he
      have q : PostE G xf Wx m w H e σ (RX G e σ (.fld (.v i) f)) Q (fldX C c x f w) := q
      unfold fldX at q
      cases x with
      | none => exact PostE.stk_elim (by exact q)
      | some d =>
        dsimp only at q
        by_cases hc : C.xf c = some f
        · rw [if_pos hc] at q
          cases pn with
          | none => exact h3.elim
          | some p =>
            obtain ⟨f', v, g1, g2, g3, g4⟩ := h3
            rw [(hx a0 c _ h2).1, hc] at g1
            cases g1
            exact .inr ⟨i, a0, c, some p, rfl, h2, hc, .ref a0, h1, rfl, rfl, p, [(f, v)], v, rfl, g2, by simp, q.val r ((RX.of rfl).mpr g4)⟩
        · rw [if_neg hc] at q; exact PostE.stk_elim (by exact q)
    rw [zx] at q
    refine .inl ⟨m, e, w, r, PostE.step (r := ev C a e) q fun d w1 u m1 H1 x1 r1 y1 q1 => ?_⟩
    obtain ⟨c, vw, q2, -⟩ := der_post r1 y1 q1
    cases c <;> first | exact PostE.stk_elim (by exact q2) | skip
    rename_i c fs
    obtain ⟨p, dx, vs, rfl, t1, z1⟩ := vw.ins
    by_cases hc : c < C.nc
    · simp only [if_pos hc] at q2
      obtain ⟨d, hd, q3⟩ := ofO_post q2
      obtain ⟨v, h1, h2⟩ := z1.look hd
      exact ⟨p, _, dx, vs, v, rfl, t1, (hf c hc).1, (hf c hc).2, h1, PostE.val q3 r1 ((RX.of rfl).mpr h2)⟩
    · simp only [if_neg hc] at q2
      exact PostE.stk_elim (by exact q2)
end
end Ev

set_option maxRecDepth 100000
set_option maxHeartbeats 4000000
namespace Ev
open PySem PySem.Spec PyProof.Rows L2

theorem insI_perm (a : Int) : ∀ l : List Int, (insI a l).Perm (a :: l)
  | [] => .refl _
  | b :: r => by
    unfold insI
    by_cases h : a ≤ b
    · rw [if_pos h]
    · rw [if_neg h]
      exact ((insI_perm a r).cons b).trans (.swap a b r)
theorem sortI_perm : ∀ l : List Int, (sortI l).Perm l
  | [] => .refl _
  | a :: r => (insI_perm a (sortI r)).trans ((sortI_perm r).cons a)
theorem insI_sorted (a : Int) : ∀ l : List Int, l.Pairwise (· ≤ ·) → (insI a l).Pairwise (· ≤ ·)
  | [], _ => by simp [insI]
  | b :: r, h => by
    unfold insI
    have hb := List.pairwise_cons.mp h
    by_cases hab : a ≤ b
    · rw [if_pos hab]
      exact List.pairwise_cons.mpr ⟨fun x hx => (List.mem_cons.mp hx).elim (fun e => e ▸ hab) fun hx => Int.le_trans hab (hb.1 x hx), h⟩
    · rw [if_neg hab]
      refine List.pairwise_cons.mpr ⟨fun x hx => ?_, insI_sorted a r hb.2⟩
      rcases List.mem_cons.mp ((insI_perm a r).mem_iff.mp hx) with e | e
      · rw [e]; omega
      · exact hb.1 x e
theorem sortI_sorted : ∀ l : List Int, (sortI l).Pairwise (· ≤ ·)
  | [] => .nil
  | a :: r => insI_sorted a _ (sortI_sorted r)
theorem sortI_eq {l k : List Int} (hp : k.Perm l) (hs : k.Pairwise (· ≤ ·)) : k = sortI l :=
  List.Perm.eq_of_pairwise (fun x y _ _ h1 h2 => Int.le_antisymm h1 h2) hs (sortI_sorted l) (hp.trans (sortI_perm l).symm)
theorem foldMax (l : List Int) : ∀ a : Int, (l.foldl (fun x y => if x < y then y else x) a ∈ a :: l) ∧ ∀ y ∈ a :: l, y ≤ l.foldl (fun x y => if x < y then y else x) a := by
  induction l with
  | nil => intro a; simp
  | cons b r ih =>
    intro a
    rw [List.foldl_cons]
    have hc : (if a < b then b else a) = a ∨ (if a < b then b else a) = b := by split <;> simp
    have hg : a ≤ (if a < b then b else a) ∧ b ≤ (if a < b then b else a) := by split <;> omega
    generalize (if a < b then b else a) = c at hc hg ⊢
    obtain ⟨h1, h2⟩ := ih c
    have hm := h2 c List.mem_cons_self
    refine ⟨?_, fun y hy => ?_⟩
    · rcases List.mem_cons.mp h1 with e | e
      · rw [e]; rcases hc with e | e <;> rw [e] <;> simp
      · exact List.mem_cons_of_mem _ (List.mem_cons_of_mem _ e)
    · rcases List.mem_cons.mp hy with e | e
      · subst e; omega
      · rcases List.mem_cons.mp e with e | e
        · subst e; omega
        · exact h2 y (List.mem_cons_of_mem _ e)
theorem foldMin (l : List Int) : ∀ a : Int, (l.foldl (fun x y => if y < x then y else x) a ∈ a :: l) ∧ ∀ y ∈ a :: l, l.foldl (fun x y => if y < x then y else x) a ≤ y := by
  induction l with
  | nil => intro a; simp
  | cons b r ih =>
    intro a
    rw [List.foldl_cons]
    have hc : (if b < a then b else a) = a ∨ (if b < a then b else a) = b := by split <;> simp
    have hg : (if b < a then b else a) ≤ a ∧ (if b < a then b else a) ≤ b := by split <;> omega
    generalize (if b < a then b else a) = c at hc hg ⊢
    obtain ⟨h1, h2⟩ := ih c
    have hm := h2 c List.mem_cons_self
    refine ⟨?_, fun y hy => ?_⟩
    · rcases List.mem_cons.mp h1 with e | e
      · rw [e]; rcases hc with e | e <;> rw [e] <;> simp
      · exact List.mem_cons_of_mem _ (List.mem_cons_of_mem _ e)
    · rcases List.mem_cons.mp hy with e | e
      · subst e; omega
      · rcases List.mem_cons.mp e with e | e
        · subst e; omega
        · exact h2 y (List.mem_cons_of_mem _ e)

section
variable {G : GG} {xf : Nat → Option Str} {Wx : L2.WX} {m m1 : Fm} {w w1 : Wd} {H H1 : Hp} {e : Env} {σ : L2.St} {C : Cfg} {X : Cx} {pos : Pos}
theorem RA.ints_of {n : Nat} {F : Pr} {rho : Nat → Addr} {vs : List V} {ds : List D} {ns : List Int} (h : RA G F rho n H vs ds) (q : intsD ds = some ns) : vs = ns.map V.int := by
  induction vs generalizing ds ns with
  | nil => cases h; cases q; rfl
  | cons v vs ih => cases h with
    | @cons _ d _ ds a b =>
      cases d <;> simp only [intsD] at q <;> first | cases q | skip
      cases a
      cases z : intsD ds with
      | none => rw [z] at q; cases q
      | some k =>
        rw [z] at q
        cases q
        rw [List.map_cons, ih b z]
theorem RA.bls_of {n : Nat} {F : Pr} {rho : Nat → Addr} {vs : List V} {ds : List D} {ns : List Bool} (h : RA G F rho n H vs ds) (q : boolsD ds = some ns) : vs = ns.map V.bl := by
  induction vs generalizing ds ns with
  | nil => cases h; cases q; rfl
  | cons v vs ih => cases h with
    | @cons _ d _ ds a b =>
      cases d <;> simp only [boolsD] at q <;> first | cases q | skip
      cases a
      cases z : boolsD ds with
      | none => rw [z] at q; cases q
      | some k =>
        rw [z] at q
        cases q
        rw [List.map_cons, ih b z]
theorem RK.ints_of {n : Nat} {F : Pr} {rho : Nat → Addr} {vs : List (Key × V)} {ds : List (D × D)} {ns : List Int} (h : RK G F rho n H vs ds) (q : intsD (ds.map (·.1)) = some ns) : vs.map (·.1) = ns.map Sum.inl := by
  induction vs generalizing ds ns with
  | nil => cases h; cases q; rfl
  | cons v vs ih => cases h with
    | @cons k _ d _ ds a b =>
      cases k with
      | inr x => simp [intsD, keyD] at q
      | inl i =>
        simp only [List.map_cons, keyD, intsD] at q
        cases z : intsD (ds.map (·.1)) with
        | none => rw [z] at q; cases q
        | some k =>
          rw [z] at q
          cases q
          rw [List.map_cons, List.map_cons, ih b z]
theorem onInts_post {α β : Type} {Rl : Fm → Wd → Hp → β → D → Prop} {Q : β → Hp → Prop} {xs : List D} {f : List Int → M D} (h : PostE G xf Wx m w H e σ Rl Q (onInts xs f w)) : ∃ ns, intsD xs = some ns ∧ PostE G xf Wx m w H e σ Rl Q (f ns w) := by
  unfold onInts at h
  cases z : intsD xs with
  | none => rw [z] at h; exact PostE.stk_elim (by exact h)
  | some ns => rw [z] at h; exact ⟨ns, rfl, h⟩
/-- the rule of each builtin of one argument -/
def rLenA (K : PySem.W.Frag) : List V → Hp → VK → Prop := fun xs H Q => (∃ x n, xs = [x] ∧ LenV K x H n ∧ Q (.int n) H) ∨ ∃ a kvs, xs = [V.ref a] ∧ H a = some (.dK kvs) ∧ Q (.int kvs.length) H
theorem CallR.or {X : Cx} {f : Value} {r r' : List V → Hp → VK → Prop} (h : CallR X f r) (h' : CallR X f r') : CallR X f (fun xs H Q => r xs H Q ∨ r' xs H Q) := by
  intro pins s σ H xs us Q I rs q
  rcases q with q | q
  · exact h pins s σ H xs us Q I rs q
  · exact h' pins s σ H xs us Q I rs q
def rSortA (K : PySem.W.Frag) : List V → Hp → VK → Prop := fun xs H Q => rSorted K xs H Q ∨ ∃ (a : Addr) (kvs : List (Key × V)) (ks : List Int), xs = [.ref a] ∧ Rd H a (.dK kvs) ∧ kvs.map (·.1) = ks.map Sum.inl ∧ ks.length < 64 ∧
    ∀ (ys : List Int) (p : Addr), ys.Perm ks → ys.Pairwise (· ≤ ·) → H p = none → Q (.ref p) (upd H p (.lst (ys.map V.int)))
/-- which builtin it is -/
def B1.at : B1 → Option (String × Value)
  | .len => some ("len", .builtin "len") | .tuple => some ("tuple", .type "tuple") | .list => some ("list", .type "list") | .int => some ("int", .type "int") | .abs => some ("abs", .builtin "abs")
  | .all => some ("all", .builtin "all") | .any => some ("any", .builtin "any") | .sum => some ("sum", .builtin "sum") | .max => some ("max", .builtin "max") | .min => some ("min", .builtin "min") | .sorted => some ("sorted", .builtin "sorted")
  | _ => none
/-- may stand within an except suite -/
def B1.hot : B1 → Bool
  | .len => true | .tuple => true | .list => true | .int => true | .abs => true | _ => false
theorem RF_int (n : List Int) {F : Pr} {rho : Nat → Addr} {k : Nat} : RA G F rho k H (n.map V.int) (n.map D.int) := RA.ofInts n
def rB1 (K : PySem.W.Frag) : B1 → List V → Hp → VK → Prop
  | .len => rLenA K
  | .tuple => fun xs H Q => ∃ p ys, xs = [.ref p] ∧ ((SqL K H p ys ∧ ∀ l, H l = none → Q (.ref l) (upd H l (.tup ys))) ∨ (SqT K H p ys ∧ Q (.ref p) H))
  | .list => fun xs H Q => ∃ p ys, xs = [.ref p] ∧ (SqL K H p ys ∨ SqT K H p ys) ∧ ∀ l, H l = none → Q (.ref l) (upd H l (.lst ys))
  | .int => fun xs H Q => (∃ i, xs = [.int i] ∧ Q (.int i) H) ∨ ∃ k, xs = [.bl k] ∧ Q (.int (if k then 1 else 0)) H
  | .abs => fun xs H Q => ∃ i, xs = [.int i] ∧ Q (.int (if i < 0 then -i else i)) H
  | .all => rAll K
  | .any => rAny K
  | .sum => rSum K
  | .max => rMax K
  | .min => rMin K
  | .sorted => rSortA K
  | _ => fun _ _ _ => False
theorem b1_rule {b : B1} {p : String × Value} (h : b.at = some p) (hc : b.hot = true ∨ X.calm = true) : CallR X p.2 (rB1 X.K b) := by
  cases b <;> cases h
  · exact call_len.or call_lenD
  · exact call_tuple_of
  · exact call_list_of
  · exact call_int1
  · exact call_abs
  · exact cr_all (hc.elim (fun z => nomatch z) id)
  · exact cr_any (hc.elim (fun z => nomatch z) id)
  · exact cr_sum (hc.elim (fun z => nomatch z) id)
  · exact cr_max (hc.elim (fun z => nomatch z) id)
  · exact cr_min (hc.elim (fun z => nomatch z) id)
  · exact cr_sorted.or (call_sortedDI (hc.elim (fun z => nomatch z) id))
theorem b1_post {b : B1} {x : Ev.X} {d : D} {v : V} {Q : VK} (hK : X.K = G.K) (hx : ownV e x = false) (r : Rel G m e w σ H) (vw : View G m w H v d) (q : PostE G xf Wx m w H e σ (RX G e σ x) Q (b1op b d w)) : rB1 X.K b [v] H Q := by
  have hint : ∀ {u : V} {i : Int}, View G m w H u (.int i) → u = .int i := fun h => by
    rcases h.flat rfl with ⟨z, _⟩ | ⟨b, z, _⟩ | ⟨b, z, h⟩ | ⟨b, z, _⟩ <;> cases z
    exact h
  cases b <;> cases d <;> simp only [b1op] at q <;> first | exact PostE.stk_elim (by exact q) | skip
  -- len
  · obtain ⟨p, vs, rfl, t1, l1, z1⟩ := vw.tup
    refine .inl ⟨_, vs.length, rfl, .inr ⟨vs, by rw [hK]; exact t1.sq, rfl⟩, ?_⟩
    rw [z1.length]
    exact PostE.val q r ((RX.of hx).mpr (.int _))
  · obtain ⟨p, vs, rfl, t1, l1, z1⟩ := vw.lst
    refine .inl ⟨_, vs.length, rfl, .inl ⟨vs, .of t1, rfl⟩, ?_⟩
    rw [z1.length]
    exact PostE.val q r ((RX.of hx).mpr (.int _))
  · obtain ⟨p, vs, rfl, t1, l1, z1⟩ := vw.dic
    refine .inr ⟨_, vs, rfl, t1, ?_⟩
    rw [z1.length]
    exact PostE.val q r ((RX.of hx).mpr (.int _))
  · obtain ⟨p, rfl, t1, l1⟩ := vw.scr
    refine .inl ⟨_, _, rfl, .inl ⟨_, by rw [hK]; exact t1, rfl⟩, ?_⟩
    rw [List.length_map]
    exact PostE.val q r ((RX.of hx).mpr (.int _))
  -- tuple
  · obtain ⟨p, vs, rfl, t1, l1, z1⟩ := vw.tup
    exact ⟨p, vs, rfl, .inr ⟨by rw [hK]; exact t1.sq, PostE.val q r ((RX.of hx).mpr (.tup t1 l1 z1))⟩⟩
  · obtain ⟨p, vs, rfl, t1, l1, z1⟩ := vw.lst
    refine ⟨p, vs, rfl, .inl ⟨.of t1, fun p' hp => q.newX hx r hp fun r4 => ?_⟩⟩
    exact .tup (.inl ⟨.inl rfl, upd_same⟩) l1 (RA.ext (r.new hp _).1 z1)
  -- list
  · obtain ⟨p, vs, rfl, t1, l1, z1⟩ := vw.tup
    refine ⟨p, vs, rfl, .inr (by rw [hK]; exact t1.sq), fun p' hp => q.newX hx r hp fun r4 => ?_⟩
    exact .lst (.inl rfl) upd_same l1 (RA.ext (r.new hp _).1 z1)
  · obtain ⟨p, vs, rfl, t1, l1, z1⟩ := vw.lst
    refine ⟨p, vs, rfl, .inl (.of t1), fun p' hp => q.newX hx r hp fun r4 => ?_⟩
    exact .lst (.inl rfl) upd_same l1 (RA.ext (r.new hp _).1 z1)
  · obtain ⟨p, rfl, t1, l1⟩ := vw.scr
    refine ⟨p, _, rfl, .inl (by rw [hK]; exact t1), fun p' hp => q.newX hx r hp fun r4 => ?_⟩
    exact .lst (.inl rfl) upd_same (by rw [List.length_map]; exact l1) (RF_int _)
  -- int
  · rename_i b
    have hb : v = .bl b := by
      rcases vw.flat rfl with ⟨z, _⟩ | ⟨b', z, h⟩ | ⟨b', z, _⟩ | ⟨b', z, _⟩ <;> cases z
      exact h
    rw [hb]
    exact .inr ⟨_, rfl, PostE.val q r ((RX.of hx).mpr (.int _))⟩
  · rw [hint vw]
    exact .inl ⟨_, rfl, PostE.val q r ((RX.of hx).mpr (.int _))⟩
  -- abs
  · rw [hint vw]
    exact ⟨_, rfl, PostE.val q r ((RX.of hx).mpr (.int _))⟩
  -- all
  · rename_i xs
    obtain ⟨p, vs, rfl, t1, l1, z1⟩ := vw.lst
    cases z : boolsD xs with
    | none => rw [z] at q; exact PostE.stk_elim (by exact q)
    | some bs =>
      rw [z] at q
      have e1 := z1.bls_of z
      subst e1
      exact ⟨p, bs, rfl, .of t1, PostE.val q r ((RX.of hx).mpr (.bl _))⟩
  -- any
  · rename_i xs
    obtain ⟨p, vs, rfl, t1, l1, z1⟩ := vw.lst
    cases z : boolsD xs with
    | none => rw [z] at q; exact PostE.stk_elim (by exact q)
    | some bs =>
      rw [z] at q
      have e1 := z1.bls_of z
      subst e1
      exact ⟨p, bs, rfl, .of t1, PostE.val q r ((RX.of hx).mpr (.bl _))⟩
  -- sum
  · obtain ⟨p, vs, rfl, t1, l1, z1⟩ := vw.lst
    obtain ⟨ns, hn, q⟩ := onInts_post (α := D) q
    have e1 := z1.ints_of hn
    subst e1
    exact ⟨p, ns, rfl, .of t1, PostE.val q r ((RX.of hx).mpr (.int _))⟩
  -- max
  · obtain ⟨p, vs, rfl, t1, l1, z1⟩ := vw.lst
    obtain ⟨ns, hn, q⟩ := onInts_post (α := D) q
    have e1 := z1.ints_of hn
    subst e1
    obtain ⟨d, hd, q⟩ := ofO_post q
    cases ns with
    | nil => cases hd
    | cons a l =>
      obtain ⟨f1, f2⟩ := foldMax l a
      cases hd
      refine ⟨p, a :: l, rfl, .of t1, by simp, fun k h1 h2 => ?_⟩
      have : k = l.foldl (fun x y => if x < y then y else x) a := Int.le_antisymm (f2 k h1) (h2 _ f1)
      rw [this]
      exact PostE.val q r ((RX.of hx).mpr (.int _))
  -- min
  · obtain ⟨p, vs, rfl, t1, l1, z1⟩ := vw.lst
    obtain ⟨ns, hn, q⟩ := onInts_post (α := D) q
    have e1 := z1.ints_of hn
    subst e1
    obtain ⟨d, hd, q⟩ := ofO_post q
    cases ns with
    | nil => cases hd
    | cons a l =>
      obtain ⟨f1, f2⟩ := foldMin l a
      cases hd
      refine ⟨p, a :: l, rfl, .of t1, by simp, fun k h1 h2 => ?_⟩
      have : k = l.foldl (fun x y => if y < x then y else x) a := Int.le_antisymm (h2 _ f1) (f2 k h1)
      rw [this]
      exact PostE.val q r ((RX.of hx).mpr (.int _))
  -- sorted
  · obtain ⟨p, vs, rfl, t1, l1, z1⟩ := vw.lst
    obtain ⟨ns, hn, q⟩ := onInts_post (α := D) q
    obtain ⟨h64, q⟩ := q.grd
    have e1 := z1.ints_of hn
    subst e1
    refine .inl ⟨p, ns, rfl, .of t1, h64, fun ns' p' hp hs hn' => ?_⟩
    have e2 := sortI_eq hp hs
    subst e2
    refine q.newX hx r hn' fun r4 => ?_
    exact .lst (.inl rfl) upd_same (by rw [List.length_map, (sortI_perm ns).length_eq]; exact Nat.le_of_lt (Nat.lt_of_lt_of_le h64 (by decide))) (RF_int _)
  · obtain ⟨p, vs, rfl, t1, l1, z1⟩ := vw.dic
    obtain ⟨ns, hn, q⟩ := onInts_post (α := D) q
    obtain ⟨h64, q⟩ := q.grd
    refine .inr ⟨p, vs, ns, rfl, .of t1, z1.ints_of hn, h64, fun ns' p' hp hs hn' => ?_⟩
    have e2 := sortI_eq hp hs
    subst e2
    refine q.newX hx r hn' fun r4 => ?_
    exact .lst (.inl rfl) upd_same (by rw [List.length_map, (sortI_perm ns).length_eq]; exact Nat.le_of_lt (Nat.lt_of_lt_of_le h64 (by decide))) (RF_int _)
theorem TB1 {a x : Ev.X} {Q : VK} {k : D → M D} {rr : List V → Hp → VK → Prop} (r : Rel G m e w σ H) (q : PostE G xf Wx m w H e σ (RX G e σ x) Q ((ev C a e >>= fun d => der d >>= k) w))
    (h : ∀ d v m2 w2 H2, Rel G m2 e w2 σ H2 → View G m2 w2 H2 v d → PostE G xf Wx m2 w2 H2 e σ (RX G e σ x) Q (k d w2) → rr [v] H2 Q) : TB G xf Wx C a σ H fun v H1 => rr [v] H1 Q :=
  ⟨m, e, w, r, q.step fun d w1 u m1 H1 x1 r1 y1 q1 => by
    obtain ⟨c, vw, q2, _⟩ := der_post r1 y1 q1
    exact h c u m1 w1 H1 r1 vw q2⟩
theorem c_b1 {b : B1} {ea : Expr} {a : Ev.X} {n : String} {f : Value} {p : Pos} (hb : b.at = some (n, f)) (hK : X.K = G.K) (hc : b.hot = true ∨ X.calm = true) (hg : Gl X n) (hm : X.mg n = none) (ha : PE X ea (TB G xf Wx C a))
    (hs : starEach [ea] X.env = (false, eval ea X.env) :: starEach [] X.env) : PE X (.Call (.Name n p) [ea] [] pos) (TB G xf Wx C (.b1 b a)) := by
  have go : ∀ σ H Q, TB G xf Wx C (.b1 b a) σ H Q → tCB (rB1 X.K b) (tCons (TB G xf Wx C a) tNil) σ H Q := fun σ H Q ⟨m, e, w, r, q⟩ => by
    rw [ev] at q
    exact TB1 (rr := rB1 X.K b) r q fun d v m2 w2 H2 r2 vw q2 => b1_post hK rfl r2 vw q2
  have rule := b1_rule (X := X) hb hc
  have pa : PA X [ea] (tCons (TB G xf Wx C a) tNil) := pa_cons ha pa_nil hs
  cases b <;> cases hb <;> refine pe_weak ?_ go <;>
    first
    | exact pe_callB rule hg hm (by decide +kernel) pa (hn := by decide) (hdb := by decide) (he := hs)
    | exact pe_callTy rule hg hm (by decide +kernel) pa (hn := by decide) (hdb := by decide) (he := hs)
end
end Ev

set_option maxRecDepth 100000
set_option maxHeartbeats 4000000
namespace Ev
open PySem PySem.Spec PyProof.Rows L2

section
variable (G : GG) (xf : Nat → Option Str)
def PostI (m : Fm) (w : Wd) (H : Hp) (x : Addr) (Q : VK) (E : XK) : Rs D → Prop
  | .ok d w' => ∀ m' H', Ext m w H m' w' H' → RelW G m' w' H' → Own G m'.F m'.rho w'.length H' x d → ¬ m'.F x → ¬ m'.P x → (∀ k, k < w'.length → m'.rho k ≠ x) → Q .non H'
  | .exc c x w' => ∀ pn m' H', Ext m w H m' w' H' → RelW G m' w' H' → XAt G xf m' w' H' c x pn → E (.ref (G.cl c)) pn H'
  | .stk => False
/-- the promise of an __init__ -/
def spIni (c : Nat) (r : List D → M D) : Sp := fun vs H Q E => ∃ m w ds x dx vs', vs = .ref x :: vs' ∧ RelW G m w H ∧ RA G m.F m.rho w.length H vs' ds ∧ H x = some (.ins (G.cl c) dx []) ∧ ¬ m.F x ∧ ¬ m.P x ∧ (∀ k, k < w.length → m.rho k ≠ x) ∧
  PostI G xf m w H x Q E (r ds w)
end
structure MkUse (G : GG) (xf : Nat → Option Str) (X : Cx) (c : Nat) (r : List D → M D) : Prop where
  ok : ∃ k f fd ps, Mk X.K (G.cl c) f ∧ FnOk X.prog X.w X.K X.mg X.base (L2.CX X.prog X.w) k f fd ps (spIni G xf c r) ∧ Room (k + 1) X.A ∧ Binds X.K fd ps []

section
variable {X : Cx} {k : Nat} {C f : Addr} {fd : FuncData} {ps : List Str} {sp : Sp} {E : L2.St → XK} {x : Str} {p pos : Pos} {e : Expr} {es : List Expr} {t : TA}
/-- pe_make, what is raised wished for at the slots -/
def tMakeS (C : Addr) (sp : Sp) (E : L2.St → XK) (t : TA) : TE := fun σ H Q => t σ H fun vs H1 => ∀ x dx, H1 x = none → H1 dx = none → dx ≠ x →
  sp (.ref x :: vs) (upd (upd H1 dx (.own x)) x (.ins C dx [])) (fun v H2 => v = .non ∧ Q (.ref x) H2) (E σ)
theorem run_makeS {pins : List (Addr × Obj)} {σ : L2.St} {H : Hp} {s : Shared} {Q : VK} {us : List Value} {vs : List V} (M : Mk X.K C f) (F : FnOk X.prog X.w X.K X.mg X.base (L2.CX X.prog X.w) k f fd ps sp) (hr : Room (k + 1) X.A) (hb : Binds X.K fd ps [])
    (hx : PassesAt (L2.CX X.prog X.w) X σ (E σ)) (I : L2.Inv X pins σ H s) (r : Vals vs us)
    (h : ∀ x dx, H x = none → H dx = none → dx ≠ x → sp (.ref x :: vs) (upd (upd H dx (.own x)) x (.ins C dx [])) (fun v H2 => v = .non ∧ Q (.ref x) H2) (E σ)) :
    wpAny (model X.prog X.w) X.A (call (.ref C) us) (EP X pins σ Q) X.xe s := by
  have hq := h (s.heap.objs.size + 1) s.heap.objs.size (I.hok.fresh (Nat.le_succ _)) (I.hok.fresh (Nat.le_refl _)) (Nat.ne_of_lt (Nat.lt_succ_self _))
  have I2 := Inv.made (C := C) I
  have r2 : Vals (V.ref (s.heap.objs.size + 1) :: vs) (Value.ref (s.heap.objs.size + 1) :: us) := .cons rfl r
  have hl : (Value.ref (s.heap.objs.size + 1) :: us ++ []).length = ps.length := by
    have e := r2.length
    rw [F.len _ _ _ _ hq] at e
    rw [List.append_nil]
    exact e.symm
  have bb := hb _ (Value.ref (s.heap.objs.size + 1) :: us) I2.kIn hl
  rw [List.append_nil] at bb
  refine wpAny_call (make_map (f := f) I.kIn M.makes M.init (beq_iff_eq.mp M.fn) (codeAny_mono (F.run _ X.stack _ _ ⟨Value.ref (s.heap.objs.size + 1) :: us, []⟩ (Value.ref (s.heap.objs.size + 1) :: us) _ _ (E σ) (hr.make C us [])
    (I2.env0.make C us []) bb r2 hq) fun r s' hq' => ?_))
  cases r with
  | error e => exact hx pins _ _ e s' I2 hq'
  | ok fl =>
    cases fl with
    | ret u =>
      obtain ⟨v, H', I3, rv, ev, q3⟩ := I2.after hq'
      subst ev
      exact ⟨rv, ⟨V.ref (s.heap.objs.size + 1), H', I3, rfl, q3⟩⟩
    | next => exact False.elim hq'
    | brk => exact False.elim hq'
    | cont => exact False.elim hq'
theorem pe_makeS (M : Mk X.K C f) (F : FnOk X.prog X.w X.K X.mg X.base (L2.CX X.prog X.w) k f fd ps sp) (hr : Room (k + 1) X.A) (hg : Gl X x) (hm : X.mg x = some (.ref C)) (hb : Binds X.K fd ps []) (hx : ∀ σ, PassesAt (L2.CX X.prog X.w) X σ (E σ))
    (ha : PA X (e :: es) t) (hdb : (x == ("__debug__" : Str)) = false) (he : starEach (e :: es) X.env = (false, eval e X.env) :: starEach es X.env) (hpl : (backTo pos (starEach es X.env)).any (·.1) = false) :
    PE X (.Call (.Name x p) (e :: es) [] pos) (tMakeS C sp E t) := by
  refine ⟨fun pins s σ H Q I h => ?_⟩
  refine wpAny_Call_Name_kw (ld_glob I hg hm ?_ hdb)
  refine PySem.W.callWith_K (h₀ := X.base) I.ok.mod.kin M.kp (thn (ha.run pos pins s σ H _ I h) fun us s1 ⟨vs, H1, I1, r, q⟩ => ⟨I1.kIn, ?_⟩) he hpl
  exact run_makeS M F hr hb (hx σ) I1 r q
end

section
variable {G : GG} {xf : Nat → Option Str} {Wx : L2.WX} {m m' m1 : Fm} {w w' w1 : Wd} {H H' H1 : Hp} {e : Env} {σ : L2.St} {C : Cfg} {X : Cx} {pos : Pos}
/-- an object that nobody holds is named by values from now on -/
theorem Rel.hand (r : Rel G m e w σ H) {x : Addr} (h0 : H x ≠ none) (hP : ¬ m.P x) (hr : ∀ k, k < w.length → m.rho k ≠ x) (ho : ∀ i d, e[i]? = some (.own d) → m.oa i ≠ x) : Ext m w H (m.add x) w H ∧ Rel G (m.add x) e w σ H := by
  have hF : ∀ a, m.F a → (m.add x).F a := fun a h => .inr h
  refine ⟨⟨rfl, hF, fun _ _ => rfl, fun _ _ => rfl, Nat.le_refl _, fun _ _ => rfl, rfl⟩, ⟨⟨fun k d h => ?_, r.inj, fun a h => ?_, r.allP, fun a h q => ?_⟩, r.len, fun i s h => ?_, r.oinj⟩⟩
  · obtain ⟨h1, h2, h3⟩ := r.cell k d h
    refine ⟨h1.mono hF (fun _ _ => rfl) (Nat.le_refl _) (fun _ _ => rfl) rfl, fun q => ?_, h3⟩
    rcases q with q | q
    · exact hr k (List.getElem?_eq_some_iff.mp h).1 q
    · exact h2 q
  · rcases h with rfl | h
    · exact h0
    · exact r.allF a h
  · rcases q with rfl | q
    · exact hP h
    · exact r.FP a h q
  · have q := r.sl i s h
    cases s with
    | un => trivial
    | val d =>
      obtain ⟨v, h1, h2⟩ := q
      exact ⟨v, h1, h2.mono hF (fun _ _ => rfl) (Nat.le_refl _) fun _ _ => rfl⟩
    | own d =>
      obtain ⟨h1, h2, h3, h4, h5⟩ := q
      refine ⟨h1, h2.mono hF (fun _ _ => rfl) (Nat.le_refl _) (fun _ _ => rfl) rfl, fun z => ?_, h4, h5⟩
      rcases z with z | z
      · exact ho i d h z
      · exact h3 z
    | exc c x0 =>
      obtain ⟨a0, pn, h1, h2, h3⟩ := q
      exact ⟨a0, pn, h1, h2, h3.mono hF (fun _ _ => rfl) (Nat.le_refl _) fun _ _ => rfl⟩
theorem c_mk {x : Str} {p : Pos} {c : Nat} {a : Expr} {as : List Expr} {xs : Xs} (hh : C.hot = false → MkUse G xf X c (C.cm c)) (tk : Takes X Wx) (hg : Gl X x) (hm : X.mg x = some (.ref (G.cl c))) (ha : PA X (a :: as) (TS' G xf Wx C xs))
    (hdb : (x == ("__debug__" : Str)) = false) (he : starEach (a :: as) X.env = (false, eval a X.env) :: starEach as X.env) (hpl : (backTo pos (starEach as X.env)).any (·.1) = false) : PE X (.Call (.Name x p) (a :: as) [] pos) (TB G xf Wx C (.mk c xs)) := by
  by_cases hc : C.hot = true
  · refine ⟨fun pins s σ H Q I ⟨m, e, w, r, q⟩ => ?_⟩
    rw [ev] at q
    have := (calm_post q).1
    rw [hc] at this; cases this
  · obtain ⟨k, f, fd, ps, M, F, hr, hb⟩ := (hh (by simpa using hc)).ok
    refine pe_weak (pe_makeS M F hr hg hm hb (passAt tk) ha hdb he hpl) fun σ H Q ⟨m, e, w, r, q⟩ => ?_
    rw [ev] at q
    obtain ⟨_, q⟩ := calm_post q
    refine ⟨m, e, w, r, q.step fun ds w1 vs m1 H1 x1 r1 y1 q1 => fun x dx hx hdx hne => ?_⟩
    have q1 := (PostE.rx rfl).mp q1
    obtain ⟨xa, ra⟩ := r1.lay hdx (.own x)
    have hx2 : upd H1 dx (.own x) x = none := by rw [upd_ne hne.symm]; exact hx
    obtain ⟨xb, rb⟩ := ra.lay hx2 (.ins (G.cl c) dx [])
    obtain ⟨f1, f2, f3⟩ := ra.toRelW.free hx2
    have f4 : ∀ i d, e[i]? = some (.own d) → m1.oa i ≠ x := fun i d h => ra.oaNe hx2 h
    refine ⟨m1.call e, w1, ds, x, dx, vs, rfl, rb.toCall, RA.ext (xa.trans xb) y1, upd_same, f1, fun z => ?_, f3, ?_⟩
    · rcases z with z | ⟨i, d, h4, h5⟩
      · exact f2 z
      · exact f4 i d h4 h5
    · cases z : C.cm c ds w1 with
      | ok d w' =>
        rw [z] at q1
        intro m' H' x' r' o nF nP nr
        obtain ⟨xc, rc⟩ := rb.back x' r'
        have nP' : ¬ (m1.back m').P x := f2
        obtain ⟨xd, rd⟩ := rc.hand (x := x) o.there nP' nr f4
        refine ⟨rfl, q1 (.ref x) _ H' (((xa.trans xb).trans xc).trans xd) rd ?_⟩
        exact Own.frz (.inl rfl) (o.mono (fun a h => .inr h) (fun _ _ => rfl) (Nat.le_refl _) (fun _ _ => rfl) rfl)
      | exc c' x' w' =>
        rw [z] at q1
        intro pn m' H' x2 r' y
        obtain ⟨xc, rc⟩ := rb.back x2 r'
        exact q1 pn _ H' ((xa.trans xb).trans xc) rc y
      | stk => rw [z] at q1; exact q1

/-! ### a def that a name holds -/
theorem c_cav {x : Str} {p : Pos} {i : Nat} {a : Expr} {as : List Expr} {xs : Xs} (hh : C.hot = false → ∀ j, j < C.nf → FnUse G xf X j (C.cf j)) (tk : Takes X Wx) (hN : X.N[i]? = some x) (hv : Vis X.env.scope x) (hcd : (x == ("__classdict__" : Str)) = false)
    (ha : PA X (a :: as) (TS' G xf Wx C xs)) (hdb : (x == ("__debug__" : Str)) = false) (he : starEach (a :: as) X.env = (false, eval a X.env) :: starEach as X.env) (hpl : (backTo pos (starEach as X.env)).any (·.1) = false) :
    PE X (.Call (.Name x p) (a :: as) [] pos) (TB G xf Wx C (.cav i xs)) := by
  refine ⟨fun pins s σ H Q I ⟨m, e, w, r, q⟩ => ?_⟩
  rw [ev] at q
  obtain ⟨hc, q⟩ := calm_post q
  have q0 : PostE G xf Wx m w H e σ (RX G e σ (.v i)) (fun v H1 => ∃ j, v = .ref (G.fa j) ∧ FnUse G xf X j (C.cf j) ∧ TS' G xf Wx C xs σ H1 fun vs H2 => spOf G xf (C.cf j) vs H2 Q (WE Wx σ)) (getV e i w) := by
    refine q.step fun d w1 u m1 H1 x1 r1 y1 q1 => ?_
    cases d <;> first | exact PostE.stk_elim (by exact q1) | skip
    rename_i j
    by_cases hj : j < C.nf
    · simp only [if_pos hj] at q1
      exact ⟨j, y1.fn r1, hh hc j hj, m1, e, w1, r1, q1.step fun ds w2 vs m2 H2 x2 r2 y2 q2 => call_post r2 y2 ((PostE.rx rfl).mp q2)⟩
    · simp only [if_neg hj] at q1
      exact PostE.stk_elim (by exact q1)
  refine wpAny_Call_Name_kw (thn ((pe_var hN hv hdb hcd).run pins s σ H _ I (getV_post r q0)) fun f s1 ⟨v, H1, I1, rv, j, ev', U, t⟩ => ?_)
  subst ev'
  obtain ⟨k, fd, ps, F, hr, hb, hk⟩ := U.ok
  cases rv
  refine PySem.W.callWith_K (h₀ := X.base) I1.ok.mod.kin hk (thn (ha.run pos pins s1 σ H1 _ I1 t) fun us s2 ⟨vs, H2, I2, rs, q2⟩ => ⟨I2.kIn, ?_⟩) he hpl
  exact run_fnS F hr hb (passAt tk σ) I2 rs q2

/-! ### isinstance -/
def Ty.nm : Ty → Option String
  | .int => some "int" | .bool => some "bool" | .str => some "str" | .tuple => some "tuple" | .list => some "list" | .dict => some "dict" | .cls _ => none
def Ty.v (G : GG) : Ty → V
  | .cls c => .ref (G.cl c)
  | t => .ty (t.nm.getD "")
def Ty.u (G : GG) : Ty → Value
  | .cls c => .ref (G.cl c)
  | t => .type (t.nm.getD "")
theorem Ty.clsV (t : Ty) : ClsV (t.v G) (t.u G) := by cases t <;> first | exact .ty _ | exact .own _
def kindN : D → Option String
  | .non => some "NoneType" | .bl _ => some "bool" | .int _ => some "int" | .str _ => some "str" | .tup _ => some "tuple" | .lst _ => some "list" | .dic _ => some "dict" | _ => none
structure IsaUse (G : GG) (X : Cx) (nc : Nat) : Prop where
  ins : ∀ c, c < nc → Cls X.K (G.cl c) ∧ PySem.W.findIn X.K (.ref (G.cl c)) "__class__" = some (some (.builtin "object.__class__")) ∧ PySem.W.specialIn X.K (.builtin "object.__class__") "__get__" = some (some (.builtin "getset_descriptor.__get__")) ∧
    PySem.W.takesIn X.K (.builtin "object.__class__") = some true ∧ PySem.W.mroIn X.K (G.cl c) (.type "object") = some true
  bc : ∀ n ∈ (["NoneType", "bool", "int", "str", "tuple", "list", "dict"] : List String), ∀ c, c < nc → PySem.W.kitOne X.K (.type n) (.ref (G.cl c)) = some false
  cb : ∀ c, c < nc → ∀ n ∈ (["bool", "int", "str", "tuple", "list", "dict"] : List String), PySem.W.kitOne X.K (.ref (G.cl c)) (.type n) = some false
  cc : ∀ c d, c < nc → d < nc → PySem.W.kitOne X.K (.ref (G.cl c)) (.ref (G.cl d)) = some (c == d)
theorem isa_view {v : V} {d : D} {t : Ty} {b : Bool} (hK : X.K = G.K) (U : IsaUse G X C.nc) (vw : View G m w H v d) (ht : ∀ c, t = .cls c → c < C.nc) (q : isaT C.nc d t = some b) :
    ∃ tv, TyX X.K H v tv ∧ PySem.W.kitOne X.K tv (t.u G) = some b ∧ ∀ t' b', (∀ c, t' = .cls c → c < C.nc) → isaT C.nc d t' = some b' → PySem.W.kitOne X.K tv (t'.u G) = some b' := by
  have base : ∀ n : String, kindN d = some n → n ∈ (["NoneType", "bool", "int", "str", "tuple", "list", "dict"] : List String) → ∀ t' b', (∀ c, t' = .cls c → c < C.nc) → isaT C.nc d t' = some b' → PySem.W.kitOne X.K (.type n) (t'.u G) = some b' := fun n hk hn t' b' hc q' => by
    cases t' with
    | cls c =>
      have h2 := U.bc n hn c (hc c rfl)
      cases d <;> simp [kindN] at hk <;> simp [isaT] at q' <;> subst q' <;> exact h2
    | _ => cases d <;> simp [kindN] at hk <;> simp [isaT] at q' <;> subst hk <;> subst q' <;> exact kit_ty (by decide +kernel)
  cases d with
  | non =>
    rcases vw.flat rfl with ⟨_, rfl⟩ | ⟨_, z, _⟩ | ⟨_, z, _⟩ | ⟨_, z, _⟩
    · exact ⟨_, .base .non, base _ rfl (by decide) t b ht q, base _ rfl (by decide)⟩
    all_goals cases z
  | bl k =>
    rcases vw.flat rfl with ⟨z, _⟩ | ⟨_, z, rfl⟩ | ⟨_, z, _⟩ | ⟨_, z, _⟩ <;> cases z
    exact ⟨_, .base (.bl _), base _ rfl (by decide) t b ht q, base _ rfl (by decide)⟩
  | int k =>
    rcases vw.flat rfl with ⟨z, _⟩ | ⟨_, z, _⟩ | ⟨_, z, rfl⟩ | ⟨_, z, _⟩ <;> cases z
    exact ⟨_, .base (.int _), base _ rfl (by decide) t b ht q, base _ rfl (by decide)⟩
  | str k =>
    rcases vw.flat rfl with ⟨z, _⟩ | ⟨_, z, _⟩ | ⟨_, z, _⟩ | ⟨_, z, rfl⟩ <;> cases z
    exact ⟨_, .base (.str _), base _ rfl (by decide) t b ht q, base _ rfl (by decide)⟩
  | tup ds =>
    obtain ⟨p, vs, rfl, t1, _, _⟩ := vw.tup
    rcases t1 with ⟨_, t1⟩ | ⟨o, its, n, h1, h2, _⟩
    · exact ⟨_, .base (.tup t1), base _ rfl (by decide) t b ht q, base _ rfl (by decide)⟩
    · exact ⟨_, .kTuple (by rw [hK]; exact h1) h2, base _ rfl (by decide) t b ht q, base _ rfl (by decide)⟩
  | lst ds =>
    obtain ⟨p, vs, rfl, t1, _, _⟩ := vw.lst
    exact ⟨_, .base (.lst t1), base _ rfl (by decide) t b ht q, base _ rfl (by decide)⟩
  | dic ds =>
    obtain ⟨p, vs, rfl, t1, _, _⟩ := vw.dic
    exact ⟨_, .base (.dK t1), base _ rfl (by decide) t b ht q, base _ rfl (by decide)⟩
  | ins c fs =>
    obtain ⟨p, dx, vs, rfl, t1, _⟩ := vw.ins
    have hcn : c < C.nc := by
      cases t <;> simp only [isaT] at q <;> first | (split at q <;> first | assumption | cases q)
    obtain ⟨u1, u2, u3, u4, u5⟩ := U.ins c hcn
    have all : ∀ t' b', (∀ c, t' = .cls c → c < C.nc) → isaT C.nc (.ins c fs) t' = some b' → PySem.W.kitOne X.K (.ref (G.cl c)) (t'.u G) = some b' := fun t' b' hc q' => by
      cases t' with
      | cls k =>
        simp only [isaT, if_pos hcn, Option.some.injEq] at q'
        rw [← q']
        exact U.cc c k hcn (hc k rfl)
      | _ =>
        simp only [isaT, if_pos hcn, Option.some.injEq] at q'
        rw [← q']
        exact U.cb c hcn _ (by decide)
    exact ⟨_, .base (.ins t1 u1 u2 u3 u4 u5), all t b ht q, all⟩
  | cel _ => simp [isaT] at q
  | fn _ => simp [isaT] at q
  | scr _ => simp [isaT] at q
theorem isa_any {d : D} {tv : Value} (all : ∀ t' b', (∀ c, t' = .cls c → c < C.nc) → isaT C.nc d t' = some b' → PySem.W.kitOne X.K tv (t'.u G) = some b') : ∀ (ts : List Ty) (b : Bool), (∀ t ∈ ts, ∀ c, t = .cls c → c < C.nc) → isaTs C.nc d ts = some b →
    PySem.W.kitAny X.K tv (ts.map (Ty.u G)) = some b
  | [], b, _, q => by cases q; rfl
  | t :: r, b, ht, q => by
    unfold isaTs at q
    rw [List.map_cons]
    cases z : isaT C.nc d t with
    | none => rw [z] at q; cases q
    | some k =>
      rw [z] at q
      have h1 := all t k (ht t List.mem_cons_self) z
      cases k with
      | true => cases q; exact kitAny_cons h1 (fun z => nomatch z) fun _ => rfl
      | false => exact kitAny_cons h1 (fun _ => isa_any all r b (fun t' h' => ht t' (List.mem_cons_of_mem _ h')) q) fun z => nomatch z
theorem c_isa {ea et : Expr} {a : Ev.X} {t : Ty} {p : Pos} (hK : X.K = G.K) (U : IsaUse G X C.nc) (ht : ∀ c, t = .cls c → c < C.nc) (hg : Gl X "isinstance") (hm : X.mg "isinstance" = none) (ha : PE X ea (TB G xf Wx C a)) (he : PE X et (tC (t.v G)))
    (hs : starEach [ea, et] X.env = (false, eval ea X.env) :: starEach [et] X.env) (hs2 : starEach [et] X.env = (false, eval et X.env) :: starEach [] X.env) : PE X (.Call (.Name "isinstance" p) [ea, et] [] pos) (TB G xf Wx C (.isa a [t])) :=
  pe_weak (pe_callB call_isi hg hm (by decide +kernel) (pa_cons ha (pa_cons he pa_nil hs2) hs) (he := hs) (hpl := by rw [hs2]; rfl)) fun σ H Q ⟨m, e, w, r, q⟩ => by
    replace q := isa_post q
    refine ⟨m, e, w, r, PostE.step (r := ev C a e) q fun d w1 u m1 H1 x1 r1 y1 q1 => ?_⟩
    cases z : isaTs C.nc d [t] with
    | none => simp only [z] at q1; exact PostE.stk_elim (by exact q1)
    | some b =>
      simp only [z] at q1
      have z' : isaT C.nc d t = some b := by
        unfold isaTs at z
        cases k : isaT C.nc d t with
        | none => rw [k] at z; cases z
        | some k' => rw [k] at z; cases k' <;> (cases z; rfl)
      obtain ⟨tv, h1, h2, _⟩ := isa_view hK U (y1.view r1) ht z'
      exact ⟨_, _, tv, _, b, rfl, t.clsV, h1, h2, PostE.val q1 r1 ((RX.of rfl).mpr (.bl _))⟩
/-- a tuple of classes, written -/
def tTys (G : GG) : List Ty → TA
  | [] => tNil
  | t :: r => tCons (tC (t.v G)) (tTys G r)
theorem tTys_val {ts : List Ty} {Q : List V → Hp → Prop} (h : Q (ts.map (Ty.v G)) H) : tTys G ts σ H Q := by
  induction ts generalizing Q with
  | nil => exact h
  | cons t r ih => exact ih h
theorem tys_paired : ∀ ts : List Ty, Paired ClsV (ts.map (Ty.v G)) (ts.map (Ty.u G))
  | [] => .nil
  | t :: r => .cons t.clsV (tys_paired r)
theorem c_isaT {ea : Expr} {a : Ev.X} {ts : List Ty} {es : List Expr} {p p2 : Pos} {k : Nat} (hK : X.K = G.K) (U : IsaUse G X C.nc) (ht : ∀ t ∈ ts, ∀ c, t = .cls c → c < C.nc) (hl : ts.length ≤ 10) (hg : Gl X "isinstance") (hm : X.mg "isinstance" = none) (ha : PE X ea (TB G xf Wx C a)) (he : PA X es (tTys G ts)) (hne : ts ≠ [])
    (hs : starEach [ea, .Tuple es k p2] X.env = (false, eval ea X.env) :: starEach [.Tuple es k p2] X.env) (hs2 : starEach [.Tuple es k p2] X.env = (false, eval (.Tuple es k p2) X.env) :: starEach [] X.env) :
    PE X (.Call (.Name "isinstance" p) [ea, .Tuple es k p2] [] pos) (TB G xf Wx C (.isa a ts)) :=
  pe_weak (pe_callB call_isiT hg hm (by decide +kernel) (pa_cons ha (pa_cons (pe_tup he) pa_nil hs2) hs) (he := hs) (hpl := by rw [hs2]; rfl)) fun σ H Q ⟨m, e, w, r, q⟩ => by
    replace q := isa_post q
    refine ⟨m, e, w, r, PostE.step (r := ev C a e) q fun d w1 u m1 H1 x1 r1 y1 q1 => tTys_val ⟨by rw [List.length_map]; exact Nat.le_trans hl (by decide), fun p' hp => ?_⟩⟩
    cases z : isaTs C.nc d ts with
    | none => simp only [z] at q1; exact PostE.stk_elim (by exact q1)
    | some b =>
      simp only [z] at q1
      obtain ⟨xl, rl⟩ := r1.lay hp (.tup (ts.map (Ty.v G)))
      obtain ⟨tv, h1, h2⟩ : ∃ tv, TyX X.K (upd H1 p' (.tup (ts.map (Ty.v G)))) u tv ∧ PySem.W.kitAny X.K tv (ts.map (Ty.u G)) = some b := by
        cases ts with
        | nil => exact absurd rfl hne
        | cons t r' =>
          have z1 := z
          unfold isaTs at z1
          cases k : isaT C.nc d t with
          | none => rw [k] at z1; cases z1
          | some k' =>
            obtain ⟨tv, h1, _, h3⟩ := isa_view hK U ((y1.mono xl).view rl) (ht t List.mem_cons_self) k
            exact ⟨tv, h1, isa_any h3 (t :: r') b ht z⟩
      refine ⟨u, p', _, tv, _, b, rfl, upd_same, tys_paired ts, h1, h2, (q1.shift xl).val rl ((RX.of rfl).mpr (.bl _))⟩

/-! ### small ones -/
theorem c_lenset {ea : Expr} {a : Ev.X} {p p2 q2 : Pos} (hK : X.K = G.K) (hc : C.hot = false → X.calm = true) (hg : Gl X "len") (hm : X.mg "len" = none) (hg2 : Gl X "set") (hm2 : X.mg "set" = none) (ha : PE X ea (TB G xf Wx C a)) (hs : starEach [ea] X.env = (false, eval ea X.env) :: starEach [] X.env) :
    PE X (.Call (.Name "len" p) [.Call (.Name "set" p2) [ea] [] q2] [] pos) (TB G xf Wx C (.lenset a)) := by
  by_cases hh : C.hot = true
  · refine ⟨fun pins s σ H Q I ⟨m, e, w, r, q⟩ => ?_⟩
    rw [ev] at q
    have := (calm_post q).1
    rw [hh] at this; cases this
  · refine pe_weak (pe_lenSet (hc (by simpa using hh)) hg hm hg2 hm2 ha hs) fun σ H Q ⟨m, e, w, r, q⟩ => ?_
    rw [ev] at q
    obtain ⟨_, q⟩ := calm_post q
    refine ⟨m, e, w, r, q.step fun d w1 u m1 H1 x1 r1 y1 q1 => ?_⟩
    cases d <;> first | exact PostE.stk_elim (by exact q1) | skip
    · obtain ⟨l, vs, rfl, t1, _, z1⟩ := y1.tup r1
      obtain ⟨ns, hn, q1⟩ := onInts_post (α := D) q1
      obtain ⟨hl, q1⟩ := q1.grd
      have e1 := z1.ints_of hn
      subst e1
      exact ⟨l, ns, rfl, .inr (by rw [hK]; exact t1.sq), hl, PostE.val q1 r1 ((RX.of rfl).mpr (.int _))⟩
    · obtain ⟨l, vs, rfl, t1, _, z1⟩ := y1.lst r1
      obtain ⟨ns, hn, q1⟩ := onInts_post (α := D) q1
      obtain ⟨hl, q1⟩ := q1.grd
      have e1 := z1.ints_of hn
      subst e1
      exact ⟨l, ns, rfl, .inl (.of t1), hl, PostE.val q1 r1 ((RX.of rfl).mpr (.int _))⟩
theorem ddup_mem (j : Int) : ∀ l : List Int, j ∈ ddup l ↔ j ∈ l
  | [] => Iff.rfl
  | a :: r => by
    have ih := ddup_mem j r
    rw [ddup]
    split
    · rename_i h
      rw [ih, List.mem_cons]
      exact ⟨.inr, fun q => q.elim (fun e => e ▸ h) id⟩
    · rw [List.mem_cons, List.mem_cons, ih]
theorem ddup_nd : ∀ l : List Int, (ddup l).Nodup
  | [] => List.nodup_nil
  | a :: r => by
    rw [ddup]
    split
    · exact ddup_nd r
    · rename_i h
      exact List.nodup_cons.mpr ⟨fun q => h ((ddup_mem a r).mp q), ddup_nd r⟩
theorem srt_post {ns : List Int} {l : Addr} {x : Ev.X} {Q : VK} (hx : ownV e x = false) (r : Rel G m e w σ H) (hs : SqL X.K H l (ns.map V.int) ∨ SqT X.K H l (ns.map V.int))
    (q : PostE G xf Wx m w H e σ (RX G e σ x) Q (grd (ns.length ≤ 4000 ∧ (ddup ns).length < 64) (pure (.lst ((sortI (ddup ns)).map .int))) w)) : rSetI X [.ref l] H fun v H1 => rSortedSet X.w [v] H1 Q := by
  obtain ⟨⟨h1, h2⟩, q⟩ := q.grd
  refine ⟨l, ns, rfl, hs, h1, fun p ds nd mem hp => ?_⟩
  have pe : ds.Perm (ddup ns) := (List.perm_ext_iff_of_nodup nd (ddup_nd ns)).mpr fun j => by rw [mem j, ddup_mem]
  obtain ⟨xl, rl⟩ := r.lay hp (SetO X.w p (fun j => decide (j ∈ ns)) ds.length)
  refine ⟨p, _, _, rfl, upd_same, by rw [pe.length_eq]; exact h2, fun ns' p' hlt hm hl hp' => ?_⟩
  have nd' : ns'.Nodup := hlt.imp fun h => Int.ne_of_lt h
  have pe' : ns'.Perm (ddup ns) := (List.perm_ext_iff_of_nodup nd' (ddup_nd ns)).mpr fun j => by rw [hm j, ddup_mem, decide_eq_true_eq]
  have e2 := sortI_eq pe' (hlt.imp fun h => Int.le_of_lt h)
  subst e2
  refine (q.shift xl).newX hx rl hp' fun r4 => ?_
  exact .lst (.inl rfl) upd_same (by rw [List.length_map, (sortI_perm (ddup ns)).length_eq]; exact Nat.le_of_lt (Nat.lt_of_lt_of_le h2 (by decide))) (RF_int _)
theorem c_srtset {ea : Expr} {a : Ev.X} {p p2 q2 : Pos} (hK : X.K = G.K) (hc : C.hot = false → X.calm = true) (hg : Gl X "sorted") (hm : X.mg "sorted" = none) (hg2 : Gl X "set") (hm2 : X.mg "set" = none) (ha : PE X ea (TB G xf Wx C a)) (hs : starEach [ea] X.env = (false, eval ea X.env) :: starEach [] X.env) :
    PE X (.Call (.Name "sorted" p) [.Call (.Name "set" p2) [ea] [] q2] [] pos) (TB G xf Wx C (.srtset a)) := by
  by_cases hh : C.hot = true
  · refine ⟨fun pins s σ H Q I ⟨m, e, w, r, q⟩ => ?_⟩
    rw [ev] at q
    have := (calm_post q).1
    rw [hh] at this; cases this
  · have nc := hc (by simpa using hh)
    refine pe_weak (pe_callB (cr_sortedSet nc) hg hm (by decide +kernel) (pa_cons (pe_callTy (cr_setI nc) hg2 hm2 (by decide +kernel) (pa_cons ha pa_nil hs) (hn := by decide) (hdb := by decide) (he := hs)) pa_nil rfl) (hn := by decide) (hdb := by decide)) fun σ H Q ⟨m, e, w, r, q⟩ => ?_
    rw [ev] at q
    obtain ⟨_, q⟩ := calm_post q
    refine ⟨m, e, w, r, q.step fun d w1 u m1 H1 x1 r1 y1 q1 => ?_⟩
    cases d <;> first | exact PostE.stk_elim (by exact q1) | skip
    · obtain ⟨l, vs, rfl, t1, _, z1⟩ := y1.tup r1
      obtain ⟨ns, hn, q1⟩ := onInts_post (α := D) q1
      have e1 := z1.ints_of hn
      subst e1
      exact srt_post rfl r1 (.inr (by rw [hK]; exact t1.sq)) q1
    · obtain ⟨l, vs, rfl, t1, _, z1⟩ := y1.lst r1
      obtain ⟨ns, hn, q1⟩ := onInts_post (α := D) q1
      have e1 := z1.ints_of hn
      subst e1
      exact srt_post rfl r1 (.inl (.of t1)) q1
theorem c_dict0 : PE X (.Dict [] [] pos) (TB G xf Wx C .dict0) :=
  pe_weak pe_dnewK fun σ H Q ⟨m, e, w, r, q⟩ => fun p hp => by
    rw [ev] at q
    refine PostE.newX (d := .dic []) rfl q r hp fun r4 => ?_
    exact .dic (.inl rfl) upd_same (Nat.zero_le _) .nil
theorem c_max2 {ea eb : Expr} {a b : Ev.X} {p : Pos} (hc : C.hot = false → X.calm = true) (hg : Gl X "max") (hm : X.mg "max" = none) (ha : PE X ea (TB G xf Wx C a)) (hb : PE X eb (TB G xf Wx C b))
    (hs : starEach [ea, eb] X.env = (false, eval ea X.env) :: starEach [eb] X.env) (hs2 : starEach [eb] X.env = (false, eval eb X.env) :: starEach [] X.env) : PE X (.Call (.Name "max" p) [ea, eb] [] pos) (TB G xf Wx C (.max2 a b)) := by
  by_cases hh : C.hot = true
  · refine ⟨fun pins s σ H Q I ⟨m, e, w, r, q⟩ => ?_⟩
    rw [ev] at q
    have := (calm_post q).1
    rw [hh] at this; cases this
  · refine pe_weak (pe_callB (call_max2 (hc (by simpa using hh))) hg hm (by decide +kernel) (pa_cons ha (pa_cons hb pa_nil hs2) hs) (he := hs) (hpl := by rw [hs2]; rfl)) fun σ H Q ⟨m, e, w, r, q⟩ => ?_
    rw [ev] at q
    obtain ⟨_, q⟩ := calm_post q
    refine ⟨m, e, w, r, q.step fun d w1 u m1 H1 x1 r1 y1 q1 => ⟨m1, e, w1, r1, q1.step fun d' w2 u' m2 H2 x2 r2 y2 q2 => ?_⟩⟩
    cases d <;> cases d' <;> first | exact PostE.stk_elim (by exact q2) | skip
    have e1 := (y1.mono x2).int r2
    have e2 := y2.int r2
    subst e1 e2
    exact ⟨_, _, rfl, PostE.val (by exact q2) r2 ((RX.of rfl).mpr (.int _))⟩
theorem c_min2 {ea eb : Expr} {a b : Ev.X} {p : Pos} (hc : C.hot = false → X.calm = true) (hg : Gl X "min") (hm : X.mg "min" = none) (ha : PE X ea (TB G xf Wx C a)) (hb : PE X eb (TB G xf Wx C b))
    (hs : starEach [ea, eb] X.env = (false, eval ea X.env) :: starEach [eb] X.env) (hs2 : starEach [eb] X.env = (false, eval eb X.env) :: starEach [] X.env) : PE X (.Call (.Name "min" p) [ea, eb] [] pos) (TB G xf Wx C (.min2 a b)) := by
  by_cases hh : C.hot = true
  · refine ⟨fun pins s σ H Q I ⟨m, e, w, r, q⟩ => ?_⟩
    rw [ev] at q
    have := (calm_post q).1
    rw [hh] at this; cases this
  · refine pe_weak (pe_callB (call_min2 (hc (by simpa using hh))) hg hm (by decide +kernel) (pa_cons ha (pa_cons hb pa_nil hs2) hs) (he := hs) (hpl := by rw [hs2]; rfl)) fun σ H Q ⟨m, e, w, r, q⟩ => ?_
    rw [ev] at q
    obtain ⟨_, q⟩ := calm_post q
    refine ⟨m, e, w, r, q.step fun d w1 u m1 H1 x1 r1 y1 q1 => ⟨m1, e, w1, r1, q1.step fun d' w2 u' m2 H2 x2 r2 y2 q2 => ?_⟩⟩
    cases d <;> cases d' <;> first | exact PostE.stk_elim (by exact q2) | skip
    have e1 := (y1.mono x2).int r2
    have e2 := y2.int r2
    subst e1 e2
    exact ⟨_, _, rfl, PostE.val (by exact q2) r2 ((RX.of rfl).mpr (.int _))⟩
theorem c_get {ed ea eb : Expr} {d a b : Ev.X} {apos : Pos} (hu : X.A.units + 200 < cLine) (hd : PE X ed (TB G xf Wx C d)) (ha : PE X ea (TB G xf Wx C a)) (hb : PE X eb (TB G xf Wx C b)) (mm : M2 X ed "get" apos ea eb pos) :
    PE X (.Call (.Attribute ed "get" apos) [ea, eb] [] pos) (TB G xf Wx C (.get d a b)) :=
  pe_weak (pe_dget2 (by omega) hd ha (tn_of hb) mm) fun σ H Q ⟨m, e, w, r, q⟩ => by
    rw [ev] at q
    refine ⟨m, e, w, r, q.step fun dd w1 u m1 H1 x1 r1 y1 q1 => ?_⟩
    cases dd <;> first | exact PostE.stk_elim (by exact q1) | skip
    rename_i kvs
    obtain ⟨p, vs, rfl, t1, _, _⟩ := y1.dic r1
    refine ⟨p, rfl, .inl ⟨vs, .of t1⟩, m1, e, w1, r1, PostE.step (r := ev C a e) q1 fun k w2 u2 m2 H2 x2 r2 y2 q2 => ⟨m2, e, w2, r2, q2.step fun z w3 u3 m3 H3 x3 r3 y3 q3 => ?_⟩⟩
    by_cases hk : isKey k = true
    · rw [if_pos hk] at q3
      obtain ⟨p', vs', e1, t3, _, z3⟩ := (y1.mono (x2.trans x3)).dic r3
      cases e1
      obtain ⟨kk, rfl, rfl⟩ := key_v ((y2.mono x3).view r3) hk
      refine ⟨_, DGet.k t3, ?_⟩
      rcases z3.find kk with ⟨c1, c2⟩ | ⟨d2, v2, c1, c2, c3⟩
      · rw [c1] at q3; rw [c2]
        exact PostE.val q3 r3 ((RX.of rfl).mpr y3)
      · rw [c1] at q3; rw [c2]
        exact PostE.val q3 r3 ((RX.of rfl).mpr c3)
    · rw [if_neg hk] at q3
      exact PostE.stk_elim (by exact q3)
end
end Ev

set_option maxRecDepth 100000
set_option maxHeartbeats 4000000
/-! What loops and comprehensions go over; targets. -/
namespace Ev
open PySem PySem.Spec PyProof.Rows L2

/-- what values name stays -/
structure Sub (m : Fm) (w : Wd) (H : Hp) (m' : Fm) (w' : Wd) (H' : Hp) : Prop where
  F : ∀ a, m.F a → m'.F a
  aF : ∀ a, m.F a → H' a = H a
  wl : w.length ≤ w'.length
  rho : ∀ k, k < w.length → m'.rho k = m.rho k
  oa0 : m'.oa 0 = m.oa 0
section
variable {G : GG} {xf : Nat → Option Str} {Wx : L2.WX} {m m' m1 : Fm} {w w' w1 : Wd} {H H' H1 : Hp} {e : Env} {σ : L2.St} {C : Cfg} {X : Cx} {pos : Pos}
theorem Ext.sub (x : Ext m w H m' w' H') : Sub m w H m' w' H' := ⟨x.F, x.aF, x.wl, x.rho, x.oa0⟩
theorem Sub.trans {m1 m2 m3 : Fm} {w1 w2 w3 : Wd} {H1 H2 H3 : Hp} (a : Sub m1 w1 H1 m2 w2 H2) (b : Sub m2 w2 H2 m3 w3 H3) : Sub m1 w1 H1 m3 w3 H3 :=
  ⟨fun x h => b.F x (a.F x h), fun x h => (b.aF x (a.F x h)).trans (a.aF x h), Nat.le_trans a.wl b.wl, fun k h => (b.rho k (Nat.lt_of_lt_of_le h a.wl)).trans (a.rho k h), b.oa0.trans a.oa0⟩
theorem R.sub (x : Sub m w H m' w' H') {v : V} {d : D} (h : R G m.F m.rho w.length H v d) : R G m'.F m'.rho w'.length H' v d := h.mono x.F x.aF x.wl x.rho
theorem RA.sub (x : Sub m w H m' w' H') {v : List V} {d : List D} (h : RA G m.F m.rho w.length H v d) : RA G m'.F m'.rho w'.length H' v d := h.mono x.F x.aF x.wl x.rho

/-- what J yields are the items ds -/
def WalkD (G : GG) (m : Fm) (w : Wd) (H : Hp) (J : L2.It) (ds : List D) : Prop := ∀ m2 w2 H2, Sub m w H m2 w2 H2 → RelW G m2 w2 H2 →
  (∀ i d, ds[i]? = some d → J.go i H2 ∧ ∀ x H3, J.yld i H2 x H3 → ∃ m3, Ext m2 w2 H2 m3 w2 H3 ∧ (∀ e σ, Rel G m2 e w2 σ H2 → Rel G m3 e w2 σ H3) ∧ R G m3.F m3.rho w2.length H3 x d) ∧ ∀ i, ds.length ≤ i → J.stop i H2
variable (G xf Wx) in
def TI' (C : Cfg) (it : Ev.It) : TI := fun σ H Q => ∃ m e w, Rel G m e w σ H ∧ PostE G xf Wx m w H e σ (fun m' w' H' J ds => WalkD G m' w' H' J ds) Q (evI C it e w)
theorem walk_list {a : Addr} {vs : List V} {ds : List D} (hK : X.K = G.K) (hF : m.F a) (ha : H a = some (.lst vs)) (ra : RA G m.F m.rho w.length H vs ds) : WalkD G m w H (Itl X.K a) ds := fun m2 w2 H2 x r2 => by
  have h2 : H2 a = some (.lst vs) := (x.aF a hF).trans ha
  have r3 := ra.sub x
  refine ⟨fun i d hd => ?_, fun i hi => ⟨vs, .of h2, by rw [ra.length]; exact hi⟩⟩
  obtain ⟨v, hv, rv⟩ := r3.get hd
  refine ⟨⟨vs, v, .of h2, hv⟩, fun y H3 hy => ?_⟩
  obtain ⟨rfl, hy⟩ := hy
  have e := hy vs (.of h2)
  rw [hv] at e
  cases e
  exact ⟨m2, .refl _ _ _, fun _ _ h => h, rv⟩
theorem walk_tup {a : Addr} {vs : List V} {ds : List D} (hK : X.K = G.K) (ta : TupAt G m.F H a vs) (ra : RA G m.F m.rho w.length H vs ds) : WalkD G m w H (Itt X.K a) ds := fun m2 w2 H2 x r2 => by
  have h2 : SqT X.K H2 a vs := by
    rw [hK]
    rcases ta with ⟨h1, h2⟩ | h1
    · exact .of ((x.aF a h1).trans h2)
    · exact .inr h1
  have r3 := ra.sub x
  refine ⟨fun i d hd => ?_, fun i hi => ⟨vs, h2, by rw [ra.length]; exact hi⟩⟩
  obtain ⟨v, hv, rv⟩ := r3.get hd
  refine ⟨⟨vs, v, h2, hv⟩, fun y H3 hy => ?_⟩
  obtain ⟨rfl, hy⟩ := hy
  have e := hy vs h2
  rw [hv] at e
  cases e
  exact ⟨m2, .refl _ _ _, fun _ _ h => h, rv⟩
theorem walk_range {lo : Int} {n : Nat} : WalkD G m w H (Itr lo n) (rngD lo n) := fun m2 w2 H2 x r2 => by
  refine ⟨fun i d hd => ?_, fun i hi => ?_⟩
  · unfold rngD at hd
    rw [List.getElem?_map] at hd
    by_cases hi : i < n
    · rw [List.getElem?_range hi] at hd
      simp only [Option.map_some, Option.some.injEq] at hd
      refine ⟨hi, fun y H3 hy => ?_⟩
      obtain ⟨rfl, rfl⟩ := hy
      rw [← hd]
      exact ⟨m2, .refl _ _ _, fun _ _ h => h, .int _⟩
    · rw [List.getElem?_eq_none (by simpa using hi)] at hd
      cases hd
  · show n ≤ i
    unfold rngD at hi
    simpa using hi
def Xs.len : Xs → Nat
  | .nil => 0
  | .cons _ r => r.len + 1
theorem evs_len : ∀ (xs : Xs) (w : Wd) (ds : List D) (w' : Wd), evs C xs e w = .ok ds w' → ds.length = xs.len
  | .nil, w, ds, w', h => by
    rw [evs] at h
    cases h
    rfl
  | .cons x r, w, ds, w', h => by
    rw [evs] at h
    rw [bind_def] at h
    cases q : nb e x (ev C x e) w with
    | ok d w1 =>
      rw [q] at h
      simp only at h
      rw [bind_def] at h
      cases q2 : evs C r e w1 with
      | ok ds1 w2 =>
        rw [q2] at h
        cases h
        have := evs_len r w1 ds1 _ q2
        simp [this, Xs.len]
      | exc c x w2 => rw [q2] at h; cases h
      | stk => rw [q2] at h; cases h
    | exc c x w2 => rw [q] at h; cases h
    | stk => rw [q] at h; cases h
theorem ev_len {α β : Type} {Rl : Fm → Wd → Hp → β → α → Prop} {Q : β → Hp → Prop} {Q1 : List V → Hp → Prop} {xs : Xs} {k : List D → M α} (r : Rel G m e w σ H) (h : PostE G xf Wx m w H e σ Rl Q ((evs C xs e >>= k) w))
    (hk : ∀ ds w1 vs m1 H1, Ext m w H m1 w1 H1 → Rel G m1 e w1 σ H1 → RA G m1.F m1.rho w1.length H1 vs ds → ds.length = xs.len → PostE G xf Wx m1 w1 H1 e σ Rl Q (k ds w1) → Q1 vs H1) : PostE G xf Wx m w H e σ (RRs G) Q1 (evs C xs e w) := by
  have l := evs_len (C := C) (e := e) xs w
  rw [bind_def] at h
  cases q : evs C xs e w with
  | ok ds w' =>
    rw [q] at h
    exact fun v m' H' x r y => hk ds w' v m' H' x r y (l ds w' q) (h.shift x)
  | exc c x w' => rw [q] at h; exact h
  | stk => rw [q] at h; exact h
theorem len1 {ds : List D} (h : ds.length = 1) : ∃ d, ds = [d] := by
  match ds, h with
  | [d], _ => exact ⟨d, rfl⟩
theorem len2 {ds : List D} (h : ds.length = 2) : ∃ d d', ds = [d, d'] := by
  match ds, h with
  | [d, d'], _ => exact ⟨d, d', rfl⟩
def iSeq (K : PySem.W.Frag) (tl : TE) : TI := fun σ H R => tl σ H fun x H1 => ∃ a, x = .ref a ∧ (((∃ xs, SqL K H1 a xs) ∧ R (Itl K a) H1) ∨ ((∃ xs, SqT K H1 a xs) ∧ R (Itt K a) H1))
theorem pi_seq {l : Expr} {tl : TE} {tg : Expr} (hl : PE X l tl) : PI X tg l (iSeq X.K tl) := by
  refine ⟨fun pins s σ H R I h => ?_⟩
  refine thn (hl.run pins s σ H _ I h) fun v s1 ⟨x, H1, I1, r1, q1⟩ => ?_
  obtain ⟨a, e, q⟩ := q1
  subst e
  cases r1
  have fr : ∀ b ∈ [s1.heap.objs.size], FpOk X pins H1 b := fun b hb => by
    have e : b = s1.heap.objs.size := by simpa using hb
    subst e
    exact I1.fpOk (Nat.le_refl _) (I1.hok.fresh (Nat.le_refl _))
  rcases q with ⟨⟨xs, hq⟩, q⟩ | ⟨⟨xs, hq⟩, q⟩
  · obtain ⟨its, rv, p, hz⟩ := I1.list hq
    refine wpAny_pyIter_list p.isList ?_
    exact ⟨s1.heap.objs.size, [s1.heap.objs.size], _, _, H1, rfl, I1.kept (t' := s1.toks) fun b o e => Heap.get?_push_of_some _ e, turn_list a _, ⟨_, Heap.get?_push_size _ rfl, rfl, rfl⟩, fr, q⟩
  · obtain ⟨its, rv, p, hz⟩ := I1.tuple hq
    refine wpAny_pyIter_tuple (show s1.heap.IsTuple a its.toArray from p) ?_
    exact ⟨s1.heap.objs.size, [s1.heap.objs.size], _, _, H1, rfl, I1.kept (t' := s1.toks) fun b o e => Heap.get?_push_of_some _ e, turn_tuple a _, ⟨_, Heap.get?_push_size _ rfl, rfl, rfl⟩, fr, q⟩
theorem i_x {ea tg : Expr} {a : Ev.X} (hK : X.K = G.K) (ha : PE X ea (TB G xf Wx C a)) : PI X tg ea (TI' G xf Wx C (.x a)) := by
  refine ⟨fun pins s σ H R I ⟨m, e, w, r, q⟩ => (pi_seq (tn_of ha)).run pins s σ H R I ?_⟩
  rw [evI] at q
  refine ⟨m, e, w, r, q.step fun d w1 u m1 H1 x1 r1 y1 q1 => ?_⟩
  cases d <;> first | exact PostE.stk_elim (by exact q1) | skip
  · cases y1 with
    | tup t1 l1 z1 => exact ⟨_, rfl, .inr ⟨⟨_, by rw [hK]; exact t1.sq⟩, PostE.val (by exact q1) r1 (walk_tup hK t1 z1)⟩⟩
  · cases y1 with
    | lst f1 t1 l1 z1 => exact ⟨_, rfl, .inl ⟨⟨_, .of t1⟩, PostE.val (by exact q1) r1 (walk_list hK f1 t1 z1)⟩⟩
theorem i_rng1 {ea tg : Expr} {p : Pos} {xs : Xs} (hg : Gl X "range") (hm : X.mg "range" = none) (ha : PA X [ea] (TS' G xf Wx C xs)) (hs : starEach [ea] X.env = [(false, eval ea X.env)]) (h1 : xs.len = 1) : PI X tg (.Call (.Name "range" p) [ea] [] pos) (TI' G xf Wx C (.rng xs)) := by
  refine ⟨fun pins s σ H R I ⟨m, e, w, r, q⟩ => (pi_range1 hg hm ha hs).run pins s σ H R I ?_⟩
  rw [evI] at q
  refine ⟨m, e, w, r, ev_len r q fun ds w1 vs m1 H1 x1 r1 y1 hl q1 => ?_⟩
  rw [h1] at hl
  obtain ⟨d, rfl⟩ := len1 hl
  cases y1 with
  | cons y t =>
    cases t
    cases d <;> first | exact PostE.stk_elim (by exact q1) | skip
    cases y
    rename_i j
    by_cases hj : rngOk j
    · simp only [rngOf, if_pos hj] at q1
      exact ⟨j, rfl, hj.1, hj.2, PostE.val (by exact q1) r1 walk_range⟩
    · simp only [rngOf, if_neg hj] at q1
      exact PostE.stk_elim (by exact q1)
theorem i_rng2 {ea eb tg : Expr} {p : Pos} {xs : Xs} (hg : Gl X "range") (hm : X.mg "range" = none) (ha : PA X [ea, eb] (TS' G xf Wx C xs)) (hs : starEach [ea, eb] X.env = [(false, eval ea X.env), (false, eval eb X.env)]) (hs2 : starEach [eb] X.env = [(false, eval eb X.env)]) (h1 : xs.len = 2) : PI X tg (.Call (.Name "range" p) [ea, eb] [] pos) (TI' G xf Wx C (.rng xs)) := by
  refine ⟨fun pins s σ H R I ⟨m, e, w, r, q⟩ => (pi_range2 hg hm ha hs hs2).run pins s σ H R I ?_⟩
  rw [evI] at q
  refine ⟨m, e, w, r, ev_len r q fun ds w1 vs m1 H1 x1 r1 y1 hl q1 => ?_⟩
  rw [h1] at hl
  obtain ⟨d, d', rfl⟩ := len2 hl
  cases y1 with
  | cons y t => cases t with
    | cons y' t =>
      cases t
      cases d <;> first | exact PostE.stk_elim (by exact q1) | skip
      cases d' <;> first | exact PostE.stk_elim (by exact q1) | skip
      cases y
      cases y'
      rename_i i j
      by_cases hj : rngOk i ∧ rngOk j
      · simp only [rngOf, if_pos hj] at q1
        exact ⟨i, j, rfl, ⟨hj.1.1, hj.1.2, hj.2.1, hj.2.2⟩, PostE.val (by exact q1) r1 walk_range⟩
      · simp only [rngOf, if_neg hj] at q1
        exact PostE.stk_elim (by exact q1)

/-! ### enumerate of a tuple -/
def IteT (K : PySem.W.Frag) (a : Addr) : L2.It :=
  ⟨fun i H => ∃ (xs : List V) (x : V), SqT K H a xs ∧ xs[i]? = some x, fun i H v H' => ∃ T x, v = .ref T ∧ H T = none ∧ H' = upd H T (.tup [.int (i : Nat), x]) ∧ ∀ xs, SqT K H a xs → xs[i]? = some x, fun i H => ∃ xs : List V, SqT K H a xs ∧ xs.length ≤ i⟩
theorem turn_enumT {P : Program} {w : World} {K : PySem.W.Frag} {elts : List Expr} {kk : Nat} {tpos : Pos} (a e it : Addr) (hai : a ≠ it) (hea : e ≠ a) :
    Turn P w K (.Tuple elts kk tpos) (IteT K a) [e, it] e (fun i h => (∃ old, IsEnum h e it ((i : Nat) : Int) old) ∧ h.IsTupleIter it a i ∧ e ≠ it) where
  mem := by simp
  obj := fun i h st b hb => by
    obtain ⟨⟨old, he⟩, ⟨o, ho, hc, hd⟩, _⟩ := st
    have e' : b = e ∨ b = it := by simpa using hb
    rcases e' with z | z
    · rw [z]; exact ⟨_, he, fun v q => nomatch q⟩
    · rw [z]; exact ⟨o, ho, fun v q => by rw [hd] at q; cases q⟩
  keep := fun i h h' st k => let ⟨⟨old, he⟩, hi, hne⟩ := st; ⟨⟨old, k e (by simp) _ he⟩, hi.at fun o q => k it (by simp) o q, hne⟩
  item := by
    intro X hP hw hK hc i pins s σ H E I hf st hg
    subst hP hw hK
    obtain ⟨⟨old, he⟩, hit, hne⟩ := st
    obtain ⟨xs, x, hq, hx⟩ := hg
    obtain ⟨its, rv, p, hz⟩ := I.tuple hq
    have p' : s.heap.IsTuple a its.toArray := p
    have hli : i < its.length := by
      rw [← rv.length]
      exact (List.getElem?_eq_some_iff.mp hx).1
    have hel : e < s.heap.objs.size := Heap.lt_size he
    have hil : it < s.heap.objs.size := by obtain ⟨_, q, _⟩ := hit; exact Heap.lt_size q
    have DT := Draws.tuple (prog := X.prog) (w := X.w) (A := X.A.in1) (I.ok.hd hc) it a hai its.toArray
    refine wpAny_pyNext_enum_itemC DT he ⟨hit, p'⟩ (by simpa using hli) hne (by simp [hne, hea]) fun u h' tk hu ho hit' hT hsz hk => ?_
    obtain ⟨u', hu', ru⟩ := rv.get hx
    have hu : its[i]? = some u := by simpa using hu
    have hq1 : u' = u := by rw [hu'] at hu; exact Option.some.inj hu
    subst hq1
    refine ⟨_, rfl, wpAny_letOwnedTupleGo_enum (s := { s with heap := h', toks := tk + 1 }) ho fun h'' he' sb => ?_⟩
    have hT2 : h''.get? s.heap.objs.size = some { cls := .type "tuple", data := .seq #[.int i tk, u'] } := (sb.2 _ (Nat.ne_of_gt hel)).trans hT
    have new : ObjOk X.prog X.w (upd H s.heap.objs.size (.tup [.int (i : Nat), x])) h'' s.heap.objs.size (.tup [.int (i : Nat), x]) :=
      ⟨by show 2 ≤ sizeLine; decide, [.int i tk, u'], .cons ⟨_, rfl⟩ (.cons ru .nil), ⟨_, hT2, rfl, _, rfl⟩⟩
    have I1 : Inv X pins σ (upd H s.heap.objs.size (.tup [.int (i : Nat), x])) { s with heap := h'', toks := tk + 1 } :=
      I.turnedNew (ch := [e, it]) (fun b ob hb q => (sb.2 b (fun z => hb (by simp [z]))).trans (hk b ob (fun z => hb (by simp [z])) (fun z => hb (by simp [z])) q)) hf (Nat.le_refl _) new
    refine ⟨.ref s.heap.objs.size, _, I1, rfl, ⟨_, x, rfl, I.hok.fresh (Nat.le_refl _), rfl, fun ys hy => by rw [I.tuple_inj hy hq]; exact hx⟩, ⟨⟨u', ?_⟩, hit'.1.at fun o q => (sb.2 it (Ne.symm hne)).trans q, hne⟩, fun b hb => ?_⟩
    · have e1 : ((i + 1 : Nat) : Int) = (i : Int) + 1 := by omega
      rw [e1]; exact he'
    · have hb' : b < s.heap.objs.size := by
        have e' : b = e ∨ b = it := by simpa using hb
        rcases e' with z | z
        · rw [z]; exact hel
        · rw [z]; exact hil
      rw [upd_ne (Nat.ne_of_lt hb')]
      exact (hf b hb).1
  done := by
    intro X hP hw hK hc i pins s σ H E I hf st hg
    subst hP hw hK
    obtain ⟨⟨old, he⟩, hit, hne⟩ := st
    obtain ⟨xs, hq, hx⟩ := hg
    obtain ⟨its, rv, p, hz⟩ := I.tuple hq
    obtain ⟨f0, f1, f2, f3, f4, f5⟩ := hf it (by simp)
    have hl := rv.length
    have p' : s.heap.IsTuple a its.toArray := p
    have hT : s.TypeIs (.ref e) "enumerate" := ⟨_, he, rfl⟩
    unfold pyNext
    refine wpAny_bind (wpAny_attempt (wpAny_callSpecial?_slot (name := Str.ofString "__next__") hT F.slot_enumerate_next
      (wpAny_call_entry F.slot_enumerate_next hT F.entry_enumerate_next ?_ (F.args_enumerate_next_1 _))))
    show wpAny _ _ (field (.ref e) 2 >>= _) _ _ _
    refine wpAny_bind (wpAny_field he rfl (x := .ref it) rfl ?_)
    refine wpAny_bind (wpAny_nextOf_tuple_end (I.ok.hd hc) hit p' (by simp; omega) fun h' x he' hx' => ?_)
    obtain ⟨o, ho, hc'⟩ := hx'
    refine wpAny_bind (wpAny_isInstance (T := "StopIteration") (b := true) ⟨o, ho, hc'⟩ isSubtype_stop ?_)
    exact wpAny_pure ⟨rfl, I.turned (t' := s.toks) (fun b o hb q => he' b o hb q) f0 f1 f3 f4 f5⟩
  self := fun A i s Q E st h => let ⟨⟨_, he⟩, _⟩ := st; wpAny_pyIter_enum he h
theorem meets_enumT (a : Addr) (items : Array Value) (n : Nat) (dct : Option Addr) (sl : Array (Option Value)) :
    Meets (Builtin.«enumerate.__new__» ⟨[.type "enumerate", .ref a], []⟩) (fun _ R s => s.heap.get? a = some { cls := .type "tuple", dict := dct, data := .seq items n, slots := sl } ∧
      R (.ok (.ret (.ref (s.heap.push { cls := .type "tuple_iterator", data := .fields #[.ref a, .int 0 0] }).objs.size)))
        { s with heap := (s.heap.push { cls := .type "tuple_iterator", data := .fields #[.ref a, .int 0 0] }).push { cls := .type "enumerate", data := .fields #[.none, .bool false, .ref s.heap.objs.size, rawInt 0, .none, .none] } }) :=
  .of_wp fun prog w A R s h => by
    obtain ⟨hp, g, d, tk, os⟩ := s; obtain ⟨hl, h⟩ := h
    have hsub := sub_enumerate
    have hT : Heap.IsTuple (Shared.heap ⟨hp, g, d, tk, os⟩) a items := ⟨_, hl, rfl, n, rfl⟩
    have ld := @AutoSeq1.wpAny_loadPart'
    wp_walk using AutoSeq1.wpAny_loadPart' hl
    refine wpAny_stack_any fun st => wpAny_pure ?_
    split
    · rename_i c _ _ _ _ _
      cases (c == Value.type "enumerate")
      · wp_walk using AutoSeq1.wpAny_loadPart' hl, wpAny_pyIter_tuple hT
        exact ⟨_, rfl, h⟩
      · wp_walk using AutoSeq1.wpAny_loadPart' hl, wpAny_pyIter_tuple hT
        exact ⟨_, rfl, h⟩
    · wp_walk using AutoSeq1.wpAny_loadPart' hl, wpAny_pyIter_tuple hT
      exact ⟨_, rfl, h⟩
theorem call_enumT {prog : Program} {w : World} {A : Around} {E : Value → Shared → Prop} {s : Shared} {a : Addr} {items : Array Value} {Q : Value → Shared → Prop} (hL : s.heap.IsTuple a items)
    (h : ∀ h', IsEnum h' (s.heap.objs.size + 1) s.heap.objs.size 0 .none → h'.IsTupleIter s.heap.objs.size a 0 → h'.objs.size = s.heap.objs.size + 2 →
      (∀ b o, s.heap.get? b = some o → h'.get? b = some o) → Q (.ref (s.heap.objs.size + 1)) { s with heap := h' }) :
    wpAny (model prog w) A (call (.type "enumerate") [.ref a]) Q E s := by
  obtain ⟨⟨c, dct, dt, sl⟩, hl, hc, n, hd⟩ := hL
  replace hc : c = .type "tuple" := hc
  replace hd : dt = .seq items n := hd
  subst hc hd
  refine callType_new F.called_enumerate (by decide) (F.typeCall_enumerate_1 _) (F.newCall_enumerate_1 _) (fun obj => F.args_object_init_2 obj _) F.entry_enumerate_new
    (meets_enumT a items n dct sl) ⟨hl, ?_⟩
  have hz : (s.heap.push { cls := .type "tuple_iterator", data := .fields #[.ref a, .int 0 0] }).objs.size = s.heap.objs.size + 1 := Heap.size_push ..
  show _ ∧ _
  rw [hz]
  have he : IsEnum ((s.heap.push { cls := .type "tuple_iterator", data := .fields #[.ref a, .int 0 0] }).push
      { cls := .type "enumerate", data := .fields #[.none, .bool false, .ref s.heap.objs.size, rawInt 0, .none, .none] }) (s.heap.objs.size + 1) s.heap.objs.size 0 .none := by
    have := Heap.get?_push_size (s.heap.push { cls := .type "tuple_iterator", data := .fields #[.ref a, .int 0 0] })
      (o := { cls := .type "enumerate", data := .fields #[.none, .bool false, .ref s.heap.objs.size, rawInt 0, .none, .none] }) rfl
    rw [hz] at this; exact this
  refine ⟨⟨_, he, rfl⟩, h _ he ⟨_, Heap.get?_push_of_some _ (Heap.get?_push_size _ rfl), rfl, rfl⟩ (by rw [Heap.size_push, hz]) fun b o x => Heap.get?_push_of_some _ (Heap.get?_push_of_some _ x)⟩
def iEnumA (K : PySem.W.Frag) (ta : TA) : TI := fun σ H R => ta σ H fun vs H1 => ∃ a xs, vs = [.ref a] ∧ ((SqL K H1 a xs ∧ R (Ite K a) H1) ∨ (SqT K H1 a xs ∧ R (IteT K a) H1))
theorem pi_enumA {ea : Expr} {ta : TA} {p tpos : Pos} {elts : List Expr} {kk : Nat} (hg : Gl X "enumerate") (hm : X.mg "enumerate" = none) (ha : PA X [ea] ta) (hs : starEach [ea] X.env = [(false, eval ea X.env)]) :
    PI X (.Tuple elts kk tpos) (.Call (.Name "enumerate" p) [ea] [] pos) (iEnumA X.K ta) := by
  refine ⟨fun pins s σ H R I h => ?_⟩
  refine Call_ (ld_blt I hg hm boot_enumerate (PyProof.Rows.callWith_type1 (thn (ha.run pos pins s σ H _ I h) fun us s1 ⟨vs, H1, I1, r1, q1⟩ => ?_) hs rfl))
  obtain ⟨a, xs, ex, q⟩ := q1
  subst ex
  cases r1 with
  | cons r rr =>
    cases rr
    cases r
    have fr : ∀ b ∈ [s1.heap.objs.size + 1, s1.heap.objs.size], FpOk X pins H1 b := fun b hb => by
      have e' : b = s1.heap.objs.size + 1 ∨ b = s1.heap.objs.size := by simpa using hb
      have hle : s1.heap.objs.size ≤ b := by
        rcases e' with z | z
        · rw [z]; exact Nat.le_add_right _ _
        · rw [z]; exact Nat.le_refl _
      exact I1.fpOk hle (I1.hok.fresh hle)
    rcases q with ⟨hq, q⟩ | ⟨hq, q⟩
    · obtain ⟨its, rv, p', hz⟩ := I1.list hq
      refine call_enumerate_list p'.isList fun h' he hit hsz hk => wpAny_pyIter_enum he ?_
      have I2 : Inv X pins σ H1 { s1 with heap := h' } := I1.kept (t' := s1.toks) hk
      exact ⟨s1.heap.objs.size + 1, [s1.heap.objs.size + 1, s1.heap.objs.size], _, _, H1, rfl, I2, turn_enum a (s1.heap.objs.size + 1) s1.heap.objs.size, ⟨⟨.none, he⟩, hit, Nat.succ_ne_self _⟩, fr, q⟩
    · obtain ⟨its, rv, p', hz⟩ := I1.tuple hq
      have p2 : s1.heap.IsTuple a its.toArray := p'
      have hlt : a < s1.heap.objs.size := by obtain ⟨o, ho, _⟩ := p2; exact Heap.lt_size ho
      refine call_enumT p2 fun h' he hit hsz hk => wpAny_pyIter_enum he ?_
      have I2 : Inv X pins σ H1 { s1 with heap := h' } := I1.kept (t' := s1.toks) hk
      exact ⟨s1.heap.objs.size + 1, [s1.heap.objs.size + 1, s1.heap.objs.size], _, _, H1, rfl, I2, turn_enumT a (s1.heap.objs.size + 1) s1.heap.objs.size (Nat.ne_of_lt hlt) (Nat.ne_of_gt (Nat.lt_succ_of_lt hlt)), ⟨⟨.none, he⟩, hit, Nat.succ_ne_self _⟩, fr, q⟩
/-- what enumerate and zip walk: pairs, each new -/
theorem walk_pair {J : L2.It} {ds : List D} (hgo : ∀ m2 w2 H2, Sub m w H m2 w2 H2 → ∀ i d, ds[i]? = some d → J.go i H2 ∧ ∀ x H3, J.yld i H2 x H3 → ∃ T u v du dv, x = .ref T ∧ H2 T = none ∧ H3 = upd H2 T (.tup [u, v]) ∧ d = .tup [du, dv] ∧ R G m2.F m2.rho w2.length H2 u du ∧ R G m2.F m2.rho w2.length H2 v dv)
    (hst : ∀ m2 w2 H2, Sub m w H m2 w2 H2 → ∀ i, ds.length ≤ i → J.stop i H2) : WalkD G m w H J ds := fun m2 w2 H2 x r2 => by
  refine ⟨fun i d hd => ?_, hst m2 w2 H2 x⟩
  obtain ⟨h1, h2⟩ := hgo m2 w2 H2 x i d hd
  refine ⟨h1, fun y H3 hy => ?_⟩
  obtain ⟨T, u, v, du, dv, rfl, hT, rfl, rfl, ru, rv⟩ := h2 y H3 hy
  have rl : Rel G m2 [] w2 [] H2 := ⟨r2, rfl, fun i s h => by simp at h, fun i j d d' h => by simp at h⟩
  obtain ⟨xt, _⟩ := rl.new hT (.tup [u, v])
  refine ⟨m2.add T, xt, fun e σ r => (r.new hT _).2, ?_⟩
  exact .tup (.inl ⟨.inl rfl, upd_same⟩) (by show 2 ≤ SZ; decide) (.cons (ru.ext xt) (.cons (rv.ext xt) .nil))
theorem RA.get' {vs : List V} {ds : List D} {i : Nat} {v : V} (h : RA G m.F m.rho w.length H vs ds) (e : vs[i]? = some v) : ∃ d, ds[i]? = some d ∧ R G m.F m.rho w.length H v d := by
  have hl := h.length
  have hi : i < ds.length := by rw [← hl]; exact (List.getElem?_eq_some_iff.mp e).1
  obtain ⟨u, hu, ru⟩ := h.get (List.getElem?_eq_getElem hi)
  rw [e] at hu
  cases hu
  exact ⟨_, List.getElem?_eq_getElem hi, ru⟩
theorem enumD_get (xs : List D) (i : Nat) : (enumD xs)[i]? = (xs[i]?).map fun x => .tup [.int i, x] := by
  unfold enumD
  rw [List.getElem?_mapIdx]
theorem i_enum {ea : Expr} {p tpos : Pos} {elts : List Expr} {kk : Nat} {xs : Xs} (hK : X.K = G.K) (hg : Gl X "enumerate") (hm : X.mg "enumerate" = none) (ha : PA X [ea] (TS' G xf Wx C xs)) (hs : starEach [ea] X.env = [(false, eval ea X.env)]) (h1 : xs.len = 1) :
    PI X (.Tuple elts kk tpos) (.Call (.Name "enumerate" p) [ea] [] pos) (TI' G xf Wx C (.enum xs)) := by
  refine ⟨fun pins s σ H R I ⟨m, e, w, r, q⟩ => (pi_enumA hg hm ha hs).run pins s σ H R I ?_⟩
  rw [evI] at q
  refine ⟨m, e, w, r, ev_len r q fun ds w1 vs m1 H1 x1 r1 y1 hl q1 => ?_⟩
  rw [h1] at hl
  obtain ⟨d, rfl⟩ := len1 hl
  cases y1 with
  | cons y t =>
    cases t
    cases d <;> first | exact PostE.stk_elim (by exact q1) | skip
    · cases y with
      | @tup a us _ t1 l1 z1 =>
        refine ⟨a, us, rfl, .inr ⟨by rw [hK]; exact t1.sq, PostE.val (by exact q1) r1 (walk_pair (fun m2 w2 H2 x i d hd => ?_) fun m2 w2 H2 x i hi => ?_)⟩⟩
        · have t2 : SqT X.K H2 a us := by
            rw [hK]
            rcases t1 with ⟨h1, h2⟩ | h1
            · exact .of ((x.aF a h1).trans h2)
            · exact .inr h1
          rw [enumD_get] at hd
          obtain ⟨d', hd', rfl⟩ := Option.map_eq_some_iff.mp hd
          obtain ⟨u, hu, ru⟩ := (z1.sub x).get hd'
          refine ⟨⟨us, u, t2, hu⟩, fun y H3 ⟨T, u', e1, e2, e3, e4⟩ => ?_⟩
          have e5 := e4 us t2
          rw [hu] at e5
          cases e5
          exact ⟨T, _, _, _, _, e1, e2, e3, rfl, .int _, ru⟩
        · have t2 : SqT X.K H2 a us := by
            rw [hK]
            rcases t1 with ⟨h1, h2⟩ | h1
            · exact .of ((x.aF a h1).trans h2)
            · exact .inr h1
          exact ⟨us, t2, by rw [z1.length]; simpa [enumD] using hi⟩
    · cases y with
      | @lst a us _ f1 t1 l1 z1 =>
        refine ⟨a, us, rfl, .inl ⟨.of t1, PostE.val (by exact q1) r1 (walk_pair (fun m2 w2 H2 x i d hd => ?_) fun m2 w2 H2 x i hi => ?_)⟩⟩
        · have t2 : SqL X.K H2 a us := .of ((x.aF a f1).trans t1)
          rw [enumD_get] at hd
          obtain ⟨d', hd', rfl⟩ := Option.map_eq_some_iff.mp hd
          obtain ⟨u, hu, ru⟩ := (z1.sub x).get hd'
          refine ⟨⟨us, u, t2, hu⟩, fun y H3 ⟨T, u', e1, e2, e3, e4⟩ => ?_⟩
          have e5 := e4 us t2
          rw [hu] at e5
          cases e5
          exact ⟨T, _, _, _, _, e1, e2, e3, rfl, .int _, ru⟩
        · have t2 : SqL X.K H2 a us := .of ((x.aF a f1).trans t1)
          exact ⟨us, t2, by rw [z1.length]; simpa [enumD] using hi⟩
/-! ### zip of a list and a tuple, either way -/
/-- the sequence at an address: a tuple (true) or a list -/
def SqM (b : Bool) (K : PySem.W.Frag) (H : Hp) (a : Addr) (xs : List V) : Prop := match b with
  | true => SqT K H a xs
  | false => SqL K H a xs
/-- its iterator -/
def ItM (b : Bool) (h : Heap) (it a : Addr) (i : Nat) : Prop := match b with
  | true => h.IsTupleIter it a i
  | false => h.IsListIter it a i
def CtM (b : Bool) (h : Heap) (a : Addr) (its : Array Value) : Prop := match b with
  | true => h.IsTuple a its
  | false => h.IsList a its
theorem ItM.at {b : Bool} {h h' : Heap} {it a : Addr} {i : Nat} (x : ItM b h it a i) (k : ∀ o, h.get? it = some o → h'.get? it = some o) : ItM b h' it a i := by
  cases b with
  | true => exact Heap.IsTupleIter.at x k
  | false => exact Heap.IsListIter.at x k
theorem ItM.obj {b : Bool} {h : Heap} {it a : Addr} {i : Nat} (x : ItM b h it a i) : ∃ o, h.get? it = some o ∧ ∀ v, o.data ≠ .cell v := by
  cases b with
  | true =>
    obtain ⟨o, e, _, d⟩ := x
    exact ⟨o, e, fun v q => by rw [d] at q; cases q⟩
  | false =>
    obtain ⟨o, e, _, d⟩ := x
    exact ⟨o, e, fun v q => by rw [d] at q; cases q⟩
theorem SqM.read {b : Bool} {X : Cx} {pins : List (Addr × Obj)} {σ : L2.St} {H : Hp} {s : Shared} {a : Addr} {xs : List V} (I : Inv X pins σ H s) (q : SqM b X.K H a xs) : ∃ its : List Value, Vals xs its ∧ CtM b s.heap a its.toArray ∧ a < s.heap.objs.size := by
  cases b with
  | true =>
    obtain ⟨its, rv, p, _⟩ := I.tuple q
    have p' : s.heap.IsTuple a its.toArray := p
    exact ⟨its, rv, p', by obtain ⟨o, ho, _⟩ := p'; exact Heap.lt_size ho⟩
  | false =>
    obtain ⟨its, rv, p, _⟩ := I.list q
    exact ⟨its, rv, p.isList, p.lt⟩
theorem SqM.inj {b : Bool} {X : Cx} {pins : List (Addr × Obj)} {σ : L2.St} {H : Hp} {s : Shared} {a : Addr} {xs ys : List V} (I : Inv X pins σ H s) (p : SqM b X.K H a xs) (q : SqM b X.K H a ys) : xs = ys := by
  cases b with
  | true => exact I.tuple_inj p q
  | false => exact I.list_inj p q
/-- what is drawn -/
theorem draws_go {b : Bool} {prog : Program} {w : World} {A : Around} (hh : A.handled = none) {it a : Addr} (hne : a ≠ it) (its : Array Value) :
    Draws prog w A it [it, a] its.size (fun i v => its[i]? = some v) (fun i h => ItM b h it a i ∧ CtM b h a its) := by
  cases b with
  | true => exact Draws.tuple hh it a hne its
  | false => exact Draws.list hh it a hne its
/-- at its end -/
theorem draws_end {b : Bool} {prog : Program} {w : World} {A : Around} (hh : A.handled = none) {it a : Addr} (its : Array Value) (n : Nat) (hn : its.size ≤ n) :
    Draws prog w A it [it, a] n (fun _ _ => True) (fun i h => i = n ∧ ItM b h it a n ∧ CtM b h a its) where
  live := fun i h st => by
    obtain ⟨o, e, _⟩ := st.2.1.obj
    exact ⟨o, e⟩
  frame := fun i h h' st hk => ⟨st.1, st.2.1.at fun o e => hk it (by simp) o e, by
    obtain ⟨_, _, c⟩ := st
    cases b with
    | true => exact Heap.IsTuple.at c fun o e => hk a (by simp) o e
    | false => exact Heap.IsList.at c fun o e => hk a (by simp) o e⟩
  item := fun i s Q E hi st _ => absurd st.1 (by omega)
  done := fun s Q E st hE => by
    have hx : its[n]? = none := by simp; omega
    cases b with
    | true => exact wpAny_nextOf_tuple_end hh st.2.1 st.2.2 hx hE
    | false => exact wpAny_nextOf_list_end hh st.2.1 st.2.2 hx hE
def ItzM (b c : Bool) (K : PySem.W.Frag) (a a' : Addr) : L2.It :=
  ⟨fun i H => ∃ (xs ys : List V) (x y : V), SqM b K H a xs ∧ SqM c K H a' ys ∧ xs[i]? = some x ∧ ys[i]? = some y,
    fun i H v H' => ∃ T x y, v = .ref T ∧ H T = none ∧ H' = upd H T (.tup [x, y]) ∧ (∀ l, SqM b K H a l → l[i]? = some x) ∧ ∀ l, SqM c K H a' l → l[i]? = some y,
    fun i H => ∃ xs ys : List V, SqM b K H a xs ∧ SqM c K H a' ys ∧ (xs.length ≤ i ∨ ys.length ≤ i)⟩
theorem turn_zipM {b c : Bool} {P : Program} {w : World} {K : PySem.W.Frag} {elts : List Expr} {kk : Nat} {tpos : Pos} {a a' z TI TO i1 i2 : Addr} (S : ZipSep2 z TI TO i1 i2 [i1, a] [i2, a']) (n1 : a ≠ i1) (n2 : a' ≠ i2) :
    Turn P w K (.Tuple elts kk tpos) (ItzM b c K a a') [z, TI, TO, i1, i2] z (fun i h => IsZip h z TI TO .none ∧ IsTupOf2 h TI (.ref i1) (.ref i2) ∧ (∃ x y, IsTupOf2 h TO x y) ∧ ItM b h i1 a i ∧ ItM c h i2 a' i) where
  mem := by simp
  obj := fun i h st f hf => by
    obtain ⟨hz, hTI, ⟨x, y, hTO⟩, h1, h2⟩ := st
    rcases (show f = z ∨ f = TI ∨ f = TO ∨ f = i1 ∨ f = i2 by simpa using hf) with rfl | rfl | rfl | rfl | rfl
    · exact ⟨_, hz, fun v q => nomatch q⟩
    · exact ⟨_, hTI, fun v q => nomatch q⟩
    · exact ⟨_, hTO, fun v q => nomatch q⟩
    · exact h1.obj
    · exact h2.obj
  keep := fun i h h' st k => by
    obtain ⟨hz, hTI, ⟨x, y, hTO⟩, h1, h2⟩ := st
    refine ⟨k z (by simp) _ hz, k TI (by simp) _ hTI, ⟨x, y, k TO (by simp) _ hTO⟩, h1.at ?_, h2.at ?_⟩
    · exact fun o q => k i1 (by simp) o q
    · exact fun o q => k i2 (by simp) o q
  item := by
    intro X hP hw hK hc i pins s σ H E I hf st hg
    subst hP hw hK
    obtain ⟨hz, hTI, ⟨x0, y0, hTO⟩, h1, h2⟩ := st
    obtain ⟨xs, ys, x, y, qx, qy, hx, hy⟩ := hg
    obtain ⟨its, rv, p1, _⟩ := qx.read I
    obtain ⟨jts, rw_, p2, _⟩ := qy.read I
    obtain ⟨u, hu, ru⟩ := rv.get hx
    obtain ⟨v, hv, rv2⟩ := rw_.get hy
    have hzl : z < s.heap.objs.size := Heap.lt_size hz
    have hh : X.A.in1.handled = none := I.ok.hd hc
    have l1 : i < its.toArray.size := by simpa using (List.getElem?_eq_some_iff.mp hu).1
    have l2 : i < jts.toArray.size := by simpa using (List.getElem?_eq_some_iff.mp hv).1
    refine wpAny_pyNext_zipD2_item S (draws_go (b := b) hh n1 its.toArray) (draws_go (b := c) hh n2 jts.toArray) hz hTI hTO ⟨h1, p1⟩ ⟨h2, p2⟩ l1 l2 fun u1 v1 h' tk g1 g2 z' o' s1 s2 hT hsz hk => ?_
    have e1 : u1 = u := by
      have : its[i]? = some u1 := by simpa using g1
      rw [hu] at this
      exact (Option.some.inj this).symm
    have e2 : v1 = v := by
      have : jts[i]? = some v1 := by simpa using g2
      rw [hv] at this
      exact (Option.some.inj this).symm
    subst e1 e2
    refine ⟨_, rfl, wpAny_letOwnedTupleGo_zip (s := { s with heap := h', toks := tk }) z' fun h2' z2 sb => ?_⟩
    have ht : h2'.get? s.heap.objs.size = some { cls := .type "tuple", data := .seq #[u1, v1] } := (sb.2 _ (Nat.ne_of_gt hzl)).trans hT
    have new : ObjOk X.prog X.w (upd H s.heap.objs.size (.tup [x, y])) h2' s.heap.objs.size (.tup [x, y]) := ⟨by show 2 ≤ sizeLine; decide, [u1, v1], .cons ru (.cons rv2 .nil), ⟨_, ht, rfl, _, rfl⟩⟩
    have kk' : ∀ f o, f ∉ [z, TI, TO, i1, i2] → s.heap.get? f = some o → h2'.get? f = some o := fun f o hn q => by
      simp only [List.mem_cons, List.not_mem_nil, or_false, not_or] at hn
      exact (sb.2 f hn.1).trans (hk f o hn.1 hn.2.2.1 hn.2.2.2.1 hn.2.2.2.2 q)
    have I1 : Inv X pins σ (upd H s.heap.objs.size (.tup [x, y])) { s with heap := h2', toks := tk } := I.turnedNew (ch := [z, TI, TO, i1, i2]) kk' hf (Nat.le_refl _) new
    have f1 : ItM b h2' i1 a (i + 1) := s1.1.at fun o q => (sb.2 _ S.zi1.symm).trans q
    have f2 : ItM c h2' i2 a' (i + 1) := s2.1.at fun o q => (sb.2 _ S.zi2.symm).trans q
    have fTI : IsTupOf2 h2' TI (.ref i1) (.ref i2) := (sb.2 _ S.TIz).trans (hk _ _ S.TIz S.TITO S.TIi1 S.TIi2 hTI)
    have fTO : IsTupOf2 h2' TO u1 v1 := (sb.2 _ S.TOz).trans o'
    refine ⟨.ref s.heap.objs.size, _, I1, rfl, ⟨_, x, y, rfl, I.hok.fresh (Nat.le_refl _), rfl, fun l hl => by rw [hl.inj I qx]; exact hx, fun l hl => by rw [hl.inj I qy]; exact hy⟩, ⟨z2, fTI, ⟨u1, v1, fTO⟩, f1, f2⟩, fun f hm => ?_⟩
    have hlt : f < s.heap.objs.size := by
      rcases (show f = z ∨ f = TI ∨ f = TO ∨ f = i1 ∨ f = i2 by simpa using hm) with rfl | rfl | rfl | rfl | rfl
      · exact hzl
      · exact Heap.lt_size hTI
      · exact Heap.lt_size hTO
      · obtain ⟨_, e, _⟩ := h1.obj; exact Heap.lt_size e
      · obtain ⟨_, e, _⟩ := h2.obj; exact Heap.lt_size e
    rw [upd_ne (Nat.ne_of_lt hlt)]
    exact (hf f hm).1
  done := by
    intro X hP hw hK hc i pins s σ H E I hf st hg
    subst hP hw hK
    obtain ⟨hz, hTI, ⟨x0, y0, hTO⟩, h1, h2⟩ := st
    obtain ⟨xs, ys, qx, qy, hend⟩ := hg
    obtain ⟨its, rv, p1, _⟩ := qx.read I
    obtain ⟨jts, rw_, p2, _⟩ := qy.read I
    have hh : X.A.in1.handled = none := I.ok.hd hc
    have e1 := rv.length
    have e2 := rw_.length
    have fin : ∀ h' tk, (∀ f o, f ≠ z → f ≠ TO → f ≠ i1 → f ≠ i2 → s.heap.get? f = some o → h'.get? f = some o) → (none : Option Value) = none ∧ Inv X pins σ H { s with heap := h', toks := tk } := fun h' tk hk => by
      refine ⟨rfl, I.turnedL (ch := [z, TI, TO, i1, i2]) (fun f o hn q => ?_) hf⟩
      simp only [List.mem_cons, List.not_mem_nil, or_false, not_or] at hn
      exact hk f o hn.1 hn.2.2.1 hn.2.2.2.1 hn.2.2.2.2 q
    by_cases c1 : its.toArray.size ≤ i
    · by_cases c2 : jts.toArray.size ≤ i
      · exact wpAny_pyNext_zipD2_end S (draws_end (b := b) hh its.toArray i c1) (draws_end (b := c) hh jts.toArray i c2) hz hTI hTO ⟨rfl, h1, p1⟩ ⟨rfl, h2, p2⟩ (Nat.le_refl _) (Nat.le_refl _) (.inl rfl) fin
      · exact wpAny_pyNext_zipD2_end S (draws_end (b := b) hh its.toArray i c1) (draws_go (b := c) hh n2 jts.toArray) hz hTI hTO ⟨rfl, h1, p1⟩ ⟨h2, p2⟩ (Nat.le_refl _) (by omega) (.inl rfl) fin
    · have c2 : jts.toArray.size ≤ i := by
        simp at c1 ⊢
        omega
      exact wpAny_pyNext_zipD2_end S (draws_go (b := b) hh n1 its.toArray) (draws_end (b := c) hh jts.toArray i c2) hz hTI hTO ⟨h1, p1⟩ ⟨rfl, h2, p2⟩ (by omega) (Nat.le_refl _) (.inr rfl) fin
  self := fun A i s Q E st h => wpAny_pyIter_zip st.1 h
theorem zipD_get (xs ys : List D) (i : Nat) (d : D) (h : (zipD xs ys)[i]? = some d) : ∃ a b, xs[i]? = some a ∧ ys[i]? = some b ∧ d = .tup [a, b] := by
  unfold zipD at h
  rw [List.getElem?_zipWith] at h
  cases h1 : xs[i]? with
  | none => simp [h1] at h
  | some a =>
    cases h2 : ys[i]? with
    | none => simp [h1, h2] at h
    | some b =>
      simp [h1, h2] at h
      exact ⟨a, b, rfl, rfl, h.symm⟩
theorem begM (b : Bool) (a : Addr) (its : Array Value) : ∃ o : Obj, Begins (.ref a) o (fun h => CtM b h a its) ∧ ∀ (h : Heap) (it : Addr), h.get? it = some o → ItM b h it a 0 := by
  cases b with
  | true => exact ⟨_, begins_tuple a its, fun h it e => ⟨_, e, rfl, rfl⟩⟩
  | false => exact ⟨_, begins_list a its, fun h it e => ⟨_, e, rfl, rfl⟩⟩
def iZipM (K : PySem.W.Frag) (ta : TA) : TI := fun σ H R => ta σ H fun vs H1 => ∃ bb cc a b xs ys, vs = [.ref a, .ref b] ∧ SqM bb K H1 a xs ∧ SqM cc K H1 b ys ∧ R (ItzM bb cc K a b) H1
theorem pi_zipM {ea eb : Expr} {ta : TA} {p tpos : Pos} {elts : List Expr} {kk : Nat} (hg : Gl X "zip") (hm : X.mg "zip" = none) (ha : PA X [ea, eb] ta)
    (hs : starEach [ea, eb] X.env = (false, eval ea X.env) :: starEach [eb] X.env) (hpl : (backTo pos (starEach [eb] X.env)).any (·.1) = false) :
    PI X (.Tuple elts kk tpos) (.Call (.Name "zip" p) [ea, eb] [] pos) (iZipM X.K ta) := by
  refine ⟨fun pins s σ H R I h => ?_⟩
  have run := ha.run pos pins s σ H _ I h
  refine Call_ (ld_blt I hg hm PyProof.Rows.boot_zip (PyProof.Rows.callWith_type1 (thn run ?_) hs hpl))
  intro us s1 ⟨vs, H1, I1, r1, bb, cc, a, b, xs, ys, ex, qx, qy, q⟩
  subst ex
  match r1 with
  | .cons r (.cons r' .nil) =>
    cases r
    cases r'
    obtain ⟨its, rv, p1, l1⟩ := qx.read I1
    obtain ⟨jts, rw_, p2, l2⟩ := qy.read I1
    obtain ⟨o1, B1, g1⟩ := begM bb a its.toArray
    obtain ⟨o2, B2, g2⟩ := begM cc b jts.toArray
    refine zip_begins2 B1 B2 p1 p2 fun h' hz hTI hTO e1 e2 hsz hk => wpAny_pyIter_zip hz ?_
    have I2 : Inv X pins σ H1 { s1 with heap := h' } := I1.kept (t' := s1.toks) hk
    have S : ZipSep2 (s1.heap.objs.size + 4) (s1.heap.objs.size + 2) (s1.heap.objs.size + 3) s1.heap.objs.size (s1.heap.objs.size + 1) [s1.heap.objs.size, a] [s1.heap.objs.size + 1, b] :=
      zip_sep2 (fun f hf => by rw [List.mem_singleton.mp hf]; exact l1) (fun f hf => by rw [List.mem_singleton.mp hf]; exact l2)
    have fr : ∀ f ∈ [s1.heap.objs.size + 4, s1.heap.objs.size + 2, s1.heap.objs.size + 3, s1.heap.objs.size, s1.heap.objs.size + 1], FpOk X pins H1 f := fun f hf => by
      have hle : s1.heap.objs.size ≤ f := by
        simp only [List.mem_cons, List.not_mem_nil, or_false] at hf
        rcases hf with rfl | rfl | rfl | rfl | rfl
        · exact Nat.le_add_right _ _
        · exact Nat.le_add_right _ _
        · exact Nat.le_add_right _ _
        · exact Nat.le_refl _
        · exact Nat.le_add_right _ _
      exact I1.fpOk hle (I1.hok.fresh hle)
    have t := turn_zipM (b := bb) (c := cc) (P := X.prog) (w := X.w) (K := X.K) (elts := elts) (kk := kk) (tpos := tpos) S (Nat.ne_of_lt l1) (Nat.ne_of_lt (Nat.lt_succ_of_lt l2))
    exact ⟨_, _, _, _, H1, rfl, I2, t, ⟨hz, hTI, ⟨_, _, hTO⟩, g1 _ _ e1, g2 _ _ e2⟩, fr, q⟩
theorem i_zip {ea eb : Expr} {p tpos : Pos} {elts : List Expr} {kk : Nat} {xs : Xs} (hK : X.K = G.K) (hg : Gl X "zip") (hm : X.mg "zip" = none) (ha : PA X [ea, eb] (TS' G xf Wx C xs))
    (hs : starEach [ea, eb] X.env = (false, eval ea X.env) :: starEach [eb] X.env) (hpl : (backTo pos (starEach [eb] X.env)).any (·.1) = false) (h1 : xs.len = 2) :
    PI X (.Tuple elts kk tpos) (.Call (.Name "zip" p) [ea, eb] [] pos) (TI' G xf Wx C (.zip xs)) := by
  refine ⟨fun pins s σ H R I ⟨m, e, w, r, q⟩ => (pi_zipM hg hm ha hs hpl).run pins s σ H R I ?_⟩
  rw [evI] at q
  refine ⟨m, e, w, r, ev_len r q fun ds w1 vs m1 H1 x1 r1 y1 hl q1 => ?_⟩
  rw [h1] at hl
  obtain ⟨d, d', rfl⟩ := len2 hl
  have tt : ∀ {m2 w2 H2}, Sub m1 w1 H1 m2 w2 H2 → ∀ {a us}, TupAt G m1.F H1 a us → SqM true X.K H2 a us := fun x a us t1 => by
    show SqT X.K _ a us
    rw [hK]
    rcases t1 with ⟨h1, h2⟩ | h1
    · exact .of ((x.aF a h1).trans h2)
    · exact .inr h1
  have tl : ∀ {m2 w2 H2}, Sub m1 w1 H1 m2 w2 H2 → ∀ {a us}, m1.F a → H1 a = some (.lst us) → SqM false X.K H2 a us := fun x a us f1 t1 => .of ((x.aF a f1).trans t1)
  have s0 : Sub m1 w1 H1 m1 w1 H1 := (Ext.refl m1 w1 H1).sub
  have fin : ∀ (bb cc : Bool) (a a' : Addr) (us us' : List V) (ds ds' : List D), (∀ {m2 w2 H2}, Sub m1 w1 H1 m2 w2 H2 → SqM bb X.K H2 a us) → (∀ {m2 w2 H2}, Sub m1 w1 H1 m2 w2 H2 → SqM cc X.K H2 a' us') → RA G m1.F m1.rho w1.length H1 us ds → RA G m1.F m1.rho w1.length H1 us' ds' →
      WalkD G m1 w1 H1 (ItzM bb cc X.K a a') (zipD ds ds') := fun bb cc a a' us us' ds ds' t1 t2 z1 z2 => by
    refine walk_pair (fun m2 w2 H2 x i d hd => ?_) fun m2 w2 H2 x i hi => ?_
    · obtain ⟨p1, p2, hp1, hp2, rfl⟩ := zipD_get _ _ _ _ hd
      obtain ⟨u, hu, ru⟩ := (z1.sub x).get hp1
      obtain ⟨v, hv, rv⟩ := (z2.sub x).get hp2
      refine ⟨⟨us, us', u, v, t1 x, t2 x, hu, hv⟩, fun y H3 ⟨T, u', v', e1, e2, e3, e4, e5⟩ => ?_⟩
      have e6 := e4 us (t1 x)
      have e7 := e5 us' (t2 x)
      rw [hu] at e6
      rw [hv] at e7
      cases e6
      cases e7
      exact ⟨T, _, _, _, _, e1, e2, e3, rfl, ru, rv⟩
    · refine ⟨us, us', t1 x, t2 x, ?_⟩
      rw [z1.length, z2.length]
      unfold zipD at hi
      rw [List.length_zipWith] at hi
      omega
  cases y1 with
  | cons y t => cases t with
    | cons y' t =>
      cases t
      cases d <;> first | exact PostE.stk_elim (by exact q1) | skip
      · cases d' <;> first | exact PostE.stk_elim (by exact q1) | skip
        · cases y with
          | @tup a us _ t1 l1 z1 => cases y' with
            | @tup a' us' _ t1' l1' z1' => exact ⟨true, true, a, a', us, us', rfl, tt s0 t1, tt s0 t1', PostE.val (by exact q1) r1 (fin true true a a' us us' _ _ (fun x => tt x t1) (fun x => tt x t1') z1 z1')⟩
        · cases y with
          | @tup a us _ t1 l1 z1 => cases y' with
            | @lst a' us' _ f1' t1' l1' z1' => exact ⟨true, false, a, a', us, us', rfl, tt s0 t1, tl s0 f1' t1', PostE.val (by exact q1) r1 (fin true false a a' us us' _ _ (fun x => tt x t1) (fun x => tl x f1' t1') z1 z1')⟩
      · cases d' <;> first | exact PostE.stk_elim (by exact q1) | skip
        · cases y with
          | @lst a us _ f1 t1 l1 z1 => cases y' with
            | @tup a' us' _ t1' l1' z1' => exact ⟨false, true, a, a', us, us', rfl, tl s0 f1 t1, tt s0 t1', PostE.val (by exact q1) r1 (fin false true a a' us us' _ _ (fun x => tl x f1 t1) (fun x => tt x t1') z1 z1')⟩
        · cases y with
          | @lst a us _ f1 t1 l1 z1 => cases y' with
            | @lst a' us' _ f1' t1' l1' z1' => exact ⟨false, false, a, a', us, us', rfl, tl s0 f1 t1, tl s0 f1' t1', PostE.val (by exact q1) r1 (fin false false a a' us us' _ _ (fun x => tl x f1 t1) (fun x => tl x f1' t1') z1 z1')⟩
end
end Ev

set_option maxRecDepth 100000
set_option maxHeartbeats 4000000
/-! Targets; comprehensions. -/
namespace Ev
open PySem PySem.Spec PyProof.Rows L2

def tgSl : Tg → List Nat
  | .n i => [i]
  | .t ts => go ts
where go : List Tg → List Nat
  | [] => []
  | t :: ts => tgSl t ++ go ts
def Off {α : Type} (vs : List Nat) (a b : List α) : Prop := a.length = b.length ∧ ∀ i, i ∉ vs → a[i]? = b[i]?
theorem Off.refl {α : Type} (vs : List Nat) (a : List α) : Off vs a a := ⟨rfl, fun _ _ => rfl⟩
theorem Off.set {α : Type} (i : Nat) (a : List α) (x : α) : Off [i] a (a.set i x) := ⟨by simp, fun j h => by
  rw [List.getElem?_set_ne]
  simp at h
  exact fun e => h e.symm⟩
theorem Off.trans {α : Type} {vs us : List Nat} {a b c : List α} (h : Off vs a b) (k : Off us b c) : Off (vs ++ us) a c :=
  ⟨h.1.trans k.1, fun i hi => by
    simp only [List.mem_append, not_or] at hi
    exact (h.2 i hi.1).trans (k.2 i hi.2)⟩
section
variable {G : GG} {xf : Nat → Option Str} {Wx : L2.WX} {m m' m1 : Fm} {w w' w1 : Wd} {H H' H1 : Hp} {e e' : Env} {σ : L2.St} {C : Cfg} {X : Cx} {pos : Pos}
theorem Rel.setVal (r : Rel G m e w σ H) {i : Nat} {v : V} {d : D} (hi : i < e.length) (y : R G m.F m.rho w.length H v d) : Rel G m (e.set i (.val d)) w (σ.set i (some v)) H := by
  refine ⟨r.toRelW, by simp [r.len], fun j s h => ?_, fun j k d1 d2 h1 h2 => ?_⟩
  · by_cases hj : i = j
    · subst hj
      rw [List.getElem?_set_self hi] at h
      cases h
      exact ⟨v, by rw [List.getElem?_set_self (by rw [r.len]; exact hi)], y⟩
    · rw [List.getElem?_set_ne hj] at h
      have q := r.sl j s h
      cases s with
      | un => trivial
      | val d => obtain ⟨u, h1, h2⟩ := q; exact ⟨u, by rw [List.getElem?_set_ne hj]; exact h1, h2⟩
      | own d => obtain ⟨h1, h2⟩ := q; exact ⟨by rw [List.getElem?_set_ne hj]; exact h1, h2⟩
      | exc c x0 =>
        obtain ⟨a0, pn, h1, h2⟩ := q
        exact ⟨a0, pn, by rw [List.getElem?_set_ne hj]; exact h1, h2⟩
  · have hj : i ≠ j := fun z => by subst z; rw [List.getElem?_set_self hi] at h1; cases h1
    have hk : i ≠ k := fun z => by subst z; rw [List.getElem?_set_self hi] at h2; cases h2
    rw [List.getElem?_set_ne hj] at h1
    rw [List.getElem?_set_ne hk] at h2
    exact r.oinj j k d1 d2 h1 h2
variable (G) in
def TGt (tg : Tg) : TG := fun v σ H Q => ∃ m e w d e', Rel G m e w σ H ∧ R G m.F m.rho w.length H v d ∧ bindTg tg d e = some e' ∧ ∀ σ', Rel G m e' w σ' H → Off (tgSl tg) σ σ' → Off (tgSl tg) e e' → Q σ' H
variable (G) in
def TGts (ts : List Tg) : TGs := fun vs σ H Q => ∃ m e w ds e', Rel G m e w σ H ∧ RA G m.F m.rho w.length H vs ds ∧ bindTg.go ts ds e = some e' ∧ ∀ σ', Rel G m e' w σ' H → Off (tgSl.go ts) σ σ' → Off (tgSl.go ts) e e' → Q σ' H
theorem pg_weak {tg : Expr} {t t' : TG} (h : PG X tg t) (hw : ∀ v σ H Q, t' v σ H Q → t v σ H Q) : PG X tg t' := ⟨fun pins s σ H v u Q I r q => h.run pins s σ H v u Q I r (hw v σ H Q q)⟩
theorem pgs_weak {tg : List Expr} {t t' : TGs} (h : PGs X tg t) (hw : ∀ v σ H Q, t' v σ H Q → t v σ H Q) : PGs X tg t' := ⟨fun pins s σ H v u Q I r q => h.run pins s σ H v u Q I r (hw v σ H Q q)⟩
theorem g_n {i : Nat} {x : Str} (hN : X.N.Nodup) (hi : X.N[i]? = some x) (hx : Loc X.env.scope x) (hf : X.fn x = true ∨ X.env.scope.names.lookup x = some .local) : PG X (.Name x pos) (TGt G (.n i)) :=
  pg_weak (pg_name hN hi hx hf) fun v σ H Q ⟨m, e, w, d, e', r, y, b, q⟩ => by
    rw [bindTg] at b
    by_cases h : i < e.length
    · rw [if_pos h] at b
      cases b
      exact q _ (r.setVal h y) (.set i σ _) (.set i e _)
    · rw [if_neg h] at b; cases b
theorem gs_nil : PGs X [] (TGts G []) := pgs_weak pgs_nil fun vs σ H Q ⟨m, e, w, ds, e', r, y, b, q⟩ => by
  cases ds with
  | nil =>
    cases y
    rw [bindTg.go] at b
    cases b
    exact ⟨rfl, q σ r (.refl _ _) (.refl _ _)⟩
  | cons d ds => rw [bindTg.go] at b <;> first | cases b | simp
theorem gs_cons {t : Expr} {ts : List Expr} {g : Tg} {gs : List Tg} (h1 : PG X t (TGt G g)) (h2 : PGs X ts (TGts G gs)) (hs : (assignEach (t :: ts) X.env).map (·.2) = assign t X.env :: (assignEach ts X.env).map (·.2)) : PGs X (t :: ts) (TGts G (g :: gs)) :=
  pgs_weak (pgs_cons h1 h2 hs) fun vs σ H Q ⟨m, e, w, ds, e', r, y, b, q⟩ => by
    cases y with
    | nil => rw [bindTg.go] at b <;> first | cases b | simp
    | @cons v d vs ds r1 y =>
      rw [bindTg.go] at b
      cases h : bindTg g d e with
      | none => rw [h] at b; cases b
      | some e1 =>
        rw [h] at b
        refine ⟨v, vs, rfl, m, e, w, d, e1, r, r1, h, fun σ' r' o1 o2 => ⟨m, e1, w, ds, e', r', y, b, fun σ2 r2 o3 o4 => q σ2 r2 ?_ ?_⟩⟩
        · rw [tgSl.go]; exact o1.trans o3
        · rw [tgSl.go]; exact o2.trans o4
theorem go_len : ∀ (gs : List Tg) (ds : List D) (e e' : Env), bindTg.go gs ds e = some e' → ds.length = gs.length
  | [], [], _, _, _ => rfl
  | [], _ :: _, _, _, h => by rw [bindTg.go] at h <;> first | cases h | simp
  | _ :: _, [], _, _, h => by rw [bindTg.go] at h <;> first | cases h | simp
  | g :: gs, d :: ds, e, e', h => by
    rw [bindTg.go] at h
    cases q : bindTg g d e with
    | none => rw [q] at h; cases h
    | some e1 =>
      rw [q] at h
      simp [go_len gs ds e1 e' h]
theorem g_t {ts : List Expr} {k : Nat} {gs : List Tg} (hK : X.K = G.K) (hc : X.calm = true) (h : PGs X ts (TGts G gs)) (hn : (assignEach ts X.env).length = gs.length) (hst : (assignEach ts X.env).findIdx? (·.1) = none) : PG X (.Tuple ts k pos) (TGt G (.t gs)) :=
  pg_weak (pg_tup hc h hn hst) fun v σ H Q ⟨m, e, w, d, e', r, y, b, q⟩ => by
    cases d <;> first | (rw [bindTg] at b <;> first | cases b | simp) | skip
    rw [bindTg] at b
    cases y with
    | @tup a vs _ t1 l1 z1 =>
      refine ⟨a, vs, rfl, by rw [hK]; exact t1.sq, by rw [z1.length]; exact go_len _ _ _ _ b, m, e, w, _, e', r, z1, b, fun σ' r' o1 o2 => q σ' r' ?_ ?_⟩
      · rw [tgSl]; exact o1
      · rw [tgSl]; exact o2

/-! ### comprehensions -/
/-- a place that nobody else may touch -/
def Fm.hold (m : Fm) (p : Addr) : Fm := { m with P := fun a => m.P a ∨ a = p }
theorem Rel.hold (r : Rel G m e w σ H) {p : Addr} (hp : H p ≠ none) (hF : ¬ m.F p) (hr : ∀ k, k < w.length → m.rho k ≠ p) (ho : ∀ i d, e[i]? = some (.own d) → m.oa i ≠ p) : Rel G (m.hold p) e w σ H := by
  refine ⟨⟨fun k d h => ?_, r.inj, r.allF, fun a h => ?_, fun a h => ?_⟩, r.len, fun i s h => ?_, r.oinj⟩
  · obtain ⟨h1, h2, h3⟩ := r.cell k d h
    exact ⟨h1, h2, fun q => q.elim h3 (hr k (List.getElem?_eq_some_iff.mp h).1)⟩
  · rcases h with h | h
    · exact r.allP a h
    · rw [h]; exact hp
  · rcases h with h | h
    · exact r.FP a h
    · rw [h]; exact hF
  · have q := r.sl i s h
    cases s with
    | un => trivial
    | val d => exact q
    | own d =>
      obtain ⟨h1, h2, h3, h4, h5⟩ := q
      exact ⟨h1, h2, h3, fun q => q.elim h4 (ho i d h), h5⟩
    | exc c x => exact q
/-- what P holds may be written: nothing that is told is about it -/
theorem Rel.at (r : Rel G m e w σ H) {p : Addr} (hp : m.P p) (o : HO) : Rel G m e w σ (upd H p o) := by
  have hne : ∀ a, a ≠ p → upd H p o a = H a := fun a h => upd_ne h
  have hF : ∀ a, m.F a → upd H p o a = H a := fun a h => hne a fun q => by subst q; exact r.FP _ hp h
  refine ⟨⟨fun k d h => ?_, r.inj, fun a h => ?_, fun a h => ?_, r.FP⟩, r.len, fun i s h => ?_, r.oinj⟩
  · obtain ⟨h1, h2, h3⟩ := r.cell k d h
    exact ⟨h1.mono (fun _ h => h) hF (Nat.le_refl _) (fun _ _ => rfl) (hne _ fun q => h3 (by rw [q]; exact hp)), h2, h3⟩
  · rw [hF a h]; exact r.allF a h
  · by_cases q : a = p
    · subst q; rw [upd_same]; simp
    · rw [hne a q]; exact r.allP a h
  · have q := r.sl i s h
    cases s with
    | un => trivial
    | val d =>
      obtain ⟨v, h1, h2⟩ := q
      exact ⟨v, h1, h2.mono (fun _ h => h) hF (Nat.le_refl _) fun _ _ => rfl⟩
    | own d =>
      obtain ⟨h1, h2, h3, h4, h5⟩ := q
      exact ⟨h1, h2.mono (fun _ h => h) hF (Nat.le_refl _) (fun _ _ => rfl) (hne _ fun q => h4 (by rw [q]; exact hp)), h3, h4, h5⟩
    | exc c x0 =>
      obtain ⟨a0, pn, h1, h2, h3⟩ := q
      exact ⟨a0, pn, h1, h2, h3.mono (fun _ h => h) hF (Nat.le_refl _) fun _ _ => rfl⟩
theorem wipeE_length (e : Env) : ∀ vs : List Nat, (wipeE e vs).length = e.length
  | [] => rfl
  | v :: vs => by unfold wipeE; rw [List.length_set, wipeE_length e vs]
theorem wipeE_not {e : Env} {i : Nat} : ∀ {vs : List Nat}, i ∉ vs → (wipeE e vs)[i]? = e[i]?
  | [], _ => rfl
  | v :: vs, h => by
    simp only [List.mem_cons, not_or] at h
    unfold wipeE
    rw [List.getElem?_set_ne (fun z => h.1 z.symm), wipeE_not h.2]
theorem wipeE_mem {e : Env} {i : Nat} {s : Slot} : ∀ {vs : List Nat}, i ∈ vs → (wipeE e vs)[i]? = some s → s = .un
  | v :: vs, h, q => by
    unfold wipeE at q
    by_cases hv : v = i
    · subst hv
      by_cases hl : v < (wipeE e vs).length
      · rw [List.getElem?_set_self hl] at q; cases q; rfl
      · rw [List.getElem?_eq_none (by simpa using hl)] at q; cases q
    · rw [List.getElem?_set_ne hv] at q
      rcases List.mem_cons.mp h with z | z
      · exact absurd z.symm hv
      · exact wipeE_mem z q
theorem wipe_not {σ : L2.St} {i : Nat} : ∀ {vs : List Nat}, i ∉ vs → (wipe σ vs)[i]? = σ[i]?
  | [], _ => rfl
  | v :: vs, h => by
    simp only [List.mem_cons, not_or] at h
    unfold wipe
    rw [List.getElem?_set_ne (fun z => h.1 z.symm), wipe_not h.2]
theorem wipe_mem {σ : L2.St} {i : Nat} : ∀ {vs : List Nat}, i ∈ vs → i < σ.length → (wipe σ vs)[i]? = some none
  | v :: vs, h, hl => by
    unfold wipe
    by_cases hv : v = i
    · subst hv
      rw [List.getElem?_set_self (by rw [wipe_length]; exact hl)]
    · rw [List.getElem?_set_ne hv]
      rcases List.mem_cons.mp h with z | z
      · exact absurd z.symm hv
      · exact wipe_mem z hl
theorem wipe_off {σ σ' : L2.St} {us vs : List Nat} (h : Off us (wipe σ vs) σ') (hs : ∀ i ∈ us, i ∈ vs) : wipe σ' vs = wipe σ vs := by
  have hl : σ'.length = σ.length := by rw [← h.1, wipe_length]
  apply List.ext_getElem?
  intro i
  by_cases hv : i ∈ vs
  · by_cases hi : i < σ.length
    · rw [wipe_mem hv hi, wipe_mem hv (by rw [hl]; exact hi)]
    · rw [List.getElem?_eq_none (by rw [wipe_length, hl]; omega), List.getElem?_eq_none (by rw [wipe_length]; omega)]
  · rw [wipe_not hv, ← h.2 i fun z => hv (hs i z)]
/-- into a block: its own names forgotten -/
theorem Rel.wipe (r : Rel G m e w σ H) (vs : List Nat) : Rel G m (wipeE e vs) w (L2.wipe σ vs) H := by
  refine ⟨r.toRelW, by rw [wipeE_length, wipe_length, r.len], fun i s h => ?_, fun i j d d' h1 h2 => ?_⟩
  · by_cases hv : i ∈ vs
    · rw [wipeE_mem hv h]; trivial
    · rw [wipeE_not hv] at h
      have q := r.sl i s h
      cases s with
      | un => trivial
      | val d => obtain ⟨v, h1, h2⟩ := q; exact ⟨v, by rw [wipe_not hv]; exact h1, h2⟩
      | own d => obtain ⟨h1, h2⟩ := q; exact ⟨by rw [wipe_not hv]; exact h1, h2⟩
      | exc c x0 =>
        obtain ⟨a0, pn, h1, h2⟩ := q
        exact ⟨a0, pn, by rw [wipe_not hv]; exact h1, h2⟩
  · have g1 : i ∉ vs := fun z => nomatch wipeE_mem z h1
    have g2 : j ∉ vs := fun z => nomatch wipeE_mem z h2
    rw [wipeE_not g1] at h1
    rw [wipeE_not g2] at h2
    exact r.oinj i j d d' h1 h2
/-- at a turn's end: the block's own names forgotten again -/
theorem Rel.rewipe {us vs : List Nat} {σ' : L2.St} (r : Rel G m e' w σ' H) (he : Off us (wipeE e vs) e') (hs : Off us (L2.wipe σ vs) σ') (hv : ∀ i ∈ us, i ∈ vs) : Rel G m (wipeE e vs) w (L2.wipe σ vs) H := by
  refine ⟨r.toRelW, by rw [he.1, hs.1, r.len], fun i s h => ?_, fun i j d d' h1 h2 => ?_⟩
  · by_cases hi : i ∈ vs
    · rw [wipeE_mem hi h]; trivial
    · have hu : i ∉ us := fun z => hi (hv i z)
      rw [he.2 i hu] at h
      have q := r.sl i s h
      cases s with
      | un => trivial
      | val d => obtain ⟨v, h1, h2⟩ := q; exact ⟨v, by rw [hs.2 i hu]; exact h1, h2⟩
      | own d => obtain ⟨h1, h2⟩ := q; exact ⟨by rw [hs.2 i hu]; exact h1, h2⟩
      | exc c x0 =>
        obtain ⟨a0, pn, h1, h2⟩ := q
        exact ⟨a0, pn, by rw [hs.2 i hu]; exact h1, h2⟩
  · have g1 : i ∉ us := fun z => nomatch wipeE_mem (hv i z) h1
    have g2 : j ∉ us := fun z => nomatch wipeE_mem (hv j z) h2
    rw [he.2 i g1] at h1
    rw [he.2 j g2] at h2
    exact r.oinj i j d d' h1 h2
/-- out of a block -/
theorem Rel.unwipe {vs : List Nat} (r0 : Rel G m e w σ H) (xt : Sub m w H m1 w1 H1) (r : Rel G m1 (wipeE e vs) w1 (L2.wipe σ vs) H1) (hk : wipeOk e vs = true) : Rel G m1 e w1 σ H1 := by
  unfold wipeOk at hk
  rw [List.all_eq_true] at hk
  have nown : ∀ i d, e[i]? = some (.own d) → i ∉ vs := fun i d h z => by
    have := hk i z
    rw [h] at this
    cases this
  refine ⟨r.toRelW, r0.len, fun i s h => ?_, fun i j d d' h1 h2 => ?_⟩
  · cases s with
    | un => trivial
    | val d => obtain ⟨v, h1, h2⟩ := r0.sl i _ h; exact ⟨v, h1, h2.sub xt⟩
    | own d =>
      have hv := nown i d h
      obtain ⟨h1, h2⟩ := r.sl i (.own d) (by rw [wipeE_not hv]; exact h)
      exact ⟨by rw [wipe_not hv] at h1; exact h1, h2⟩
    | exc c x =>
      obtain ⟨a0, pn, h1, h2, h3⟩ := r0.sl i _ h
      exact ⟨a0, pn, h1, h2, h3.mono xt.F xt.aF xt.wl xt.rho⟩
  · exact r.oinj i j d d' (by rw [wipeE_not (nown i d h1)]; exact h1) (by rw [wipeE_not (nown j d' h2)]; exact h2)
variable (G xf) in
/-- a clause's test -/
def TTc (C : Cfg) (c : Xo) : TT := fun σ H Q => ∃ m e w, Rel G m e w σ H ∧ PostE G xf (fun _ _ _ _ => False) m w H e σ RB Q (evc C c e w)
theorem pts_weak {ifs : List Expr} {t t' : TT} (h : PTs X ifs t) (hw : ∀ σ H Q, t' σ H Q → t σ H Q) : PTs X ifs t' := ⟨fun pins s σ H Q I q => h.run pins s σ H Q I (hw σ H Q q)⟩
theorem pts_no : PTs X [] (TTc G xf C .no) := pts_weak pts_nil fun σ H Q ⟨m, e, w, r, q⟩ => by
  rw [evc] at q
  exact PostE.val q r rfl
theorem pts_so {c : Expr} {x : Ev.X} (h : PT X c (TT' G xf (fun _ _ _ _ => False) C x)) : PTs X [c] (TTc G xf C (.so x)) := pts_weak (pts_one h) fun σ H Q ⟨m, e, w, r, q⟩ => by
  rw [evc] at q
  exact ⟨m, e, w, r, q⟩
theorem noX_ok {α : Type} {k : M α} {w : Wd} {r : Rs α} (h : noX k w = r) : (∃ d w', k w = .ok d w' ∧ r = .ok d w') ∨ r = .stk := by
  unfold noX at h
  cases q : k w with
  | ok d w' => rw [q] at h; exact .inl ⟨d, w', rfl, h.symm⟩
  | exc c x w' => rw [q] at h; exact .inr h.symm
  | stk => rw [q] at h; exact .inr h.symm
end
end Ev

set_option maxRecDepth 100000
set_option maxHeartbeats 4000000
/-! Comprehensions. -/
namespace Ev
open PySem PySem.Spec PyProof.Rows L2

section
variable {G : GG} {xf : Nat → Option Str} {Wx : L2.WX} {m m' m1 : Fm} {w w' w1 : Wd} {H H' H1 : Hp} {e e' : Env} {σ : L2.St} {C : Cfg} {X : Cx} {pos : Pos}
theorem lc_post {J : L2.It} {ds : List D} {g : Tg} {x : Ev.X} {c : Xo} {vs : List Nat} {Q : VK} {Dl : Addr} (hsl : ∀ i ∈ tgSl g, i ∈ vs) {Rl : Fm → Wd → Hp → V → D → Prop} (r1 : Rel G m1 e w1 σ H1) (wk : WalkD G m1 w1 H1 J ds) (hD : H1 Dl = none)
    (hk : wipeOk e vs = true) (hl : ds.length ≤ SZ)
    (hfin : ∀ mm w H acc ys, mm.P = m1.P → Rel G mm e w σ H → H Dl = some (.lst acc) → acc.length ≤ SZ → RA G mm.F mm.rho w.length H acc ys → ¬ mm.F Dl → ¬ mm.P Dl → (∀ k, k < w.length → mm.rho k ≠ Dl) → (∀ i d, e[i]? = some (.own d) → mm.oa i ≠ Dl) → ∃ m', Ext mm w H m' w H ∧ Rel G m' e w σ H ∧ Rl m' w H (.ref Dl) (.lst ys))
    (q : PostE G xf Wx m1 w1 H1 e σ Rl Q ((lcGo (fun e' => noX (nb e' x (ev C x e'))) (fun e' => noX (evc C c e')) g (wipeE e vs) ds >>= fun ys => pure (D.lst ys)) w1)) :
    ∃ W : Nat → Nat → Hp → Prop, (∃ m, W 0 m (upd H1 Dl (.lst []))) ∧ ∀ i m H, W i m H →
      (J.stop i H ∧ Q (.ref Dl) H) ∨ (J.go i H ∧ ∃ Nx : Hp → Prop, (∀ H', Nx H' → ∃ m', m' < m ∧ W (i + 1) m' H') ∧ ∀ y H', J.yld i H y H' → TGt G g y (wipe σ vs) H' fun σ2 H2 => wipe σ2 vs = wipe σ vs ∧ TTc G xf C c σ2 H2 fun b H3 =>
        if b = true then TN G xf (fun _ _ _ _ => False) C x σ2 H3 fun y H4 => ∃ acc, H4 Dl = some (.lst acc) ∧ acc.length < sizeLine ∧ Nx (upd H4 Dl (.lst (acc ++ [y]))) else Nx H3) := by
  obtain ⟨f1, f2, f3⟩ := r1.toRelW.free hD
  have f4 : ∀ i d, e[i]? = some (.own d) → m1.oa i ≠ Dl := fun i d h => r1.oaNe hD h
  obtain ⟨x2, r2⟩ := r1.lay hD (.lst [])
  refine ⟨fun i n H => n = ds.length - i ∧ i ≤ ds.length ∧ ∃ mm w acc ys, mm.P = (m1.hold Dl).P ∧ Sub m1 w1 H1 mm w H ∧ (∀ a, m1.P a → H a = H1 a) ∧ Rel G mm (wipeE e vs) w (L2.wipe σ vs) H ∧ H Dl = some (.lst acc) ∧ acc.length ≤ i ∧ RA G mm.F mm.rho w.length H acc ys ∧
    PostE G xf Wx m1 w1 H1 e σ Rl Q ((lcGo (fun e' => noX (nb e' x (ev C x e'))) (fun e' => noX (evc C c e')) g (wipeE e vs) (ds.drop i) >>= fun zs => pure (D.lst (ys ++ zs))) w),
    ⟨ds.length, by simp, Nat.zero_le _, m1.hold Dl, w1, [], [], rfl, ⟨fun _ h => h, x2.aF, Nat.le_refl _, fun _ _ => rfl, rfl⟩, x2.aP, (r2.hold (by rw [upd_same]; simp) f1 f3 f4).wipe vs, upd_same, Nat.zero_le _, .nil, by simpa using q⟩, ?_⟩
  rintro i n H ⟨rfl, hi, mm, w, acc, ys, hP, xs, hPH, rl, hDl, hacc, ra, qq⟩
  have hPD : mm.P Dl := by rw [hP]; exact .inr rfl
  by_cases hlt : i < ds.length
  · obtain ⟨hgo, hyl⟩ := (wk mm w H xs rl.toRelW).1 i ds[i] (List.getElem?_eq_getElem hlt)
    refine .inr ⟨hgo, fun H' => ∃ m', m' < ds.length - i ∧ (m' = ds.length - (i + 1) ∧ i + 1 ≤ ds.length ∧ ∃ mm w acc ys, mm.P = (m1.hold Dl).P ∧ Sub m1 w1 H1 mm w H' ∧ (∀ a, m1.P a → H' a = H1 a) ∧ Rel G mm (wipeE e vs) w (L2.wipe σ vs) H' ∧ H' Dl = some (.lst acc) ∧ acc.length ≤ i + 1 ∧ RA G mm.F mm.rho w.length H' acc ys ∧
      PostE G xf Wx m1 w1 H1 e σ Rl Q ((lcGo (fun e' => noX (nb e' x (ev C x e'))) (fun e' => noX (evc C c e')) g (wipeE e vs) (ds.drop (i + 1)) >>= fun zs => pure (D.lst (ys ++ zs))) w)), fun H' h => h, fun y H' hy => ?_⟩
    obtain ⟨m3, x3, t3, y3⟩ := hyl y H' hy
    have rl3 := t3 _ _ rl
    rw [List.drop_eq_getElem_cons hlt] at qq
    unfold lcGo at qq
    cases hb : bindTg g ds[i] (wipeE e vs) with
    | none => rw [hb] at qq; exact PostE.stk_elim (by exact qq)
    | some e1 =>
      rw [hb] at qq
      simp only [bnd_assoc] at qq
      refine ⟨m3, wipeE e vs, w, ds[i], e1, rl3, y3, hb, fun σ' r4 o1 o2 => ⟨wipe_off o1 hsl, m3, e1, w, r4, ?_⟩⟩
      have back : ∀ {m5 w5 H5}, Ext m3 w H' m5 w5 H5 → Rel G m5 e1 w5 σ' H5 → m5.P = (m1.hold Dl).P ∧ Sub m1 w1 H1 m5 w5 H5 ∧ (∀ a, m1.P a → H5 a = H1 a) ∧ Rel G m5 (wipeE e vs) w5 (L2.wipe σ vs) H5 ∧ H5 Dl = some (.lst acc) ∧ RA G m5.F m5.rho w5.length H5 acc ys := fun {m5 w5 H5} x5 r5 =>
        ⟨(x3.trans x5).P.trans hP, xs.trans (x3.trans x5).sub, fun a h => ((x3.trans x5).aP a (by rw [hP]; exact .inl h)).trans (hPH a h), r5.rewipe o2 o1 hsl, ((x3.trans x5).aP Dl hPD).trans hDl, ra.ext (x3.trans x5)⟩
      rw [bind_def] at qq
      rcases noX_ok (k := evc C c e1) (w := w) rfl with ⟨b, w5, h1, h2⟩ | h2
      · rw [h2] at qq
        rw [h1]
        intro b' m5 H5 x5 r5 eb
        cases eb
        cases b with
        | false =>
          simp only [Bool.false_eq_true, if_false]
          obtain ⟨b1, b2, b3, b4, b5, b6⟩ := back x5 r5
          exact ⟨_, by omega, rfl, hlt, m5, w5, acc, ys, b1, b2, b3, b4, b5, by omega, b6, qq⟩
        | true =>
          simp only [if_true]
          refine ⟨m5, e1, w5, r5, ?_⟩
          simp only [bnd_assoc] at qq
          rw [bind_def] at qq
          rcases noX_ok (k := nb e1 x (ev C x e1)) (w := w5) rfl with ⟨d, w6, h3, h4⟩ | h4
          · rw [h4] at qq
            rw [h3]
            intro v m6 H6 x6 r6 rv
            obtain ⟨b1, b2, b3, b4, b5, b6⟩ := back (x5.trans x6) r6
            refine ⟨acc, b5, by rw [← SZ_eq]; omega, _, by omega, rfl, hlt, m6, w6, acc ++ [v], ys ++ [d], b1, ?_, ?_, ?_, upd_same, by simp; omega, ?_, ?_⟩
            · refine ⟨b2.F, fun a h => ?_, b2.wl, b2.rho, b2.oa0⟩
              rw [upd_ne fun z => by subst z; exact f1 h]
              exact b2.aF a h
            · intro a h
              rw [upd_ne fun z => by subst z; exact f2 h]
              exact b3 a h
            · exact b4.at (by rw [b1]; exact .inr rfl) _
            · have hne : ∀ a, m6.F a → upd H6 Dl (.lst (acc ++ [v])) a = H6 a := fun a h => upd_ne fun z => by
                subst z
                exact b4.FP _ (by rw [b1]; exact .inr rfl) h
              exact (b6.append (.cons rv .nil)).mono (fun _ h => h) hne (Nat.le_refl _) fun _ _ => rfl
            · simp only [bnd_assoc, pure_bnd] at qq
              simp only [List.append_assoc, List.singleton_append]
              exact qq
          · rw [h4] at qq; exact PostE.stk_elim (by exact qq)
      · rw [h2] at qq; exact PostE.stk_elim (by exact qq)
  · have he : i = ds.length := by omega
    subst he
    refine .inl ⟨(wk mm w H xs rl.toRelW).2 _ (Nat.le_refl _), ?_⟩
    rw [List.drop_length] at qq
    unfold lcGo at qq
    simp only [pure_bnd, List.append_nil] at qq
    have rl2 := r1.unwipe xs rl hk
    have nF : ¬ mm.F Dl := fun h => rl.FP _ hPD h
    have rl3 : Rel G { mm with P := m1.P } e w σ H := by
      refine ⟨⟨fun k d h => ?_, rl2.inj, rl2.allF, fun a h => ?_, fun a h => ?_⟩, rl2.len, fun i s h => ?_, rl2.oinj⟩
      · obtain ⟨h1, h2, h3⟩ := rl2.cell k d h
        exact ⟨h1, h2, fun z => h3 (by rw [hP]; exact .inl z)⟩
      · exact rl2.allP a (by rw [hP]; exact .inl h)
      · exact rl2.FP a (by rw [hP]; exact .inl h)
      · have q := rl2.sl i s h
        cases s with
        | un => trivial
        | val d => exact q
        | own d =>
          obtain ⟨h1, h2, h3, h4, h5⟩ := q
          exact ⟨h1, h2, h3, fun z => h4 (by rw [hP]; exact .inl z), h5⟩
        | exc c x => exact q
    obtain ⟨m5, x5, r5, y5⟩ := hfin { mm with P := m1.P } w H acc ys rfl rl3 hDl (by omega) ra nF f2 (fun k hk z => (rl.cell k _ (List.getElem?_eq_getElem hk)).2.2 (by rw [z]; exact hPD)) (fun i d h z => by
      have := (rl2.sl i _ h).2.2.2.1
      rw [z] at this
      exact this hPD)
    exact qq (.ref Dl) m5 H (Ext.trans (m2 := { mm with P := m1.P }) ⟨rfl, xs.F, xs.aF, hPH, xs.wl, xs.rho, xs.oa0⟩ x5) r5 y5
theorem lc_fin {Dl : Addr} {xx : Ev.X} (hox : ownV e xx = false) : ∀ mm w H acc ys, mm.P = m1.P → Rel G mm e w σ H → H Dl = some (.lst acc) → acc.length ≤ SZ → RA G mm.F mm.rho w.length H acc ys → ¬ mm.F Dl → ¬ mm.P Dl → (∀ k, k < w.length → mm.rho k ≠ Dl) → (∀ i d, e[i]? = some (.own d) → mm.oa i ≠ Dl) → ∃ m', Ext mm w H m' w H ∧ Rel G m' e w σ H ∧ RX G e σ xx m' w H (.ref Dl) (.lst ys) :=
  fun mm w H acc ys _ r h1 h2 h3 h4 h5 h6 h7 => by
    obtain ⟨x5, r5⟩ := r.hand (x := Dl) (by rw [h1]; simp) h5 h6 h7
    exact ⟨_, x5, r5, (RX.of hox).mpr (.lst (.inl rfl) h1 h2 (h3.ext x5))⟩
theorem lc_weak {x : Ev.X} {g : Tg} {it : Ev.It} {c : Xo} {vs : List Nat} (hh : C.hot = false) (hsl : ∀ i ∈ tgSl g, i ∈ vs) {σ : L2.St} {H : Hp} {Q : VK} (h : TB G xf Wx C (.lc x g it c vs) σ H Q) :
    tLc (TI' G xf Wx C it) (TGt G g) (TTc G xf C c) (TN G xf (fun _ _ _ _ => False) C x) vs σ H Q := by
  obtain ⟨m, e, w, r, q⟩ := h
  rw [ev] at q
  obtain ⟨_, q⟩ := calm_post q
  refine ⟨m, e, w, r, q.step fun ds w1 J m1 H1 x1 r1 wk q1 => fun Dl hD => ?_⟩
  by_cases hk : (wipeOk e vs && decide (ds.length ≤ SZ)) = true
  · rw [if_pos hk] at q1
    rw [Bool.and_eq_true, decide_eq_true_eq] at hk
    exact lc_post hsl r1 wk hD hk.1 hk.2 (lc_fin rfl) q1
  · rw [if_neg hk] at q1; exact PostE.stk_elim (by exact q1)
theorem c_lc {elt tg iter : Expr} {ifs : List Expr} {scope : Scope} {own : List (Str × Nat)} {x : Ev.X} {g : Tg} {it : Ev.It} {c : Xo} (hc : C.hot = false → X.calm = true) (hN : X.N.Nodup) (hi : C.hot = false → PI X tg iter (TI' G xf Wx C it)) (ok : BlkOk X.N X.env.scope scope own)
    (hsl : ∀ i ∈ tgSl g, i ∈ own.map (·.2))
    (hg : C.hot = false → ∀ (s : Shared) (H : Hp) (C : Addr) (cl : List (Str × Addr)) (fp : List Addr), PG (X.blk s H scope (compEnvC scope cl C X.env) fp) tg (TGt G g))
    (ht : C.hot = false → ∀ (s : Shared) (H : Hp) (Ca : Addr) (cl : List (Str × Addr)) (fp : List Addr), PTs (X.blk s H scope (compEnvC scope cl Ca X.env) fp) ifs (TTc G xf C c))
    (he : C.hot = false → ∀ (s : Shared) (H : Hp) (Ca : Addr) (cl : List (Str × Addr)) (fp : List Addr), PE (X.blk s H scope (compEnvC scope cl Ca X.env) fp) elt (TB G xf (fun _ _ _ _ => False) C x)) (hs : ∀ x, foldedSetIterable iter X.env x = pure x) :
    PE X (.ListComp elt [⟨tg, iter, ifs, 0⟩] scope pos) (TB G xf Wx C (.lc x g it c (own.map (·.2)))) := by
  by_cases hh : C.hot = true
  · refine ⟨fun pins s σ H Q I ⟨m, e, w, r, q⟩ => ?_⟩
    rw [ev] at q
    have := (calm_post q).1
    rw [hh] at this; cases this
  · have hh : C.hot = false := by simpa using hh
    exact pe_weak (pe_lc (hc hh) hN (hi hh) ok (hg hh) (ht hh) (fun s H Ca cl fp => tn_of (he hh s H Ca cl fp)) hs) fun σ H Q h => lc_weak hh hsl h
end
end Ev

set_option maxRecDepth 100000
set_option maxHeartbeats 4000000
/-! Statements. -/
namespace Ev
open PySem PySem.Spec PyProof.Rows L2

section
variable (G : GG) (xf : Nat → Option Str) (Wx : L2.WX)
def PostS (m : Fm) (w : Wd) (H : Hp) (D : Ends) : Rs Fl → Prop
  | .ok (.nx e) w' => ∀ m' σ' H', Ext m w H m' w' H' → Rel G m' e w' σ' H' → D.nx σ' H'
  | .ok (.bk e) w' => ∀ m' σ' H', Ext m w H m' w' H' → Rel G m' e w' σ' H' → D.bk σ' H'
  | .ok (.ct e) w' => ∀ m' σ' H', Ext m w H m' w' H' → Rel G m' e w' σ' H' → D.ct σ' H'
  | .ok (.rt d) w' => ∀ m' v H', Ext m w H m' w' H' → RelW G m' w' H' → R G m'.F m'.rho w'.length H' v d → D.rt v H'
  | .ok (.xc c x e) w' => ∀ pn m' σ' H', Ext m w H m' w' H' → Rel G m' e w' σ' H' → XAt G xf m' w' H' c x pn → Wx (.ref (G.cl c)) pn σ' H'
  | .exc _ _ _ => False
  | .stk => False
def TSt (C : Cfg) (s : S) : TS := fun D σ H => ∃ m e w, Rel G m e w σ H ∧ PostS G xf Wx m w H D (ex C s e w)
def TSs (C : Cfg) (s : Ss) : TS := fun D σ H => ∃ m e w, Rel G m e w σ H ∧ PostS G xf Wx m w H D (exs C s e w)
end
theorem ps_weak {X : Cx} {st : Stmt} {t t' : TS} (h : PS X st t) (hw : ∀ D σ H, t' D σ H → t D σ H) : PS X st t' := ⟨fun pins s σ H D I q => h.run pins s σ H D I (hw D σ H q)⟩
theorem pss_weak {X : Cx} {st : List Stmt} {t t' : TS} (h : PSs X st t) (hw : ∀ D σ H, t' D σ H → t D σ H) : PSs X st t' := ⟨fun pins s σ H D I q => h.run pins s σ H D I (hw D σ H q)⟩
section
variable {G : GG} {xf : Nat → Option Str} {Wx : L2.WX} {m m' m1 : Fm} {w w' w1 : Wd} {H H' H1 : Hp} {e e' : Env} {σ σ' : L2.St} {C : Cfg} {X : Cx} {pos : Pos} {D : Ends}
theorem PostS.shift {r : Rs Fl} (h : PostS G xf Wx m w H D r) (xt : Ext m w H m1 w1 H1) : PostS G xf Wx m1 w1 H1 D r := by
  cases r with
  | ok f w' =>
    cases f with
    | nx e => exact fun m' σ' H' x r => h m' σ' H' (xt.trans x) r
    | bk e => exact fun m' σ' H' x r => h m' σ' H' (xt.trans x) r
    | ct e => exact fun m' σ' H' x r => h m' σ' H' (xt.trans x) r
    | rt d => exact fun m' v H' x r y => h m' v H' (xt.trans x) r y
    | xc c x e => exact fun pn m' σ' H' x r y => h pn m' σ' H' (xt.trans x) r y
  | exc c x w' => exact h
  | stk => exact h
theorem PostS.stk_elim (h : PostS G xf Wx m w H D ((stk : M Fl) w)) {P : Prop} : P := False.elim h
theorem PostS.cstk (h : PostS G xf Wx m w H D (cat e (stk : M Fl) w)) {P : Prop} : P := False.elim h
theorem PostS.nx (h : PostS G xf Wx m w H D ((pure (.nx e) : M Fl) w)) (r : Rel G m e w σ H) : D.nx σ H := h m σ H (.refl _ _ _) r
theorem PostS.cnx (h : PostS G xf Wx m w H D (cat e' (pure (.nx e)) w)) (r : Rel G m e w σ H) : D.nx σ H := h m σ H (.refl _ _ _) r
theorem PostS.step {α β : Type} {Rl1 : Fm → Wd → Hp → β → α → Prop} {Q1 : β → Hp → Prop} {r : M α} {k : α → M Fl} (h : PostS G xf Wx m w H D (cat e (r >>= k) w))
    (hk : ∀ d w1 v m1 H1, Ext m w H m1 w1 H1 → Rel G m1 e w1 σ H1 → Rl1 m1 w1 H1 v d → PostS G xf Wx m1 w1 H1 D (cat e (k d) w1) → Q1 v H1) : PostE G xf Wx m w H e σ Rl1 Q1 (r w) := by
  unfold cat at h
  rw [bind_def] at h
  cases q : r w with
  | ok d w' =>
    rw [q] at h
    exact fun v m' H' x r y => hk d w' v m' H' x r y (PostS.shift (by exact h) x)
  | exc c x w' =>
    rw [q] at h
    exact fun pn m' H' x r y => h pn m' σ H' x r y
  | stk => rw [q] at h; exact h
/-- a test's outcome -/
theorem PostS.test {r : M Bool} {a b : Wd → Rs Fl} {Q : Bool → Hp → Prop} (h : PostS G xf Wx m w H D (match r w with | .ok true w' => a w' | .ok false w' => b w' | .exc k x w' => .ok (.xc k x e) w' | .stk => .stk))
    (ht : ∀ w1 m1 H1, Ext m w H m1 w1 H1 → Rel G m1 e w1 σ H1 → PostS G xf Wx m1 w1 H1 D (a w1) → Q true H1) (hf : ∀ w1 m1 H1, Ext m w H m1 w1 H1 → Rel G m1 e w1 σ H1 → PostS G xf Wx m1 w1 H1 D (b w1) → Q false H1) : PostE G xf Wx m w H e σ RB Q (r w) := by
  cases q : r w with
  | ok d w' =>
    rw [q] at h
    intro v m' H' x r y
    have y' : v = d := y
    rw [← y'] at h
    cases v with
    | true => exact ht w' m' H' x r (PostS.shift (by exact h) x)
    | false => exact hf w' m' H' x r (PostS.shift (by exact h) x)
  | exc c x w' =>
    rw [q] at h
    exact fun pn m' H' x r y => h pn m' σ H' x r y
  | stk => rw [q] at h; exact h
theorem setS_post {i : Nat} {s : Slot} (h : PostS G xf Wx m w H D (cat e' (setS e i s) w1)) : i < e.length ∧ PostS G xf Wx m w H D ((pure (.nx (e.set i s)) : M Fl) w1) := by
  unfold setS at h
  by_cases hi : i < e.length
  · rw [if_pos hi] at h; exact ⟨hi, h⟩
  · rw [if_neg hi] at h; exact h.elim
theorem setS_post0 {i : Nat} {s : Slot} (h : PostS G xf Wx m w H D (setS e i s w1)) : i < e.length ∧ PostS G xf Wx m w H D ((pure (.nx (e.set i s)) : M Fl) w1) := by
  unfold setS at h
  by_cases hi : i < e.length
  · rw [if_pos hi] at h; exact ⟨hi, h⟩
  · rw [if_neg hi] at h; exact h.elim
theorem calm_hot {α : Type} {k : M α} (h : C.hot = true) : Ev.calm C k = stk := if_pos h
theorem calm_cold {α : Type} {k : M α} (h : C.hot = false) : Ev.calm C k = k := if_neg (by rw [h]; exact Bool.false_ne_true)
/-! ### name = value -/
theorem s_set {st : Stmt} {i : Nat} {x : Ev.X} (h : PS X st (tAsg (TN G xf Wx C x) (gName i))) : PS X st (TSt G xf Wx C (.set i x false)) :=
  ps_weak h fun D σ H ⟨m, e, w, r, q⟩ => by
    rw [ex] at q
    refine ⟨m, e, w, r, q.step fun d w1 v m1 H1 x1 r1 y1 q1 => ?_⟩
    obtain ⟨hi, q2⟩ := setS_post q1
    exact q2.nx (r1.setVal hi y1)
variable (G) in
/-- a container that nobody else holds -/
def RO (e : Env) : Fm → Wd → Hp → V → Ev.D → Prop := fun m w H v d => if contD d = true then ∃ p, v = .ref p ∧ Own G m.F m.rho w.length H p d ∧ ¬ m.F p ∧ ¬ m.P p ∧ (∀ k, k < w.length → m.rho k ≠ p) ∧ ∀ i d, e[i]? = some (.own d) → m.oa i ≠ p else R G m.F m.rho w.length H v d
variable (G xf Wx) in
def TF (C : Cfg) (x : Ev.X) : TE := fun σ H Q => ∃ m e w, Rel G m e w σ H ∧ PostE G xf Wx m w H e σ (RO G e) Q (ev C x e w)
def Fm.seto (m : Fm) (i : Nat) (p : Addr) : Fm := { m with oa := fun j => if j = i then p else m.oa j }
theorem Rel.setOwn (r : Rel G m e w σ H) {i : Nat} {p : Addr} {d : Ev.D} (hi0 : i ≠ 0) (hi : i < e.length) (o : Own G m.F m.rho w.length H p d) (h1 : ¬ m.F p) (h2 : ¬ m.P p) (h3 : ∀ k, k < w.length → m.rho k ≠ p) (h4 : ∀ i d, e[i]? = some (.own d) → m.oa i ≠ p) :
    Ext m w H (m.seto i p) w H ∧ Rel G (m.seto i p) (e.set i (.own d)) w (σ.set i (some (.ref p))) H := by
  refine ⟨⟨rfl, fun _ h => h, fun _ _ => rfl, fun _ _ => rfl, Nat.le_refl _, fun _ _ => rfl, if_neg (fun z => hi0 z.symm)⟩, ⟨⟨r.cell, r.inj, r.allF, r.allP, r.FP⟩, by simp [r.len], fun j s h => ?_, fun j k d1 d2 g1 g2 z => ?_⟩⟩
  · by_cases hj : i = j
    · subst hj
      rw [List.getElem?_set_self hi] at h
      cases h
      have e1 : (m.seto i p).oa i = p := if_pos rfl
      refine ⟨by rw [List.getElem?_set_self (by rw [r.len]; exact hi), e1], by rw [e1]; exact o, by rw [e1]; exact h1, by rw [e1]; exact h2, fun k hk z => ?_⟩
      rw [e1] at z
      exact h3 k hk z.symm
    · rw [List.getElem?_set_ne hj] at h
      have q := r.sl j s h
      have e1 : (m.seto i p).oa j = m.oa j := if_neg fun z => hj z.symm
      cases s with
      | un => trivial
      | val d => obtain ⟨u, g1, g2⟩ := q; exact ⟨u, by rw [List.getElem?_set_ne hj]; exact g1, g2⟩
      | own d =>
        obtain ⟨g1, g2, g3, g4, g5⟩ := q
        exact ⟨by rw [List.getElem?_set_ne hj, e1]; exact g1, by rw [e1]; exact g2, by rw [e1]; exact g3, by rw [e1]; exact g4, by rw [e1]; exact g5⟩
      | exc c x0 =>
        obtain ⟨a0, pn, h1, h2⟩ := q
        exact ⟨a0, pn, by rw [List.getElem?_set_ne hj]; exact h1, h2⟩
  · by_cases hj : i = j
    · subst hj
      by_cases hk : i = k
      · exact hk
      · rw [List.getElem?_set_ne hk] at g2
        have e1 : (m.seto i p).oa i = p := if_pos rfl
        have e2 : (m.seto i p).oa k = m.oa k := if_neg fun z => hk z.symm
        rw [e1, e2] at z
        exact absurd z.symm (h4 k _ g2)
    · rw [List.getElem?_set_ne hj] at g1
      have e1 : (m.seto i p).oa j = m.oa j := if_neg fun z => hj z.symm
      by_cases hk : i = k
      · subst hk
        have e2 : (m.seto i p).oa i = p := if_pos rfl
        rw [e1, e2] at z
        exact absurd z (h4 j _ g1)
      · rw [List.getElem?_set_ne hk] at g2
        have e2 : (m.seto i p).oa k = m.oa k := if_neg fun z => hk z.symm
        rw [e1, e2] at z
        exact r.oinj j k _ _ g1 g2 z
theorem s_own {st : Stmt} {i : Nat} {x : Ev.X} (h : PS X st (tAsg (TF G xf Wx C x) (gName i))) : PS X st (TSt G xf Wx C (.set i x true)) :=
  ps_weak h fun D σ H ⟨m, e, w, r, q⟩ => by
    rw [ex] at q
    refine ⟨m, e, w, r, q.step fun d w1 v m1 H1 x1 r1 y1 q1 => ?_⟩
    by_cases hc : contD d = true ∧ i ≠ 0
    case neg => rw [if_neg hc] at q1; exact q1.cstk
    rw [if_pos hc] at q1
    obtain ⟨hi, q2⟩ := setS_post q1
    unfold RO at y1
    rw [if_pos hc.1] at y1
    obtain ⟨p, rfl, o1, o2, o3, o4, o5⟩ := y1
    obtain ⟨x2, r2⟩ := r1.setOwn hc.2 hi o1 o2 o3 o4 o5
    exact q2 _ _ _ x2 r2

/-! ### small statements -/
theorem s_ret {ea : Expr} {x : Ev.X} (h : PE X ea (TB G xf Wx C x)) : PS X (.Return (some ea) pos) (TSt G xf Wx C (.ret x)) :=
  ps_weak (ps_ret (tn_of h)) fun D σ H ⟨m, e, w, r, q⟩ => by
    rw [ex] at q
    exact ⟨m, e, w, r, q.step fun d w1 v m1 H1 x1 r1 y1 q1 => q1 m1 v H1 (.refl _ _ _) r1.toRelW y1⟩
theorem s_retN : PS X (.Return none pos) (TSt G xf Wx C (.ret (.k .non))) :=
  ps_weak ps_retN fun D σ H ⟨m, e, w, r, q⟩ => by
    rw [ex, ev] at q
    exact q m .non H (.refl _ _ _) r.toRelW .non
theorem s_ex {ea : Expr} {x : Ev.X} (h : PE X ea (TB G xf Wx C x)) (hs : swapsWith ea none pos.line X.env = pure false) : PS X (.Expr ea pos) (TSt G xf Wx C (.ex x)) :=
  ps_weak (ps_expr h hs) fun D σ H ⟨m, e, w, r, q⟩ => by
    rw [ex] at q
    exact ⟨m, e, w, r, q.step fun d w1 v m1 H1 x1 r1 y1 q1 => q1.cnx r1⟩
theorem s_pas : PS X (.Pass pos) (TSt G xf Wx C .pas) := ps_weak ps_pass fun D σ H ⟨m, e, w, r, q⟩ => by rw [ex] at q; exact q.nx r
theorem s_doc {x : Str} {j : Nat} {p p' : Pos} : PS X (.Expr (.Constant (.str x) j p) p') (TSt G xf Wx C .pas) := ps_weak ps_doc fun D σ H ⟨m, e, w, r, q⟩ => by rw [ex] at q; exact q.nx r
theorem s_brk : PS X (.Break pos) (TSt G xf Wx C .brk) := ps_weak ps_break fun D σ H ⟨m, e, w, r, q⟩ => by rw [ex] at q; exact q m σ H (.refl _ _ _) r
theorem s_cnt : PS X (.Continue pos) (TSt G xf Wx C .cnt) := ps_weak ps_continue fun D σ H ⟨m, e, w, r, q⟩ => by rw [ex] at q; exact q m σ H (.refl _ _ _) r
theorem ss_nil : PSs X [] (TSs G xf Wx C .nil) := pss_weak pss_nil fun D σ H ⟨m, e, w, r, q⟩ => by rw [exs] at q; exact q.nx r
theorem PostS.seq {r : M Fl} {k : Env → M Fl} (h : PostS G xf Wx m w H D ((r >>= fun f => match f with | .nx e' => k e' | f => pure f) w)) :
    PostS G xf Wx m w H { D with nx := fun σ' H' => ∃ m' e' w', Rel G m' e' w' σ' H' ∧ Ext m w H m' w' H' ∧ PostS G xf Wx m' w' H' D (k e' w') } (r w) := by
  rw [bind_def] at h
  cases q : r w with
  | ok f w' =>
    rw [q] at h
    cases f with
    | nx e => exact fun m' σ' H' x r => ⟨m', e, w', r, x, PostS.shift (by exact h) x⟩
    | bk e => exact h
    | ct e => exact h
    | rt d => exact h
    | xc c x e => exact h
  | exc c x w' => rw [q] at h; exact h
  | stk => rw [q] at h; exact h
theorem PostS.imp {D' : Ends} {r : Rs Fl} (h : PostS G xf Wx m w H D r) (h1 : ∀ σ H, D.nx σ H → D'.nx σ H) (h2 : ∀ σ H, D.bk σ H → D'.bk σ H) (h3 : ∀ σ H, D.ct σ H → D'.ct σ H) (h4 : ∀ v H, D.rt v H → D'.rt v H) : PostS G xf Wx m w H D' r := by
  cases r with
  | ok f w' =>
    cases f with
    | nx e => exact fun m' σ' H' x r => h1 _ _ (h m' σ' H' x r)
    | bk e => exact fun m' σ' H' x r => h2 _ _ (h m' σ' H' x r)
    | ct e => exact fun m' σ' H' x r => h3 _ _ (h m' σ' H' x r)
    | rt d => exact fun m' v H' x r y => h4 _ _ (h m' v H' x r y)
    | xc c x e => exact h
  | exc c x w' => exact h
  | stk => exact h
theorem ss_cons {st : Stmt} {rest : List Stmt} {s : S} {ss : Ss} (h : PS X st (TSt G xf Wx C s)) (hs : PSs X rest (TSs G xf Wx C ss)) : PSs X (st :: rest) (TSs G xf Wx C (.cons s ss)) :=
  pss_weak (pss_cons h hs) fun D σ H ⟨m, e, w, r, q⟩ => by
    rw [exs] at q
    refine ⟨m, e, w, r, (PostS.seq q).imp (fun σ' H' ⟨m', e', w', r', x', q'⟩ => ⟨m', e', w', r', q'⟩) (fun _ _ h => h) (fun _ _ h => h) fun _ _ h => h⟩
theorem s_iff {ec : Expr} {sa sb : List Stmt} {c : Ev.X} {a b : Ss} (hc : PT X ec (TT' G xf Wx C c)) (ha : PSs X sa (TSs G xf Wx C a)) (hb : PSs X sb (TSs G xf Wx C b)) : PS X (.If ec sa sb pos) (TSt G xf Wx C (.iff c a b)) :=
  ps_weak (ps_if hc ha hb) fun D σ H ⟨m, e, w, r, q⟩ => by
    rw [ex] at q
    refine ⟨m, e, w, r, PostS.test q (fun w1 m1 H1 x1 r1 q1 => ?_) fun w1 m1 H1 x1 r1 q1 => ?_⟩
    · simp only [if_true]; exact ⟨m1, e, w1, r1, q1⟩
    · simp only [Bool.false_eq_true, if_false]; exact ⟨m1, e, w1, r1, q1⟩
theorem s_whl {ec : Expr} {sb : List Stmt} {c : Ev.X} {b : Ss} (hp : PassesOwn (model X.prog X.w) X.A X.env X.xe) (hc : PT X ec (TT' G xf Wx C c)) (hb : PSs X sb (TSs G xf Wx C b)) : PS X (.While ec sb [] pos) (TSt G xf Wx C (.whl c b)) :=
  ps_weak (ps_while hp hc hb) fun D σ H ⟨m, e, w, r, q⟩ => by
    rw [ex] at q
    refine ⟨fun n σ H => ∃ m e w, Rel G m e w σ H ∧ PostS G xf Wx m w H D (Ev.whl n (fun e => tst (ev C c e)) (fun e => exs C b e) e w), ⟨C.wf, m, e, w, r, q⟩, ?_⟩
    rintro n σ H ⟨m, e, w, r, q⟩
    cases n with
    | zero => exact PostS.stk_elim (by exact q)
    | succ n =>
      refine ⟨m, e, w, r, PostS.test (a := fun w' => match exs C b e w' with | .ok (.nx e') w2 => Ev.whl n (fun e => tst (ev C c e)) (fun e => exs C b e) e' w2 | .ok (.ct e') w2 => Ev.whl n (fun e => tst (ev C c e)) (fun e => exs C b e) e' w2 | .ok (.bk e') w2 => .ok (.nx e') w2 | r => r)
        (b := fun w' => .ok (.nx e) w') q (fun w1 m1 H1 x1 r1 q1 => ?_) fun w1 m1 H1 x1 r1 q1 => ?_⟩
      · simp only [if_true]
        refine ⟨fun σ' H' => ∃ m e w, Rel G m e w σ' H' ∧ PostS G xf Wx m w H' D (Ev.whl n (fun e => tst (ev C c e)) (fun e => exs C b e) e w), fun σ' H' h => ⟨n, Nat.lt_succ_self _, h⟩, m1, e, w1, r1, ?_⟩
        cases z : exs C b e w1 with
        | ok f w' =>
          rw [z] at q1
          cases f with
          | nx e => exact fun m' σ' H' x r => ⟨m', e, w', r, PostS.shift (by exact q1) x⟩
          | ct e => exact fun m' σ' H' x r => ⟨m', e, w', r, PostS.shift (by exact q1) x⟩
          | bk e => exact fun m' σ' H' x r => q1 m' σ' H' x r
          | rt d => exact q1
          | xc c x e => exact q1
        | exc c x w' => rw [z] at q1; exact q1
        | stk => rw [z] at q1; exact q1
      · simp only [Bool.false_eq_true, if_false]
        exact q1 m1 σ H1 (.refl _ _ _) r1
theorem s_for {tg iter : Expr} {sb : List Stmt} {g : Tg} {it : Ev.It} {b : Ss} (hp : PassesOwn (model X.prog X.w) X.A X.env X.xe) (hc : C.hot = false → X.calm = true) (hi : C.hot = false → PI X tg iter (TI' G xf Wx C it)) (hg : C.hot = false → PG X tg (TGt G g)) (hb : C.hot = false → PSs X sb (TSs G xf Wx C b))
    (hs : ∀ x, foldedSetIterable iter X.env x = pure x) : PS X (.For tg iter sb [] pos) (TSt G xf Wx C (.for g it b)) := by
  by_cases hh : C.hot = true
  · refine ⟨fun pins s σ H D I ⟨m, e, w, r, q⟩ => ?_⟩
    rw [ex] at q
    rw [calm_hot hh] at q
    exact PostS.stk_elim (by exact q)
  · have hh : C.hot = false := by simpa using hh
    refine ps_weak (ps_for hp (hc hh) (hi hh) (hg hh) (hb hh) hs) fun D σ H ⟨m, e, w, r, q⟩ => ?_
    rw [ex] at q
    rw [calm_cold hh] at q
    unfold onL at q
    refine ⟨m, e, w, r, ?_⟩
    cases z : evI C it e w with
    | exc c x w' =>
      rw [z] at q
      exact fun pn m' H' x r y => q pn m' σ H' x r y
    | stk => rw [z] at q; exact q
    | ok ds w0 =>
      rw [z] at q
      intro J m1 H1 x1 r1 wk
      have q1 := PostS.shift q x1
      refine ⟨fun i n σ H => n = ds.length - i ∧ i ≤ ds.length ∧ ∃ m e w, Sub m1 w0 H1 m w H ∧ Rel G m e w σ H ∧ PostS G xf Wx m w H D (forGo g (fun e => exs C b e) (ds.drop i) e w), ⟨ds.length, by simp, Nat.zero_le _, m1, e, w0, ⟨fun _ h => h, fun _ _ => rfl, Nat.le_refl _, fun _ _ => rfl, rfl⟩, r1, by simpa using q1⟩, ?_⟩
      rintro i n σ2 H2 ⟨rfl, hi, m2, e2, w2, xs, r2, q2⟩
      by_cases hlt : i < ds.length
      · obtain ⟨hgo, hyl⟩ := (wk m2 w2 H2 xs r2.toRelW).1 i ds[i] (List.getElem?_eq_getElem hlt)
        refine .inr ⟨hgo, fun σ' H' => ∃ m e w, Sub m1 w0 H1 m w H' ∧ Rel G m e w σ' H' ∧ PostS G xf Wx m w H' D (forGo g (fun e => exs C b e) (ds.drop (i + 1)) e w), fun σ' H' h => ⟨ds.length - (i + 1), by omega, rfl, hlt, h⟩, fun y H3 hy => ?_⟩
        obtain ⟨m3, x3, t3, y3⟩ := hyl y H3 hy
        have r3 := t3 _ _ r2
        rw [List.drop_eq_getElem_cons hlt] at q2
        unfold forGo at q2
        cases hb : bindTg g ds[i] e2 with
        | none => rw [hb] at q2; exact PostS.stk_elim (by exact q2)
        | some e3 =>
          rw [hb] at q2
          refine ⟨m3, e2, w2, ds[i], e3, r3, y3, hb, fun σ' r4 _ _ => ⟨m3, e3, w2, r4, ?_⟩⟩
          have q3 := PostS.shift q2 x3
          dsimp only at q3
          rw [bind_def] at q3
          cases z : exs C b e3 w2 with
          | ok f w' =>
            rw [z] at q3
            cases f with
            | nx e => exact fun m' σ' H' x r => ⟨m', e, w', xs.trans (x3.trans x).sub, r, PostS.shift (by exact q3) x⟩
            | ct e => exact fun m' σ' H' x r => ⟨m', e, w', xs.trans (x3.trans x).sub, r, PostS.shift (by exact q3) x⟩
            | bk e => exact fun m' σ' H' x r => q3 m' σ' H' x r
            | rt d => exact q3
            | xc c x e => exact q3
          | exc c x w' => rw [z] at q3; exact q3
          | stk => rw [z] at q3; exact q3
      · have he : i = ds.length := by omega
        subst he
        rw [List.drop_length] at q2
        unfold forGo at q2
        exact .inl ⟨(wk m2 w2 H2 xs r2.toRelW).2 _ (Nat.le_refl _), q2.nx r2⟩
end
end Ev

set_option maxRecDepth 100000
set_option maxHeartbeats 4000000
/-! Containers that change. -/
namespace Ev
open PySem PySem.Spec PyProof.Rows L2

section
variable {G : GG} {xf : Nat → Option Str} {Wx : L2.WX} {m m' m1 : Fm} {w w' w1 : Wd} {H H' H1 : Hp} {e e' : Env} {σ σ' : L2.St} {C : Cfg} {X : Cx} {pos : Pos} {Dn : Ends}
/-- an own container is rewritten -/
theorem Rel.putOwn (r : Rel G m e w σ H) {i : Nat} {d d' : D} {o : HO} (hi : e[i]? = some (.own d)) (ho : Own G m.F m.rho w.length (upd H (m.oa i) o) (m.oa i) d') :
    Ext m w H m w (upd H (m.oa i) o) ∧ Rel G m (e.set i (.own d')) w σ (upd H (m.oa i) o) := by
  obtain ⟨s1, s2, s3, s4, s5⟩ := r.sl i _ hi
  have hlt : i < e.length := (List.getElem?_eq_some_iff.mp hi).1
  have hne : ∀ a, a ≠ m.oa i → upd H (m.oa i) o a = H a := fun a h => upd_ne h
  have hF : ∀ a, m.F a → upd H (m.oa i) o a = H a := fun a h => hne a fun z => s3 (z ▸ h)
  refine ⟨⟨rfl, fun _ h => h, hF, fun a h => hne a fun z => s4 (z ▸ h), Nat.le_refl _, fun _ _ => rfl, rfl⟩, ⟨⟨fun k c h => ?_, r.inj, fun a h => ?_, fun a h => ?_, r.FP⟩, by simp [r.len], fun j s h => ?_, fun j k d1 d2 g1 g2 z => ?_⟩⟩
  · obtain ⟨h1, h2, h3⟩ := r.cell k c h
    exact ⟨h1.mono (fun _ h => h) hF (Nat.le_refl _) (fun _ _ => rfl) (hne _ fun z => s5 k (List.getElem?_eq_some_iff.mp h).1 z.symm), h2, h3⟩
  · rw [hF a h]; exact r.allF a h
  · by_cases q : a = m.oa i
    · subst q; exact absurd h s4
    · rw [hne a q]; exact r.allP a h
  · by_cases hj : i = j
    · subst hj
      rw [List.getElem?_set_self hlt] at h
      cases h
      exact ⟨s1, ho, s3, s4, s5⟩
    · rw [List.getElem?_set_ne hj] at h
      have q := r.sl j s h
      cases s with
      | un => trivial
      | val d => obtain ⟨v, h1, h2⟩ := q; exact ⟨v, h1, h2.mono (fun _ h => h) hF (Nat.le_refl _) fun _ _ => rfl⟩
      | own d =>
        obtain ⟨h1, h2, h3, h4, h5⟩ := q
        exact ⟨h1, h2.mono (fun _ h => h) hF (Nat.le_refl _) (fun _ _ => rfl) (hne _ fun z => hj (r.oinj j i _ _ h hi z).symm), h3, h4, h5⟩
      | exc c x0 =>
        obtain ⟨a0, pn, h1, h2, h3⟩ := q
        exact ⟨a0, pn, h1, h2, h3.mono (fun _ h => h) hF (Nat.le_refl _) fun _ _ => rfl⟩
  · by_cases hj : i = j
    · subst hj
      by_cases hk : i = k
      · exact hk
      · rw [List.getElem?_set_ne hk] at g2
        exact r.oinj i k _ _ hi g2 z
    · rw [List.getElem?_set_ne hj] at g1
      by_cases hk : i = k
      · subst hk
        exact r.oinj j i _ _ g1 hi z
      · rw [List.getElem?_set_ne hk] at g2
        exact r.oinj j k _ _ g1 g2 z
/-- a cell is rewritten -/
theorem Rel.putCel (r : Rel G m e w σ H) {n : Nat} {d d' : D} {o : HO} (hi : w[n]? = some d) (ho : Own G m.F m.rho w.length (upd H (m.rho n) o) (m.rho n) d') :
    Ext m w H m (w.set n d') (upd H (m.rho n) o) ∧ Rel G m e (w.set n d') σ (upd H (m.rho n) o) := by
  obtain ⟨s1, s2, s3⟩ := r.cell n _ hi
  have hlt : n < w.length := (List.getElem?_eq_some_iff.mp hi).1
  have hne : ∀ a, a ≠ m.rho n → upd H (m.rho n) o a = H a := fun a h => upd_ne h
  have hF : ∀ a, m.F a → upd H (m.rho n) o a = H a := fun a h => hne a fun z => s2 (z ▸ h)
  have hl : (w.set n d').length = w.length := by simp
  refine ⟨⟨rfl, fun _ h => h, hF, fun a h => hne a fun z => s3 (z ▸ h), by rw [hl]; exact Nat.le_refl _, fun _ _ => rfl, rfl⟩, ⟨⟨fun k c h => ?_, fun j k hj hk => r.inj j k (by rw [← hl]; exact hj) (by rw [← hl]; exact hk), fun a h => ?_, fun a h => ?_, r.FP⟩, r.len, fun j s h => ?_, r.oinj⟩⟩
  · rw [hl]
    by_cases hk : n = k
    · subst hk
      rw [List.getElem?_set_self hlt] at h
      cases h
      exact ⟨ho, s2, s3⟩
    · rw [List.getElem?_set_ne hk] at h
      obtain ⟨h1, h2, h3⟩ := r.cell k c h
      exact ⟨h1.mono (fun _ h => h) hF (Nat.le_refl _) (fun _ _ => rfl) (hne _ fun z => hk (r.inj n k hlt (List.getElem?_eq_some_iff.mp h).1 z.symm)), h2, h3⟩
  · rw [hF a h]; exact r.allF a h
  · by_cases q : a = m.rho n
    · subst q; exact absurd h s3
    · rw [hne a q]; exact r.allP a h
  · have q := r.sl j s h
    cases s with
    | un => trivial
    | val d => obtain ⟨v, h1, h2⟩ := q; exact ⟨v, h1, by rw [hl]; exact h2.mono (fun _ h => h) hF (Nat.le_refl _) fun _ _ => rfl⟩
    | own d =>
      obtain ⟨h1, h2, h3, h4, h5⟩ := q
      refine ⟨h1, by rw [hl]; exact h2.mono (fun _ h => h) hF (Nat.le_refl _) (fun _ _ => rfl) (hne _ fun z => h5 n hlt z), h3, h4, fun k hk => h5 k (by rw [← hl]; exact hk)⟩
    | exc c x =>
      obtain ⟨a0, pn, h1, h2, h3⟩ := q
      exact ⟨a0, pn, h1, h2, by rw [hl]; exact h3.mono (fun _ h => h) hF (Nat.le_refl _) fun _ _ => rfl⟩
/-- where the container of slot i is -/
def CAt (m : Fm) (e : Env) (w : Wd) (i : Nat) (d : D) (a : Addr) : Prop := (e[i]? = some (.own d) ∧ a = m.oa i) ∨ ∃ n, e[i]? = some (.val (.cel n)) ∧ w[n]? = some d ∧ a = m.rho n
theorem CAt.own {i : Nat} {d : D} {a : Addr} (r : Rel G m e w σ H) (h : CAt m e w i d a) : σ[i]? = some (some (.ref a)) ∧ Own G m.F m.rho w.length H a d := by
  rcases h with ⟨h1, rfl⟩ | ⟨n, h1, h2, rfl⟩
  · obtain ⟨s1, s2, _⟩ := r.sl i _ h1
    exact ⟨s1, s2⟩
  · obtain ⟨v, s1, s2⟩ := r.sl i _ h1
    cases s2
    exact ⟨s1, (r.cell n _ h2).1⟩
/-- .. and what stands behind a write there -/
def putC (e : Env) (w : Wd) (i : Nat) (d : D) : Env × Wd := match e[i]? with
  | some (.val (.cel n)) => (e, w.set n d)
  | _ => (e.set i (.own d), w)
theorem CAt.put {i : Nat} {d d' : D} {a : Addr} {o : HO} (r : Rel G m e w σ H) (h : CAt m e w i d a) (ho : Own G m.F m.rho w.length (upd H a o) a d') :
    Ext m w H m (putC e w i d').2 (upd H a o) ∧ Rel G m (putC e w i d').1 (putC e w i d').2 σ (upd H a o) := by
  unfold putC
  rcases h with ⟨h1, rfl⟩ | ⟨n, h1, h2, rfl⟩
  · rw [h1]; exact r.putOwn h1 ho
  · rw [h1]; exact r.putCel h2 ho
theorem CAt.noF {i : Nat} {d : D} {a : Addr} (r : Rel G m e w σ H) (h : CAt m e w i d a) : ¬ m.F a := by
  rcases h with ⟨h1, rfl⟩ | ⟨n, h1, h2, rfl⟩
  · exact (r.sl i _ h1).2.2.1
  · exact (r.cell n _ h2).2.1
theorem CAt.ra {i : Nat} {d : D} {a : Addr} {o : HO} (r : Rel G m e w σ H) (h : CAt m e w i d a) {vs : List V} {ds : List D} (y : RA G m.F m.rho w.length H vs ds) : RA G m.F m.rho w.length (upd H a o) vs ds :=
  y.mono (fun _ h => h) (fun b hb => upd_ne fun z => h.noF r (by rw [← z]; exact hb)) (Nat.le_refl _) fun _ _ => rfl
theorem CAt.lst {i : Nat} {xs ys : List D} {us : List V} {a : Addr} (r : Rel G m e w σ H) (h : CAt m e w i (.lst xs) a) (hl : us.length ≤ SZ) (y : RA G m.F m.rho w.length H us ys) :
    Ext m w H m (putC e w i (.lst ys)).2 (upd H a (.lst us)) ∧ Rel G m (putC e w i (.lst ys)).1 (putC e w i (.lst ys)).2 σ (upd H a (.lst us)) :=
  h.put r ⟨us, upd_same, hl, h.ra r y⟩
theorem isL_post {k : Unit → M Fl} {i : Nat} (h : PostS G xf Wx m w H Dn (cat e (isL e i >>= k) w)) : (∃ xs a, CAt m e w i (.lst xs) a) ∧ PostS G xf Wx m w H Dn (cat e (k ()) w) := by
  unfold isL at h
  cases z : e[i]? with
  | none => rw [z] at h; exact PostS.cstk (e := e) (by exact h)
  | some s =>
    rw [z] at h
    cases s with
    | un => exact PostS.cstk (e := e) (by exact h)
    | exc c x => exact PostS.cstk (e := e) (by exact h)
    | own d => cases d <;> first | exact PostS.cstk (e := e) (by exact h) | exact ⟨⟨_, _, .inl ⟨z, rfl⟩⟩, h⟩
    | val d =>
      cases d <;> first | exact PostS.cstk (e := e) (by exact h) | skip
      rename_i n
      unfold cat at h
      rw [bind_def] at h
      cases y : w[n]? with
      | none => simp only [y] at h; exact h.elim
      | some d =>
        simp only [y] at h
        cases d <;> first | exact h.elim | exact ⟨⟨_, _, .inr ⟨n, z, y, rfl⟩⟩, h⟩
theorem toL_post {f : List D → Option (List D)} {i : Nat} (h : PostS G xf Wx m w H Dn (cat e' (toL e i f) w1)) : ∃ xs ys a, CAt m e w1 i (.lst xs) a ∧ f xs = some ys ∧ PostS G xf Wx m w H Dn (.ok (.nx (putC e w1 i (.lst ys)).1) (putC e w1 i (.lst ys)).2) := by
  unfold toL at h
  unfold putC
  cases z : e[i]? with
  | none => rw [z] at h; exact h.elim
  | some s =>
    rw [z] at h
    cases s with
    | un => exact h.elim
    | exc c x => exact h.elim
    | own d =>
      cases d <;> first | exact h.elim | skip
      rename_i xs
      dsimp only at h
      cases y : f xs with
      | none => rw [y] at h; exact h.elim
      | some ys => rw [y] at h; exact ⟨xs, ys, _, .inl ⟨z, rfl⟩, y, h⟩
    | val d =>
      cases d <;> first | exact h.elim | skip
      rename_i n
      unfold cat at h
      dsimp only at h
      cases y : w1[n]? with
      | none => rw [y] at h; exact h.elim
      | some d =>
        rw [y] at h
        cases d <;> first | exact h.elim | skip
        rename_i xs
        dsimp only at h
        cases y2 : f xs with
        | none => rw [y2] at h; exact h.elim
        | some ys => rw [y2] at h; exact ⟨xs, ys, _, .inr ⟨n, z, y, rfl⟩, y2, h⟩
theorem CAt.same {i : Nat} {d d1 : D} {a b : Addr} (h : CAt m e w i d a) (r : Rel G m e w σ H) (r1 : Rel G m1 e w1 σ H1) (h1 : CAt m1 e w1 i d1 b) : a = b := by
  have e1 := (h.own r).1
  have e2 := (h1.own r1).1
  rw [e1] at e2
  cases e2
  rfl
theorem tyL {K : PySem.W.Frag} {a : Addr} {vs : List V} (h : H a = some (.lst vs)) : tyV K "list" (.ref a) H := .inl ⟨rfl, vs, .of h⟩
theorem popE_post {i : Nat} {j : Int} {k : Env → D → M Fl} (h : PostS G xf Wx m w H Dn (cat e' (popE e i j k) w)) : ∃ xs a n d, CAt m e w i (.lst xs) a ∧ L2.ixN xs.length j = some n ∧ xs[n]? = some d ∧
    PostS G xf Wx m w H Dn (cat e' (k (putC e w i (.lst (xs.eraseIdx n))).1 d) (putC e w i (.lst (xs.eraseIdx n))).2) := by
  unfold popE at h
  unfold putC
  cases z : e[i]? with
  | none => rw [z] at h; exact PostS.cstk (e := e') (by exact h)
  | some s =>
    rw [z] at h
    cases s with
    | un => exact PostS.cstk (e := e') (by exact h)
    | exc c x => exact PostS.cstk (e := e') (by exact h)
    | own d =>
      cases d <;> first | exact PostS.cstk (e := e') (by exact h) | skip
      rename_i xs
      dsimp only at h
      cases y : L2.ixN xs.length j with
      | none => rw [y] at h; exact PostS.cstk (e := e') (by exact h)
      | some n =>
        rw [y] at h
        dsimp only at h
        cases y2 : xs[n]? with
        | none => rw [y2] at h; exact PostS.cstk (e := e') (by exact h)
        | some d => rw [y2] at h; exact ⟨xs, _, n, d, .inl ⟨z, rfl⟩, y, y2, h⟩
    | val d =>
      cases d <;> first | exact PostS.cstk (e := e') (by exact h) | skip
      rename_i c
      unfold cat at h
      dsimp only at h
      cases y0 : w[c]? with
      | none => rw [y0] at h; exact h.elim
      | some d =>
        rw [y0] at h
        cases d <;> first | exact h.elim | skip
        rename_i xs
        dsimp only at h
        cases y : L2.ixN xs.length j with
        | none => rw [y] at h; exact h.elim
        | some n =>
          rw [y] at h
          dsimp only at h
          cases y2 : xs[n]? with
          | none => rw [y2] at h; exact h.elim
          | some d => rw [y2] at h; exact ⟨xs, _, n, d, .inr ⟨c, z, y0, rfl⟩, y, y2, h⟩
/-- one argument -/
theorem PostS.one {α : Type} {xs : Xs} {k : List D → M Fl} {Q1 : List V → Hp → Prop} (h1 : xs.len = 1) (h : PostS G xf Wx m w H Dn (cat e (evs C xs e >>= k) w))
    (hk : ∀ d w1 v m1 H1, Ext m w H m1 w1 H1 → Rel G m1 e w1 σ H1 → R G m1.F m1.rho w1.length H1 v d → PostS G xf Wx m1 w1 H1 Dn (cat e (k [d]) w1) → Q1 [v] H1) : PostE G xf Wx m w H e σ (RRs G) Q1 (evs C xs e w) := by
  have l := evs_len (C := C) (e := e) xs w
  unfold cat at h
  rw [bind_def] at h
  cases q : evs C xs e w with
  | ok ds w' =>
    rw [q] at h
    have hl := l ds w' q
    rw [h1] at hl
    obtain ⟨d, rfl⟩ := len1 hl
    intro v m' H' x r y
    cases y with
    | cons a t =>
      cases t
      exact hk d w' _ m' H' x r a (PostS.shift (by exact h) x)
  | exc c x w' =>
    rw [q] at h
    exact fun pn m' H' x r y => h pn m' σ H' x r y
  | stk => rw [q] at h; exact h
theorem oneI_post {d : D} {k : Int → M Fl} (h : PostS G xf Wx m w H Dn (cat e (oneI [d] k) w)) : ∃ j, d = .int j ∧ PostS G xf Wx m w H Dn (cat e (k j) w) := by
  cases d <;> first | exact PostS.cstk (e := e) (by exact h) | exact ⟨_, rfl, h⟩
theorem seq_of_ixN {n j : Nat} {k : Int} (h : L2.ixN n k = some j) : seqIndex? k n = some j := (ixN_seq h).1
/-- the syntax of x.m(a) -/
structure MethC (X : Cx) (i : Nat) (x : Str) (px : Pos) (nm : Str) (ea : Expr) (apos cpos : Pos) : Prop where
  N : X.N[i]? = some x
  v : Vis X.env.scope x
  d : (x == ("__debug__" : Str)) = false
  cd : (x == ("__classdict__" : Str)) = false
  b : attributeBase (.Name x px) nm X.env (eval (.Name x px) X.env) = eval (.Name x px) X.env
  f : ((backTo cpos (starEach [ea] X.env)).all (fun x => !x.1) && (backToKw cpos (keywordEach [] X.env)).all (fun x => x.1.isSome) && decide ([ea].length + ([] : List Keyword).length + (if ([] : List Keyword).isEmpty then 0 else 1) < 30)) = true
  l : (apos.endLine == cpos.line) = true
  s : starEach [ea] X.env = (false, eval ea X.env) :: starEach [] X.env
theorem s_app {i : Nat} {x : Str} {ea : Expr} {es : Xs} {px apos cpos : Pos} (M : MethC X i x px "append" ea apos cpos) (ha : PA X [ea] (TS' G xf Wx C es)) (h1 : es.len = 1) : PS X (.Expr (.Call (.Attribute (.Name x px) "append" apos) [ea] [] cpos) pos) (TSt G xf Wx C (.app i es)) :=
  ps_weak (ps_expr (pe_bm F.plainAttrs_list F.slot_list_append F.type_list_append mt_append (pe_var M.N M.v M.d M.cd) ha M.b M.f M.l M.s rfl) rfl) fun D σ H ⟨m, e, w, r, q⟩ => by
    rw [ex] at q
    obtain ⟨⟨xs, a, ca⟩, q1⟩ := isL_post q
    obtain ⟨s1, vs, s2, _⟩ := ca.own r
    refine ⟨_, s1, tyL s2, m, e, w, r, PostS.one (α := Unit) h1 q1 fun d w1 v m1 H1 x1 r1 yv q2 => ?_⟩
    obtain ⟨xs2, ys, b, cb, hf, q3⟩ := toL_post (by exact q2)
    have hab := ca.same r r1 cb
    subst hab
    obtain ⟨_, vs2, s3, s4, s5⟩ := cb.own r1
    split at hf <;> first | cases hf | skip
    rename_i hlt
    have hlen : vs2.length < SZ := by rw [s5.length]; exact hlt
    obtain ⟨x2, r2⟩ := cb.lst r1 (us := vs2 ++ [v]) (by simp; omega) (s5.append (.cons yv .nil))
    exact ⟨_, vs2, v, rfl, rfl, s3, by rw [← SZ_eq]; exact hlen, q3 _ _ _ x2 r2⟩
theorem s_ext {i : Nat} {x : Str} {ea : Expr} {es : Xs} {px apos cpos : Pos} (hK : X.K = G.K) (M : MethC X i x px "extend" ea apos cpos) (ha : PA X [ea] (TS' G xf Wx C es)) (h1 : es.len = 1) : PS X (.Expr (.Call (.Attribute (.Name x px) "extend" apos) [ea] [] cpos) pos) (TSt G xf Wx C (.ext i es)) :=
  ps_weak (ps_expr (pe_bm F.plainAttrs_list F.slot_list_extend F.type_list_extend mt_ext2 (pe_var M.N M.v M.d M.cd) ha M.b M.f M.l M.s rfl) rfl) fun D σ H ⟨m, e, w, r, q⟩ => by
    rw [ex] at q
    obtain ⟨⟨xs, a, ca⟩, q1⟩ := isL_post q
    obtain ⟨s1, vs, s2, _⟩ := ca.own r
    refine ⟨_, s1, tyL s2, m, e, w, r, PostS.one (α := Unit) h1 q1 fun d w1 v m1 H1 x1 r1 yv q2 => ?_⟩
    cases d <;> first | exact PostS.cstk (e := e) (by exact q2) | skip
    · rename_i zs
      cases yv with
      | @tup p ws _ t1 l1 f4 =>
        obtain ⟨xs2, ys, b, cb, hf, q3⟩ := toL_post (by exact q2)
        have hab := ca.same r r1 cb
        subst hab
        obtain ⟨_, vs2, s3, s4, s5⟩ := cb.own r1
        split at hf <;> first | cases hf | skip
        rename_i hlt
        have hlen : vs2.length + ws.length ≤ SZ := by rw [s5.length, f4.length]; exact hlt
        obtain ⟨x2, r2⟩ := cb.lst r1 (us := vs2 ++ ws) (by rw [List.length_append]; exact hlen) (s5.append f4)
        exact .inr ⟨_, p, vs2, ws, rfl, rfl, s3, by rw [hK]; exact t1.sq, by rw [← SZ_eq]; exact hlen, q3 _ _ _ x2 r2⟩
    rename_i zs
    cases yv with
    | @lst p ws _ f1 f2 f3 f4 =>
      obtain ⟨xs2, ys, b, cb, hf, q3⟩ := toL_post (by exact q2)
      have hab := ca.same r r1 cb
      subst hab
      obtain ⟨_, vs2, s3, s4, s5⟩ := cb.own r1
      split at hf <;> first | cases hf | skip
      rename_i hlt
      have hlen : vs2.length + ws.length ≤ SZ := by rw [s5.length, f4.length]; exact hlt
      obtain ⟨x2, r2⟩ := cb.lst r1 (us := vs2 ++ ws) (by rw [List.length_append]; exact hlen) (s5.append f4)
      exact .inl ⟨_, p, vs2, ws, rfl, rfl, s3, f2, by rw [← SZ_eq]; exact hlen, q3 _ _ _ x2 r2⟩
theorem ixN_lt {n j : Nat} {k : Int} (h : L2.ixN n k = some j) (hn : n ≤ SZ) : -(2 ^ 63) ≤ k ∧ k < 2 ^ 63 := by
  obtain ⟨_, h2, h3, h4⟩ := ixN_seq h
  have : (SZ : Nat) = 16777216 := rfl
  omega
theorem pop_rule {i : Nat} {xs : List D} {a : Addr} {n : Nat} {j : Int} {d : D} (r : Rel G m e w σ H) (ca : CAt m e w i (.lst xs) a) (hj : L2.ixN xs.length j = some n) (hd : xs[n]? = some d) {Q : VK}
    (q : ∀ v us, R G m.F m.rho w.length (upd H a (.lst us)) v d → Ext m w H m (putC e w i (.lst (xs.eraseIdx n))).2 (upd H a (.lst us)) → Rel G m (putC e w i (.lst (xs.eraseIdx n))).1 (putC e w i (.lst (xs.eraseIdx n))).2 σ (upd H a (.lst us)) → Q v (upd H a (.lst us))) :
    rPopAt (.ref a) [.int j] H Q := by
  obtain ⟨_, vs, s3, s4, s5⟩ := ca.own r
  obtain ⟨v, hv, rv⟩ := s5.get hd
  have hl := s5.length
  rw [← hl] at hj
  obtain ⟨k1, k2⟩ := ixN_lt hj s4
  obtain ⟨x2, r2⟩ := ca.lst r (us := vs.eraseIdx n) (Nat.le_trans (len_erase _ _) s4) (s5.erase n)
  refine ⟨a, vs, j, n, v, rfl, rfl, s3, k1, k2, seq_of_ixN hj, hv, q v _ ?_ x2 r2⟩
  exact rv.mono (fun _ h => h) (fun b hb => upd_ne fun z => ca.noF r (by rw [← z]; exact hb)) (Nat.le_refl _) fun _ _ => rfl
theorem putC_len {i : Nat} {d d' : D} {a : Addr} (h : CAt m e w i d a) : (putC e w i d').1.length = e.length ∧ (putC e w i d').2.length = w.length := by
  unfold putC
  rcases h with ⟨h1, _⟩ | ⟨n, h1, _, _⟩
  · rw [h1]; simp
  · rw [h1]; simp
theorem s_popx {i : Nat} {x : Str} {ea : Expr} {es : Xs} {px apos cpos : Pos} (M : MethC X i x px "pop" ea apos cpos) (ha : PA X [ea] (TS' G xf Wx C es)) (h1 : es.len = 1) : PS X (.Expr (.Call (.Attribute (.Name x px) "pop" apos) [ea] [] cpos) pos) (TSt G xf Wx C (.popx i es)) :=
  ps_weak (ps_expr (pe_bm F.plainAttrs_list F.slot_list_pop F.type_list_pop mt_popAt (pe_var M.N M.v M.d M.cd) ha M.b M.f M.l M.s rfl) rfl) fun D σ H ⟨m, e, w, r, q⟩ => by
    rw [ex] at q
    obtain ⟨⟨xs, a, ca⟩, q1⟩ := isL_post q
    obtain ⟨s1, vs, s2, _⟩ := ca.own r
    refine ⟨_, s1, tyL s2, m, e, w, r, PostS.one (α := Unit) h1 q1 fun d w1 v m1 H1 x1 r1 yv q2 => ?_⟩
    obtain ⟨j, rfl, q22⟩ := oneI_post q2
    obtain ⟨xs2, b, n, d, cb, hj, hd, q3⟩ := popE_post q22
    have hab := ca.same r r1 cb
    subst hab
    cases yv
    exact pop_rule r1 cb hj hd fun v us rv x2 r2 => q3 _ _ _ x2 r2
theorem s_popat {i j : Nat} {x y : Str} {ea : Expr} {es : Xs} {px py apos cpos : Pos} (M : MethC X i x px "pop" ea apos cpos) (ha : PA X [ea] (TS' G xf Wx C es)) (h1 : es.len = 1) (hn : X.N.Nodup) (hj : X.N[j]? = some y) (hl : Loc X.env.scope y) (hf : X.fn y = true ∨ X.env.scope.names.lookup y = some .local) :
    PS X (.Assign [.Name y py] (.Call (.Attribute (.Name x px) "pop" apos) [ea] [] cpos) pos) (TSt G xf Wx C (.popat j i es)) :=
  ps_weak (ps_set hn hj hl (pe_bm F.plainAttrs_list F.slot_list_pop F.type_list_pop mt_popAt (pe_var M.N M.v M.d M.cd) ha M.b M.f M.l M.s rfl) rfl hf) fun D σ H ⟨m, e, w, r, q⟩ => by
    rw [ex] at q
    obtain ⟨⟨xs, a, ca⟩, q1⟩ := isL_post q
    obtain ⟨s1, vs, s2, _⟩ := ca.own r
    refine ⟨_, s1, tyL s2, m, e, w, r, PostS.one (α := Unit) h1 q1 fun d w1 v m1 H1 x1 r1 yv q2 => ?_⟩
    obtain ⟨k, rfl, q22⟩ := oneI_post q2
    obtain ⟨xs2, b, n, d, cb, hj, hd, q3⟩ := popE_post q22
    have hab := ca.same r r1 cb
    subst hab
    cases yv with
    | int =>
      refine pop_rule r1 cb hj hd fun v us rv x2 r2 => ?_
      obtain ⟨hlt, q4⟩ := setS_post q3
      exact PostS.nx (q4.shift x2) (r2.setVal hlt (by rw [(putC_len cb).2]; exact rv))
theorem s_pop {i j : Nat} {x y : Str} {px py apos cpos : Pos} (hN : X.N[i]? = some x) (hv : Vis X.env.scope x) (hd : (x == ("__debug__" : Str)) = false) (hcd : (x == ("__classdict__" : Str)) = false)
    (hb : attributeBase (.Name x px) "pop" X.env (eval (.Name x px) X.env) = eval (.Name x px) X.env) (hl : (apos.endLine == cpos.line) = true) (hn : X.N.Nodup) (hj : X.N[j]? = some y) (hy : Loc X.env.scope y) (hf : X.fn y = true ∨ X.env.scope.names.lookup y = some .local) :
    PS X (.Assign [.Name y py] (.Call (.Attribute (.Name x px) "pop" apos) [] [] cpos) pos) (TSt G xf Wx C (.pop j i)) :=
  ps_weak (ps_set hn hj hy (pe_bm0 F.plainAttrs_list F.slot_list_pop F.type_list_pop mt_pop (pe_var hN hv hd hcd) hb hl) rfl hf) fun D σ H ⟨m, e, w, r, q⟩ => by
    rw [ex] at q
    cases z : e[i]? with
    | none => rw [z] at q; exact q.elim
    | some s =>
      rw [z] at q
      cases s with
      | own d =>
        cases d <;> first | exact q.elim | skip
        rename_i xs
        dsimp only at q
        cases y2 : xs[xs.length - 1]? with
        | none => rw [y2] at q; exact q.elim
        | some d =>
          rw [y2] at q
          have ca : CAt m e w i (.lst xs) (m.oa i) := .inl ⟨z, rfl⟩
          obtain ⟨s1, vs, s3, s4, s5⟩ := ca.own r
          have hl := s5.length
          obtain ⟨v, hv, rv⟩ := s5.get (i := xs.length - 1) y2
          have hdl : RA G m.F m.rho w.length H vs.dropLast xs.dropLast := by
            rw [List.dropLast_eq_take, List.dropLast_eq_take, hl]
            exact s5.take _
          obtain ⟨x2, r2⟩ := ca.lst r (us := vs.dropLast) (by simp; omega) hdl
          have e1 : putC e w i (.lst xs.dropLast) = (e.set i (.own (.lst xs.dropLast)), w) := by unfold putC; rw [z]
          rw [e1] at x2 r2
          dsimp only at q
          obtain ⟨hlt, q4⟩ := setS_post0 q
          refine ⟨_, s1, tyL s3, _, vs, v, rfl, rfl, s3, by rw [hl]; exact hv, PostS.nx (q4.shift x2) (r2.setVal hlt ?_)⟩
          exact rv.mono (fun _ h => h) (fun b hb => upd_ne fun z => ca.noF r (by rw [← z]; exact hb)) (Nat.le_refl _) fun _ _ => rfl
      | _ => exact q.elim
theorem s_apppop {i l : Nat} {x y : Str} {ea : Expr} {es : Xs} {px apos cpos py apos2 cpos2 : Pos} (M : MethC X i x px "pop" ea apos cpos) (M2 : MethC X l y py "append" (.Call (.Attribute (.Name x px) "pop" apos) [ea] [] cpos) apos2 cpos2) (ha : PA X [ea] (TS' G xf Wx C es)) (h1 : es.len = 1) :
    PS X (.Expr (.Call (.Attribute (.Name y py) "append" apos2) [.Call (.Attribute (.Name x px) "pop" apos) [ea] [] cpos] [] cpos2) pos) (TSt G xf Wx C (.apppop l i es)) :=
  ps_weak (ps_expr (pe_bm F.plainAttrs_list F.slot_list_append F.type_list_append mt_append (pe_var M2.N M2.v M2.d M2.cd)
    (pa_cons (pe_bm F.plainAttrs_list F.slot_list_pop F.type_list_pop mt_popAt (pe_var M.N M.v M.d M.cd) ha M.b M.f M.l M.s rfl) pa_nil M2.s) M2.b M2.f M2.l M2.s rfl) rfl) fun D σ H ⟨m, e, w, r, q⟩ => by
    rw [ex] at q
    obtain ⟨⟨xs, a, ca⟩, q1⟩ := isL_post q
    obtain ⟨⟨xs', a', ca'⟩, q1⟩ := isL_post q1
    obtain ⟨s1, vs, s2, _⟩ := ca.own r
    obtain ⟨s1', vs', s2', _⟩ := ca'.own r
    by_cases hli : l = i
    · rw [if_pos hli] at q1; exact PostS.cstk (e := e) (by exact q1)
    rw [if_neg hli] at q1
    refine ⟨_, s1, tyL s2, _, s1', tyL s2', m, e, w, r, PostS.one (α := Unit) h1 q1 fun d w1 v m1 H1 x1 r1 yv q2 => ?_⟩
    obtain ⟨k, rfl, q22⟩ := oneI_post q2
    obtain ⟨xs2, b, n, d, cb, hj, hd, q3⟩ := popE_post q22
    have hab := ca'.same r r1 cb
    subst hab
    cases yv with
    | int =>
      refine pop_rule r1 cb hj hd fun v us rv x2 r2 => ?_
      obtain ⟨xs3, ys, b3, cc, hf, q4⟩ := toL_post (m := m1) q3
      have q5 := PostS.shift q4 x2
      obtain ⟨s6, vs3, s7, s8, s9⟩ := cc.own r2
      rw [s1] at s6
      cases s6
      split at hf <;> first | cases hf | skip
      rename_i hlt
      have hlen : vs3.length < SZ := by rw [s9.length]; exact hlt
      obtain ⟨x4, r4⟩ := cc.lst r2 (us := vs3 ++ [v]) (by simp; omega) (s9.append (.cons (by rw [(putC_len cb).2]; exact rv) .nil))
      exact ⟨_, vs3, v, rfl, rfl, s7, by rw [← SZ_eq]; exact hlen, q5 _ _ _ x4 r4⟩
end
/-- no name -/
def noNm : Expr → Bool
  | .Name _ _ => false | _ => true
theorem pos_far {o : Expr} {env : PySem.Env} {apos pos : Pos} (ho : noNm o = true) (hl : (apos.endLine == pos.line) = false) : methodCallPos true o env apos pos = pure { pos with line := apos.endLine } := by
  unfold methodCallPos
  rw [hl]
  cases o <;> first | cases ho | skip
  all_goals rfl
theorem late_far {prog : Program} {w : World} {A : Around} {E : Value → Shared → Prop} {s : Shared} {env : PySem.Env} {o : Expr} {name : Str} {apos pos : Pos} {args : List Expr} {Q : Value → Shared → Prop}
    (hbase : attributeBase o name env (eval o env) = eval o env)
    (hfew : ((backTo pos (starEach args env)).all (fun x => !x.1) && (backToKw pos (keywordEach [] env)).all (fun x => x.1.isSome)
      && decide (args.length + ([] : List Keyword).length + (if ([] : List Keyword).isEmpty then 0 else 1) < 30)) = true)
    (ho : noNm o = true) (hl : (apos.endLine == pos.line) = false)
    (h : wpAny (model prog w) A (eval o env) (fun ov s₁ => MethodOn prog w A name { pos with line := apos.endLine } ov (backTo pos (starEach args env)) Q E s₁) E s) :
    wpAny (model prog w) A (eval (.Call (.Attribute o name apos) args [] pos) env) Q E s := by
  rw [arm_eval_Call, hbase]
  refine wpAny_bind (wpAny_mono h (fun ov s₁ h₁ => ?_) fun _ _ e => e)
  obtain ⟨T, id, pa, slot, hty, hT, hd, hc⟩ := h₁
  refine wpAny_bind (wpAny_standAt ?_)
  have hform : methodCallForm (args.length + ([] : List Keyword).length) (backTo pos (starEach args env)) (backToKw pos (keywordEach [] env)) = true := hfew
  have hpos := pos_far (env := env) ho hl
  unfold methodCall
  rw [hform]
  refine wpAny_bind (wpAny_holding (getMethod_builtin hT pa slot hty hd ?_))
  exact wpAny_bind (wpAny_of_eq hpos hc)
theorem pe_bmF {X : Cx} {o e : Expr} {es : List Expr} {to : TE} {t : TA} {name : Str} {apos cpos : Pos} {T id : String} {r : V → List V → Hp → VK → Prop}
    (pa : PlainAttrs T) (slot : PySem.Slot T name id) (hty : typeOf (.builtin id) = pure (.type "method_descriptor")) (hm : MtR X id r) (ho : PE X o to) (ha : PA X (e :: es) t)
    (hbase : attributeBase o name X.env (eval o X.env) = eval o X.env)
    (hfew : ((backTo cpos (starEach (e :: es) X.env)).all (fun x => !x.1) && (backToKw cpos (keywordEach [] X.env)).all (fun x => x.1.isSome)
      && decide ((e :: es).length + ([] : List Keyword).length + (if ([] : List Keyword).isEmpty then 0 else 1) < 30)) = true)
    (hn : noNm o = true) (hl : (apos.endLine == cpos.line) = false) (hs : starEach (e :: es) X.env = (false, eval e X.env) :: starEach es X.env) (hplain : (backTo cpos (starEach es X.env)).any (·.1) = false) :
    PE X (.Call (.Attribute o name apos) (e :: es) [] cpos) (tBM X.K T r to t) := by
  refine ⟨fun pins s σ H Q I h => ?_⟩
  refine late_far hbase hfew hn hl (thn (ho.run pins s σ H _ I h) fun v s1 ⟨x, H1, I1, r1, ty, q1⟩ => ?_)
  obtain ⟨h1, h2⟩ := tyV_is I1 r1 ty
  refine ⟨T, id, pa, slot, hty, h1, h2, ?_⟩
  have hA := ha.run cpos pins s1 σ H1 _ I1 q1
  rw [hs] at hA ⊢
  refine Calls.callWith_builtin (by show (false || (backTo cpos (starEach es X.env)).any (·.1)) = false; rw [hplain] <;> rfl) (Calls.evalArgs_plain ?_)
  exact thn hA fun us s2 ⟨vs, H2, I2, r2, q2⟩ => hm pins s2 σ H2 x vs v us Q I2 r1 r2 q2
def plB : Expr → Bool
  | .Call _ [] _ _ => false | _ => true
theorem plainB_of {ea : Expr} {nm : Str} {env : PySem.Env} {W : Sem Value} (h : plB ea = true) : attributeBase ea nm env W = W := by
  cases ea <;> first | rfl | skip
  rename_i f as kw p
  cases as with
  | nil => cases h
  | cons a as => cases f <;> rfl
/-! ### repr of data -/
def rRep (K : PySem.W.Frag) : List V → Hp → VK → Prop := fun vs H Q => ∃ a d, vs = [V.ref a] ∧ Dp K H (.ref a) d ∧ d.hasDict = false ∧ d.showable = true ∧ d.shown.length ≤ sizeLine ∧ d.depth ≤ 64 ∧ Q (.str d.shown) H
theorem call_rep {X : Cx} (hg : X.A.guards = some []) (hu : X.A.units + 200 < cLine) : CallR X (.builtin "repr") (rRep X.K) := by
  intro pins s σ H xs us Q I r h
  obtain ⟨a, d, rfl, hd, h1, h2, h3, h4, q⟩ := h
  obtain rfl := Vals.ref1 r
  obtain ⟨as, rd⟩ := Dp.reads I d (.ref a) (.ref a) hd rfl
  exact repr_of_reads' rd h2 (PyData.noDict_hsm h1) hg (by omega) (fun _ _ e => e) (fun h' u tk hk => ⟨.str d.shown, H, I.kept hk, ⟨_, rfl⟩, q⟩) h3
theorem plcI_some {k : Int} : ∀ {ns : List Int} {j : Nat}, plcI k ns = some j → ns[j]? = some k ∧ ∀ (m : Nat) (z : Int), m < j → ns[m]? = some z → z ≠ k
  | [], _, h => by simp [plcI] at h
  | a :: r, j, h => by
    rw [plcI] at h
    split at h
    · rename_i e
      cases h
      exact ⟨by rw [e]; rfl, fun m z hm _ => absurd hm (by omega)⟩
    · rename_i e
      obtain ⟨i, hi, rfl⟩ := Option.map_eq_some_iff.mp h
      obtain ⟨h1, h2⟩ := plcI_some hi
      refine ⟨by simpa using h1, fun m z hm hz => ?_⟩
      cases m with
      | zero => simp at hz; subst hz; exact e
      | succ m => exact h2 m z (by omega) (by simpa using hz)
section
variable {G : GG} {xf : Nat → Option Str} {Wx : WX} {C : Cfg} {X : Cx} {pos : Pos}
theorem c_rep {ea : Expr} {a : Ev.X} {p : Pos} (hK : X.K = G.K) (hc : C.hot = false → X.calm = true) (hgd : X.A.guards = some []) (hu : X.A.units + 200 < cLine) (hg : Gl X "repr") (hm : X.mg "repr" = none) (ha : PE X ea (TB G xf Wx C a)) (hs : starEach [ea] X.env = (false, eval ea X.env) :: starEach [] X.env) :
    PE X (.Call (.Name "repr" p) [ea] [] pos) (TB G xf Wx C (.rep a)) := by
  by_cases hh : C.hot = true
  · refine ⟨fun pins s σ H Q I ⟨m, e, w, r, q⟩ => ?_⟩
    rw [ev, calm_hot hh] at q
    exact q.stk_elim
  · have hh : C.hot = false := by simpa using hh
    refine pe_weak (pe_callB (call_rep hgd hu) hg hm (by decide +kernel) (pa_cons ha pa_nil hs) (hn := by decide) (hdb := by decide) (he := hs)) fun σ H Q ⟨m, e, w, r, q⟩ => ?_
    rw [ev, calm_cold hh] at q
    refine ⟨m, e, w, r, q.step fun d w1 u m1 H1 x1 r1 y1 q1 => ?_⟩
    cases d <;> first | exact PostE.stk_elim (by exact q1) | skip
    rename_i xs
    have q1 : PostE G xf Wx m1 w1 H1 e σ (RX G e σ (.rep a)) Q (grd (repOk (.tup xs)) (pure (.str (D.tup xs).py.shown)) w1) := q1
    rw [grd_if] at q1
    split at q1
    · rename_i hr
      obtain ⟨h1, h2, h3, h4⟩ := hr
      have yv := y1.view r1
      obtain ⟨b, vs, rfl, _⟩ := yv.tup
      have dp := yv.dp h1
      exact ⟨b, _, rfl, by rw [hK]; exact dp, PyData.hasDict_of_canLay _ (canLay_py _ h1), h3, by rw [sizeLine_eq]; exact h4, Nat.le_trans (dep_py _) (by omega), q1.val r1 ((RX.of rfl).mpr (.str _))⟩
    · exact q1.stk_elim
theorem c_lidx {ea eb : Expr} {a b : Ev.X} {apos : Pos} (hK : X.K = G.K) (ha : PE X ea (TB G xf Wx C a)) (hb : PE X eb (TB G xf Wx C b))
    (h1 : attributeBase ea "index" X.env (eval ea X.env) = eval ea X.env)
    (h2 : ((backTo pos (starEach [eb] X.env)).all (fun x => !x.1) && (backToKw pos (keywordEach [] X.env)).all (fun x => x.1.isSome) && decide ([eb].length + ([] : List Keyword).length + (if ([] : List Keyword).isEmpty then 0 else 1) < 30)) = true)
    (h3 : (apos.endLine == pos.line) = true ∨ noNm ea = true) (hs : starEach [eb] X.env = (false, eval eb X.env) :: starEach [] X.env) :
    PE X (.Call (.Attribute ea "index" apos) [eb] [] pos) (TB G xf Wx C (.lidx a b)) :=
  pe_weak (by
    cases z : (apos.endLine == pos.line) with
    | true => exact pe_bm F.plainAttrs_list F.slot_list_index F.type_list_index mt_index ha (pa_cons hb pa_nil hs) h1 h2 z hs rfl
    | false => exact pe_bmF F.plainAttrs_list F.slot_list_index F.type_list_index mt_index ha (pa_cons hb pa_nil hs) h1 h2 (h3.resolve_left (by rw [z]; simp)) z hs rfl) fun σ H Q ⟨m, e, w, r, q⟩ => by
    rw [ev] at q
    refine ⟨m, e, w, r, q.step fun xd w1 u m1 H1 x1 r1 y1 q1 => ?_⟩
    cases xd <;> first | exact PostE.stk_elim (by exact q1) | skip
    rename_i xs
    obtain ⟨p, vs, rfl, t1, _, z1⟩ := y1.lst r1
    refine ⟨tyL t1, m1, e, w1, r1, PostE.step (r := ev C b e) (by exact q1) fun k w2 u2 m2 H2 x2 r2 y2 q2 => ?_⟩
    obtain ⟨p', vs', e1, t2, _, z2⟩ := (y1.mono x2).lst r2
    cases e1
    cases k <;> first | exact PostE.stk_elim (by exact q2) | skip
    rename_i i
    obtain ⟨ns, hn, q2⟩ := onInts_post (α := D) q2
    have e3 := z2.ints_of hn
    subst e3
    have yk := y2.view r2
    cases hz : plcI i ns with
    | none => rw [hz] at q2; exact PostE.stk_elim (by exact q2)
    | some j =>
      rw [hz] at q2
      obtain ⟨k1, k2⟩ := plcI_some hz
      have eu : u2 = V.int i := by
        cases yk with
        | v h => cases h; rfl
        | o h => cases h
      subst eu
      refine ⟨p, ns.map V.int, .int i, j, .int i, rfl, rfl, .of t2, rfl, ?_, by rw [List.getElem?_map, k1]; rfl, ?_, fun mm z hm hz2 => ?_, PostE.val q2 r2 ((RX.of rfl).mpr (.int _))⟩
      · rw [List.all_eq_true]
        intro x hx
        obtain ⟨y, _, rfl⟩ := List.mem_map.mp hx
        rfl
      · simp [eqV]
      · rw [List.getElem?_map] at hz2
        obtain ⟨y, hy, rfl⟩ := Option.map_eq_some_iff.mp hz2
        have := k2 mm y hm hy
        simp [eqV, this]
end
end Ev

set_option maxRecDepth 100000
set_option maxHeartbeats 4000000
/-! Stores; fresh containers; several targets. -/
namespace Ev
open PySem PySem.Spec PyProof.Rows L2

section
variable {G : GG} {xf : Nat → Option Str} {Wx : L2.WX} {m m' m1 : Fm} {w w' w1 : Wd} {H H' H1 : Hp} {e e' : Env} {σ σ' : L2.St} {C : Cfg} {X : Cx} {pos : Pos} {Dn : Ends}
/-! ### x[k] = v -/
theorem RK.append : ∀ {vs us : List (Key × V)} {ds es : List (D × D)}, RK G m.F m.rho w.length H vs ds → RK G m.F m.rho w.length H us es → RK G m.F m.rho w.length H (vs ++ us) (ds ++ es)
  | _, _, _, _, .nil, h => h
  | _, _, _, _, .cons r t, h => .cons r (RK.append t h)
theorem RK.any {vs : List (Key × V)} {ds : List (D × D)} (h : RK G m.F m.rho w.length H vs ds) (k : Key) : (ds.any fun p => keyEq p.1 (keyD k)) = vs.any fun kv => decide (kv.1 = k) := by
  induction vs generalizing ds with
  | nil => cases h; rfl
  | cons p vs ih => cases h with
    | cons a b => rw [List.any_cons, List.any_cons, ih b, keyEq_iff]
theorem RK.map {vs : List (Key × V)} {ds : List (D × D)} (h : RK G m.F m.rho w.length H vs ds) (k : Key) {v : V} {d : D} (y : R G m.F m.rho w.length H v d) :
    RK G m.F m.rho w.length H (vs.map fun kv => if kv.1 = k then (kv.1, v) else kv) (ds.map fun p => if keyEq p.1 (keyD k) then (p.1, d) else p) := by
  induction vs generalizing ds with
  | nil => cases h; exact .nil
  | cons p vs ih => cases h with
    | @cons j u c _ ds a b =>
      rw [List.map_cons, List.map_cons]
      simp only [keyEq_iff]
      by_cases hj : j = k
      · simp only [hj, decide_true, if_true]
        exact .cons y (ih b)
      · simp only [hj, decide_false, Bool.false_eq_true, if_false]
        exact .cons a (ih b)
theorem RK.put {vs : List (Key × V)} {ds : List (D × D)} (h : RK G m.F m.rho w.length H vs ds) (k : Key) {v : V} {d : D} (y : R G m.F m.rho w.length H v d) : RK G m.F m.rho w.length H (putK vs k v) (dput ds (keyD k) d) := by
  unfold putK dput
  rw [h.any k]
  by_cases q : (vs.any fun kv => decide (kv.1 = k)) = true
  · rw [if_pos q, if_pos q]; exact h.map k y
  · rw [if_neg q, if_neg q]; exact h.append (.cons y .nil)
theorem dput_len (ds : List (D × D)) (k d : D) : (dput ds k d).length ≤ ds.length + 1 := by
  unfold dput
  split <;> simp
def rPut : TSet := fun o i v H Q => rSetL o i v H Q ∨ ∃ a H', o = .ref a ∧ DPut H a i v H' ∧ Q H'
theorem pset_put (hu : X.A.units + 1 < cLine) : PSet X rPut := by
  intro pins s σ H o i v ov iv u Q I ro ri rv h
  rcases h with h | ⟨a, H', rfl, g, q⟩
  · exact set_list pins s σ H o i v ov iv u Q I ro ri rv h
  · obtain rfl : ov = Value.ref a := ro
    exact d_setItem hu I g ri rv fun s4 I4 => ⟨H', I4, q⟩
theorem ps_put {o i value : Expr} {to ti tv : TE} {pos' : Pos} (hu : X.A.units + 1 < cLine) (ho : PE X o to) (hi : PE X i ti) (hv : PE X value tv) (hs : swapsWith value (some (.Subscript o i pos')) pos.line X.env = pure false) :
    PS X (.Assign [.Subscript o i pos'] value pos) (fun D σ H => tv σ H fun v H1 => to σ H1 fun x H2 => ti σ H2 fun y H3 => rPut x y v H3 fun H4 => D.nx σ H4) := by
  refine ⟨fun pins s σ H D I h => ?_⟩
  refine wpAny_Assign_Subscript (thn (hv.run pins s σ H _ I h) fun r s1 ⟨v, H1, I1, rv, q1⟩ => thn (ho.run pins s1 σ H1 _ I1 q1) fun u s2 ⟨x, H2, I2, rx, q2⟩ => thn (hi.run pins s2 σ H2 _ I2 q2) fun iv s3 ⟨y, H3, I3, ry, q3⟩ => ?_) hs
  exact thn (pset_put hu pins s3 σ H3 x y v u iv r _ I3 rx ry rv q3) fun _ s4 ⟨H4, I4, q4⟩ => ⟨σ, H4, I4, q4⟩
/-- what x[k] = v does to a container -/
theorem putAt_rule {i : Nat} {k d : D} {u v : V} {Q : Hp → Prop} (r : Rel G m e w σ H) (yk : View G m w H u k) (yd : R G m.F m.rho w.length H v d) {a : Addr} (ha : σ[i]? = some (some (.ref a)))
    (h : PostS G xf Wx m w H Dn (cat e (putAt e i k d) w)) (q : ∀ H', Dn.nx σ H' → Q H') : rPut (.ref a) u v H Q := by
  have lst : ∀ j, k = .int j → PostS G xf Wx m w H Dn (cat e (toL e i fun xs => setAt xs j d) w) → rPut (.ref a) u v H Q := fun j hk hh => by
    subst hk
    obtain ⟨xs, ys, b, cb, hf, q3⟩ := toL_post hh
    obtain ⟨s1, vs, s3, s4, s5⟩ := cb.own r
    rw [ha] at s1
    cases s1
    unfold setAt at hf
    obtain ⟨n, hn, rfl⟩ := Option.map_eq_some_iff.mp hf
    obtain ⟨x2, r2⟩ := cb.lst r (us := vs.set n v) (by simp; exact s4) (s5.set n yd)
    have hu : u = .int j := by
      rcases yk.flat rfl with ⟨z, _⟩ | ⟨b, z, _⟩ | ⟨b, z, h⟩ | ⟨b, z, _⟩ <;> cases z
      exact h
    subst hu
    exact .inl ⟨a, vs, j, n, rfl, rfl, s3, by rw [s5.length]; exact hn, q _ (q3 _ _ _ x2 r2)⟩
  have rest : PostS G xf Wx m w H Dn (cat e (putI e i k d) w) → rPut (.ref a) u v H Q := fun hr => by
    cases k <;> first | exact PostS.cstk (e := e) (by exact hr) | exact lst _ rfl hr
  unfold putAt at h
  cases hi : e[i]? with
  | none => rw [hi] at h; exact rest h
  | some s =>
    rw [hi] at h
    cases s with
    | un => exact rest h
    | exc c x => exact rest h
    | val c => exact rest h
    | own c =>
      cases c <;> first | exact rest (by exact h) | skip
      rename_i kvs
      dsimp only at h
      by_cases hk : isKey k = true ∧ kvs.length < SZ
      · rw [if_pos hk] at h
        obtain ⟨kk, rfl, rfl⟩ := key_v yk hk.1
        have ca : CAt m e w i (.dic kvs) (m.oa i) := .inl ⟨hi, rfl⟩
        obtain ⟨s1, vs, s3, s4, s5⟩ := ca.own r
        rw [ha] at s1
        cases s1
        have hl := s5.length
        have hF : ∀ b, m.F b → upd H (m.oa i) (.dK (putK vs kk v)) b = H b := fun b hb => upd_ne fun z => ca.noF r (by rw [← z]; exact hb)
        obtain ⟨x2, r2⟩ := r.putOwn (o := .dK (putK vs kk v)) (d' := .dic (dput kvs (keyD kk) d)) hi
          ⟨_, upd_same, by rw [(s5.put kk yd).length]; have := dput_len kvs (keyD kk) d; omega, (s5.put kk yd).mono (fun _ h => h) hF (Nat.le_refl _) fun _ _ => rfl⟩
        exact .inr ⟨_, _, rfl, DPut.k s3 (by rw [← SZ_eq, hl]; exact hk.2), q _ (h _ _ _ x2 r2)⟩
      · rw [if_neg hk] at h; exact PostS.cstk (e := e) (by exact h)
/-- where slot i points is the same before and behind an expression -/
theorem putAt_ref {i : Nat} {k d : D} (r : Rel G m e w σ H) (h : PostS G xf Wx m w H Dn (cat e (putAt e i k d) w)) : ∃ a, σ[i]? = some (some (.ref a)) := by
  have lst : ∀ f, PostS G xf Wx m w H Dn (cat e (toL e i f) w) → ∃ a, σ[i]? = some (some (.ref a)) := fun f h => by
    obtain ⟨xs, ys, b, cb, _⟩ := toL_post h
    exact ⟨b, (cb.own r).1⟩
  have rest : PostS G xf Wx m w H Dn (cat e (putI e i k d) w) → ∃ a, σ[i]? = some (some (.ref a)) := fun hr => by
    cases k <;> first | exact PostS.cstk (e := e) (by exact hr) | exact lst _ hr
  unfold putAt at h
  cases hi : e[i]? with
  | none => rw [hi] at h; exact rest h
  | some s =>
    rw [hi] at h
    cases s with
    | un => exact rest h
    | exc c x => exact rest h
    | val c => exact rest h
    | own c => exact ⟨_, (r.sl i _ hi).1⟩
theorem isS_post {k : Unit → M Fl} {i : Nat} (r : Rel G m e w σ H) (h : PostS G xf Wx m w H Dn (cat e (isS e i >>= k) w)) : (∃ v, σ[i]? = some (some v)) ∧ PostS G xf Wx m w H Dn (cat e (k ()) w) := by
  unfold isS at h
  cases z : e[i]? with
  | none => rw [z] at h; exact PostS.cstk (e := e) (by exact h)
  | some s =>
    rw [z] at h
    cases s with
    | un => exact PostS.cstk (e := e) (by exact h)
    | exc c x => exact PostS.cstk (e := e) (by exact h)
    | own d => exact ⟨⟨_, (r.sl i _ z).1⟩, h⟩
    | val d =>
      obtain ⟨v, h1, _⟩ := r.sl i _ z
      exact ⟨⟨v, h1⟩, h⟩
theorem swaps_sub {v o i : Expr} {p : Pos} {n : Nat} {env : PySem.Env} : swapsWith v (some (.Subscript o i p)) n env = pure false := by cases v <;> rfl
theorem swaps_attr {v o : Expr} {f : Str} {p : Pos} {n : Nat} {env : PySem.Env} : swapsWith v (some (.Attribute o f p)) n env = pure false := by cases v <;> rfl
theorem s_stx {i : Nat} {x : Str} {ek ev : Expr} {k v : Ev.X} {px pos' : Pos} (hu : X.A.units + 1 < cLine) (hN : X.N[i]? = some x) (hv : Vis X.env.scope x) (hd : (x == ("__debug__" : Str)) = false) (hcd : (x == ("__classdict__" : Str)) = false)
    (hk : PE X ek (TB G xf Wx C k)) (hx : PE X ev (TB G xf Wx C v)) : PS X (.Assign [.Subscript (.Name x px) ek pos'] ev pos) (TSt G xf Wx C (.stx i k v)) :=
  ps_weak (ps_put hu (pe_var hN hv hd hcd) hk (tn_of hx) swaps_sub) fun D σ H ⟨m, e, w, r, q⟩ => by
    rw [ex] at q
    refine ⟨m, e, w, r, q.step fun d w1 u m1 H1 x1 r1 y1 q1 => ?_⟩
    obtain ⟨⟨a, ha⟩, q2⟩ := isS_post r1 q1
    refine ⟨a, ha, m1, e, w1, r1, q2.step fun kd w2 y m2 H2 x2 r2 y2 q3 => ?_⟩
    obtain ⟨b, hb⟩ := putAt_ref r2 q3
    rw [ha] at hb
    cases hb
    exact putAt_rule r2 (y2.view r2) (R.ext x2 y1) ha q3 fun H' h => h

/-! ### x.f = v -/
theorem s_stf {i : Nat} {x f : Str} {ev : Expr} {v : Ev.X} {px pos' : Pos} (hf : ∀ c, c < C.nc → Cls X.K (G.cl c) ∧ NoAttr X.K (G.cl c) f) (hN : X.N[i]? = some x) (hv : Vis X.env.scope x) (hd : (x == ("__debug__" : Str)) = false) (hcd : (x == ("__classdict__" : Str)) = false)
    (hx : PE X ev (TB G xf Wx C v)) : PS X (.Assign [.Attribute (.Name x px) f pos'] ev pos) (TSt G xf Wx C (.stf i f v)) :=
  ps_weak (ps_fld (pe_var hN hv hd hcd) (tn_of hx) swaps_attr) fun D σ H ⟨m, e, w, r, q⟩ => by
    rw [ex] at q
    refine ⟨m, e, w, r, q.step fun d w1 u m1 H1 x1 r1 y1 q1 => ?_⟩
    have fin : ∀ c fs a, CAt m1 e w1 i (.ins c fs) a → fs.length < 1000 → c < C.nc → PostS G xf Wx m1 w1 H1 D (.ok (.nx (putC e w1 i (.ins c (putF f d fs))).1) (putC e w1 i (.ins c (putF f d fs))).2) →
        ∃ v, σ[i]? = some (some v) ∧ ∃ a Cc dx fs, v = .ref a ∧ H1 a = some (.ins Cc dx fs) ∧ Cls X.K Cc ∧ NoAttr X.K Cc f ∧ fs.length < 1000 ∧ D.nx σ (upd H1 a (.ins Cc dx (L2.putF f u fs))) := fun c fs a ca hl hc q2 => by
      obtain ⟨s1, dx, vs, s3, s5⟩ := ca.own r1
      have hF : ∀ b, m1.F b → upd H1 a (.ins (G.cl c) dx (L2.putF f u vs)) b = H1 b := fun b hb => upd_ne fun z => ca.noF r1 (by rw [← z]; exact hb)
      obtain ⟨x2, r2⟩ := ca.put r1 (o := .ins (G.cl c) dx (L2.putF f u vs)) (d' := .ins c (Ev.putF f d fs)) ⟨dx, _, upd_same, (s5.put y1).mono (fun _ h => h) hF (Nat.le_refl _) fun _ _ => rfl⟩
      exact ⟨_, s1, a, _, dx, vs, rfl, s3, (hf c hc).1, (hf c hc).2, by rw [s5.length]; exact hl, q2 _ _ _ x2 r2⟩
    unfold putFld at q1
    cases hi : e[i]? with
    | none => rw [hi] at q1; exact PostS.cstk (e := e) (by exact q1)
    | some s =>
      rw [hi] at q1
      cases s with
      | un => exact PostS.cstk (e := e) (by exact q1)
      | exc c x => exact PostS.cstk (e := e) (by exact q1)
      | own d0 =>
        cases d0 <;> first | exact PostS.cstk (e := e) (by exact q1) | skip
        rename_i c fs
        dsimp only at q1
        by_cases hh : fs.length < 1000 ∧ c < C.nc
        · rw [if_pos hh] at q1
          refine fin c fs _ (.inl ⟨hi, rfl⟩) hh.1 hh.2 ?_
          unfold putC
          rw [hi]
          exact q1
        · rw [if_neg hh] at q1; exact PostS.cstk (e := e) (by exact q1)
      | val d0 =>
        cases d0 <;> first | exact PostS.cstk (e := e) (by exact q1) | skip
        rename_i n
        unfold cat at q1
        dsimp only at q1
        cases z : w1[n]? with
        | none => rw [z] at q1; exact q1.elim
        | some d0 =>
          rw [z] at q1
          cases d0 <;> first | exact q1.elim | skip
          rename_i c fs
          dsimp only at q1
          by_cases hh : fs.length < 1000 ∧ c < C.nc
          · rw [if_pos hh] at q1
            refine fin c fs _ (.inr ⟨n, hi, z, rfl⟩) hh.1 hh.2 ?_
            unfold putC
            rw [hi]
            exact q1
          · rw [if_neg hh] at q1; exact q1.elim

/-! ### own containers become values -/
theorem s_frz {st : Stmt} {is : List Nat} {s : S} (h : PS X st (TSt G xf Wx C s)) : PS X st (TSt G xf Wx C (.frz is s)) :=
  ps_weak h fun D σ H ⟨m, e, w, r, q⟩ => by
    rw [ex] at q
    have hF : ∀ a, m.F a → m.F a ∨ ∃ i d, i ∈ is ∧ e[i]? = some (.own d) ∧ m.oa i = a := fun a h => .inl h
    have get : ∀ i, (frzE e is)[i]? = (e[i]?).map (frzS is i) := fun i => by
      unfold frzE
      rw [List.getElem?_mapIdx]
    have hown : ∀ i d, (frzE e is)[i]? = some (.own d) → e[i]? = some (.own d) ∧ i ∉ is := fun i d h => by
      rw [get] at h
      cases z : e[i]? with
      | none => rw [z] at h; cases h
      | some s =>
        rw [z] at h
        cases s with
        | own d' =>
          simp only [Option.map_some, Option.some.injEq, frzS] at h
          by_cases hc : is.contains i = true
          · rw [if_pos hc] at h; cases h
          · rw [if_neg hc] at h
            cases h
            exact ⟨rfl, by simpa using hc⟩
        | _ => simp [frzS] at h
    refine ⟨{ m with F := fun a => m.F a ∨ ∃ i d, i ∈ is ∧ e[i]? = some (.own d) ∧ m.oa i = a }, frzE e is, w, ⟨⟨fun k d h => ?_, r.inj, fun a h => ?_, r.allP, fun a h => ?_⟩, by unfold frzE; rw [List.length_mapIdx]; exact r.len, fun i s h => ?_, fun i j d d' h1 h2 => r.oinj i j d d' (hown i d h1).1 (hown j d' h2).1⟩, PostS.shift q ⟨rfl, hF, fun _ _ => rfl, fun _ _ => rfl, Nat.le_refl _, fun _ _ => rfl, rfl⟩⟩
    · obtain ⟨h1, h2, h3⟩ := r.cell k d h
      refine ⟨h1.mono hF (fun _ _ => rfl) (Nat.le_refl _) (fun _ _ => rfl) rfl, fun z => ?_, h3⟩
      rcases z with z | ⟨i, d', _, z1, z2⟩
      · exact h2 z
      · exact (r.sl i _ z1).2.2.2.2 k (List.getElem?_eq_some_iff.mp h).1 z2
    · rcases h with h | ⟨i, d, _, z1, z2⟩
      · exact r.allF a h
      · rw [← z2]; exact (r.sl i _ z1).2.1.there
    · intro z
      rcases z with z | ⟨i, d, _, z1, z2⟩
      · exact r.FP a h z
      · exact (r.sl i _ z1).2.2.2.1 (by rw [z2]; exact h)
    · rw [get] at h
      cases z : e[i]? with
      | none => rw [z] at h; cases h
      | some s0 =>
        rw [z] at h
        have q0 := r.sl i s0 z
        cases s0 with
        | un => cases h; trivial
        | exc c x =>
          cases h
          obtain ⟨a0, pn, h1, h2, h3⟩ := q0
          exact ⟨a0, pn, h1, h2, h3.mono hF (fun _ _ => rfl) (Nat.le_refl _) fun _ _ => rfl⟩
        | val d =>
          cases h
          obtain ⟨v, h1, h2⟩ := q0
          exact ⟨v, h1, h2.mono hF (fun _ _ => rfl) (Nat.le_refl _) fun _ _ => rfl⟩
        | own d =>
          obtain ⟨h1, h2, h3, h4, h5⟩ := q0
          have o2 : Own G (fun a => m.F a ∨ ∃ i d, i ∈ is ∧ e[i]? = some (.own d) ∧ m.oa i = a) m.rho w.length H (m.oa i) d := h2.mono hF (fun _ _ => rfl) (Nat.le_refl _) (fun _ _ => rfl) rfl
          simp only [Option.map_some, Option.some.injEq, frzS] at h
          by_cases hc : is.contains i = true
          · rw [if_pos hc] at h
            cases h
            exact ⟨_, h1, o2.frz (.inr ⟨i, d, by simpa using hc, z, rfl⟩)⟩
          · rw [if_neg hc] at h
            cases h
            refine ⟨h1, o2, fun y => ?_, h4, h5⟩
            rcases y with y | ⟨j, d', hj, y1, y2⟩
            · exact h3 y
            · have := r.oinj j i _ _ y1 z y2
              subst this
              exact absurd hj (by simpa using hc)
end
end Ev

set_option maxRecDepth 100000
set_option maxHeartbeats 4000000
/-! Fresh containers. -/
namespace Ev
open PySem PySem.Spec PyProof.Rows L2

section
variable {G : GG} {xf : Nat → Option Str} {Wx : L2.WX} {m m' m1 : Fm} {w w' w1 : Wd} {H H' H1 : Hp} {e e' : Env} {σ σ' : L2.St} {C : Cfg} {X : Cx} {pos : Pos} {Dn : Ends}
theorem PostE.newF {Q : VK} {d : D} {p : Addr} {o : HO} (h : PostE G xf Wx m w H e σ (RO G e) Q ((pure d : M D) w)) (r : Rel G m e w σ H) (hp : H p = none) (y : Ext m w H m w (upd H p o) → Own G m.F m.rho w.length (upd H p o) p d) (hc : contD d = true := by rfl) : Q (.ref p) (upd H p o) := by
  obtain ⟨x, r'⟩ := r.lay hp o
  obtain ⟨f1, f2, f3⟩ := r.toRelW.free hp
  refine h _ _ _ x r' ?_
  unfold RO
  rw [if_pos hc]
  exact ⟨p, rfl, y x, f1, f2, f3, fun i d hi => r.oaNe hp hi⟩
theorem f_lst {es : List Expr} {xs : Xs} (h : PA X es (TS' G xf Wx C xs)) : PE X (.List es pos) (TF G xf Wx C (.lst xs)) :=
  pe_weak (pe_lst h) fun σ H Q ⟨m, e, w, r, q⟩ => by
    rw [ev] at q
    refine ⟨m, e, w, r, q.step fun ds w1 vs m1 H1 x1 r1 y1 q1 => ?_⟩
    obtain ⟨hl, q1⟩ := q1.grd
    have hl' : vs.length ≤ SZ := by rw [RA.length y1]; exact hl
    exact ⟨by rw [← SZ_eq]; exact hl', fun p hp => q1.newF r1 hp fun x2 => ⟨vs, upd_same, hl', RA.ext x2 y1⟩⟩
theorem f_dict0 : PE X (.Dict [] [] pos) (TF G xf Wx C .dict0) :=
  pe_weak pe_dnewK fun σ H Q ⟨m, e, w, r, q⟩ => fun p hp => by
    rw [ev] at q
    exact q.newF r hp fun x2 => ⟨[], upd_same, Nat.zero_le _, .nil⟩
theorem f_list {ea : Expr} {a : Ev.X} {p : Pos} (hK : X.K = G.K) (hg : Gl X "list") (hm : X.mg "list" = none) (ha : PE X ea (TB G xf Wx C a)) (hs : starEach [ea] X.env = (false, eval ea X.env) :: starEach [] X.env) : PE X (.Call (.Name "list" p) [ea] [] pos) (TF G xf Wx C (.b1 .list a)) := by
  have rule := b1_rule (X := X) (b := .list) rfl (.inl rfl)
  have pa : PA X [ea] (tCons (TB G xf Wx C a) tNil) := pa_cons ha pa_nil hs
  refine pe_weak (pe_callTy rule hg hm (by decide +kernel) pa (hn := by decide) (hdb := by decide) (he := hs)) fun σ H Q ⟨m, e, w, r, q⟩ => ?_
  rw [ev] at q
  refine ⟨m, e, w, r, q.step fun d w1 u m1 H1 x1 r1 y1 q1 => ?_⟩
  obtain ⟨c, vw, q2, -⟩ := der_post r1 y1 q1
  cases c <;> simp only [b1op] at q2 <;> first | exact PostE.stk_elim (by exact q2) | skip
  · obtain ⟨p, vs, rfl, t1, l1, z1⟩ := vw.tup
    exact ⟨p, vs, rfl, .inr (by rw [hK]; exact t1.sq), fun p' hp => PostE.newF q2 r1 hp fun x2 => ⟨vs, upd_same, l1, z1.ext x2⟩⟩
  · obtain ⟨p, vs, rfl, t1, l1, z1⟩ := vw.lst
    exact ⟨p, vs, rfl, .inl (.of t1), fun p' hp => PostE.newF q2 r1 hp fun x2 => ⟨vs, upd_same, l1, z1.ext x2⟩⟩
  · obtain ⟨p, rfl, t1, l1⟩ := vw.scr
    exact ⟨p, _, rfl, .inl (by rw [hK]; exact t1), fun p' hp => PostE.newF q2 r1 hp fun x2 => ⟨_, upd_same, by rw [List.length_map]; exact l1, RF_int _⟩⟩
theorem twoF {a b : Ev.X} {ta tb : TE} {k : D → D → M D} {Q : VK} {r2 : R2} (r : Rel G m e w σ H) (q : PostE G xf Wx m w H e σ (RO G e) Q ((ev C a e >>= fun d => ev C b e >>= fun d' => k d d') w))
    (h : ∀ d d' u v m2 w2 H2, Rel G m2 e w2 σ H2 → RX G e σ a m2 w2 H2 u d → RX G e σ b m2 w2 H2 v d' → PostE G xf Wx m2 w2 H2 e σ (RO G e) Q (k d d' w2) → r2 u v H2 Q) :
    TB G xf Wx C a σ H fun u H1 => TB G xf Wx C b σ H1 fun v H2 => r2 u v H2 Q :=
  ⟨m, e, w, r, q.step fun d w1 u m1 H1 x1 r1 y1 q1 => ⟨m1, e, w1, r1, q1.step fun d' w2 v m2 H2 x2 r2 y2 q2 => h d d' u v m2 w2 H2 r2 (y1.mono x2) y2 q2⟩⟩
theorem PostE.ro {Q : VK} {d : D} {v : V} (h : PostE G xf Wx m w H e σ (RO G e) Q ((pure d : M D) w)) (r : Rel G m e w σ H) (hc : contD d = false) (y : R G m.F m.rho w.length H v d) : Q v H := by
  refine h v m H (.refl _ _ _) r ?_
  unfold RO
  rw [if_neg (by rw [hc]; exact Bool.false_ne_true)]
  exact y
theorem f_add {ea eb : Expr} {a b : Ev.X} (hK : X.K = G.K) (ha : PE X ea (TB G xf Wx C a)) (hb : PE X eb (TB G xf Wx C b)) : PE X (.BinOp ea .Add eb pos) (TF G xf Wx C (.bin .add a b)) :=
  pe_weak (pe_op op_addA ha hb) fun σ H Q ⟨m, e, w, r, q⟩ => by
    rw [ev] at q
    refine twoF (r2 := rAdd X.K) (ta := fun _ _ _ => True) (tb := fun _ _ _ => True) r q fun d d' u v m2 w2 H2 r2 y1 y2 q2 => ?_
    cases d <;> cases d' <;> simp only [binop] at q2 <;> first | exact q2.stk_elim | skip
    · rw [y1.int r2, y2.int r2]
      exact .inl ⟨_, _, rfl, rfl, q2.ro r2 rfl (.int _)⟩
    · obtain ⟨hl, q2⟩ := q2.grd
      rw [y1.str r2, y2.str r2]
      exact .inr (.inl ⟨_, _, rfl, rfl, by rw [← SZ_eq]; exact hl, q2.ro r2 rfl (.str _)⟩)
    · obtain ⟨hl, q2⟩ := q2.grd
      obtain ⟨a1, vs, rfl, t1, l1, z1⟩ := y1.tup r2
      obtain ⟨a2, us, rfl, t2, l2, z2⟩ := y2.tup r2
      have e1 := z1.length
      have e2 := z2.length
      refine .inr (.inr (.inl ⟨a1, a2, vs, us, rfl, rfl, by rw [hK]; exact t1.sq, by rw [hK]; exact t2.sq, by rw [e1, e2, ← SZ_eq]; exact hl, fun z => ?_, fun _ z => ?_, fun _ _ p hp => ?_⟩))
      · subst z
        cases z1
        exact q2.ro r2 rfl (.tup t2 l2 z2)
      · subst z
        cases z2
        refine q2.ro r2 rfl ?_
        rw [List.append_nil]
        exact .tup t1 l1 z1
      · obtain ⟨x, r'⟩ := r2.new hp (.tup (vs ++ us))
        refine q2 _ _ _ x r' ?_
        unfold RO
        rw [if_neg (by simp [contD])]
        exact .tup (.inl ⟨.inl rfl, upd_same⟩) (by rw [List.length_append, e1, e2]; exact hl) (RA.ext x (z1.append z2))
    · obtain ⟨hl, q2⟩ := q2.grd
      obtain ⟨a1, vs, rfl, t1, l1, z1⟩ := y1.lst r2
      obtain ⟨a2, us, rfl, t2, l2, z2⟩ := y2.lst r2
      have e1 := z1.length
      have e2 := z2.length
      refine .inr (.inr (.inr ⟨a1, a2, vs, us, rfl, rfl, t1, t2, by rw [e1, e2, ← SZ_eq]; exact hl, fun p hp => ?_⟩))
      exact q2.newF r2 hp fun x2 => ⟨_, upd_same, by rw [List.length_append, e1, e2]; exact hl, RA.ext x2 (z1.append z2)⟩
theorem f_mul {ea eb : Expr} {a b : Ev.X} (hK : X.K = G.K) (ha : PE X ea (TB G xf Wx C a)) (hb : PE X eb (TB G xf Wx C b)) : PE X (.BinOp ea .Mult eb pos) (TF G xf Wx C (.bin .mul a b)) :=
  pe_weak (pe_op op_mulA ha hb) fun σ H Q ⟨m, e, w, r, q⟩ => by
    rw [ev] at q
    refine twoF (r2 := rMul X.K) (ta := fun _ _ _ => True) (tb := fun _ _ _ => True) r q fun d d' u v m2 w2 H2 r2 y1 y2 q2 => ?_
    cases d <;> cases d' <;> simp only [binop] at q2 <;> first | exact q2.stk_elim | skip
    · obtain ⟨hl, q2⟩ := q2.grd
      rw [y1.int r2, y2.int r2]
      exact .inl ⟨_, _, rfl, rfl, hl, q2.ro r2 rfl (.int _)⟩
    · rename_i xs k
      obtain ⟨⟨h0, h1, h2, h3⟩, q2⟩ := q2.grd
      obtain ⟨a1, vs, rfl, t1, l1, z1⟩ := y1.tup r2
      rw [y2.int r2]
      have e1 := z1.length
      have hne : vs ≠ [] := fun z => h0 (by subst z; cases z1; rfl)
      by_cases hk : k = 1
      · subst hk
        refine .inr (.inl ⟨a1, vs, rfl, rfl, by rw [hK]; exact t1.sq, hne, q2.ro r2 rfl ?_⟩)
        rw [show (List.replicate (1 : Int).toNat xs).flatten = xs by simp [List.replicate]]
        exact .tup t1 l1 z1
      · refine .inr (.inr (.inl ⟨a1, k, vs, rfl, rfl, by rw [hK]; exact t1.sq, hne, by omega, h2, by rw [e1]; exact h3, fun p hp => ?_⟩))
        obtain ⟨x, r'⟩ := r2.new hp (.tup (List.replicate k.toNat vs).flatten)
        refine q2 _ _ _ x r' ?_
        unfold RO
        rw [if_neg (by simp [contD])]
        refine .tup (.inl ⟨.inl rfl, upd_same⟩) ?_ (RA.ext x (z1.flat _))
        rw [flat_len, e1]
        have : k.toNat ≤ 1000 := by omega
        calc k.toNat * xs.length ≤ 1000 * 1000 := Nat.mul_le_mul this h3
          _ ≤ SZ := by decide
    · rename_i xs k
      obtain ⟨⟨h0, h1, h2⟩, q2⟩ := q2.grd
      obtain ⟨a1, vs, rfl, t1, l1, z1⟩ := y1.lst r2
      rw [y2.int r2]
      have e1 := z1.length
      refine .inr (.inr (.inr ⟨a1, k, vs, rfl, rfl, t1, h0, h1, by rw [e1, ← SZ_eq]; exact h2, fun p hp => ?_⟩))
      refine q2.newF r2 hp fun x2 => ⟨_, upd_same, ?_, RA.ext x2 (z1.flat _)⟩
      rw [flat_len, e1, Nat.mul_comm]
      exact h2
theorem lc_finF {Dl : Addr} : ∀ mm w H acc ys, mm.P = m1.P → Rel G mm e w σ H → H Dl = some (.lst acc) → acc.length ≤ SZ → RA G mm.F mm.rho w.length H acc ys → ¬ mm.F Dl → ¬ mm.P Dl → (∀ k, k < w.length → mm.rho k ≠ Dl) → (∀ i d, e[i]? = some (.own d) → mm.oa i ≠ Dl) → ∃ m', Ext mm w H m' w H ∧ Rel G m' e w σ H ∧ RO G e m' w H (.ref Dl) (.lst ys) :=
  fun mm w H acc ys _ r h1 h2 h3 h4 h5 h6 h7 => ⟨mm, .refl _ _ _, r, by
    unfold RO
    rw [if_pos (show contD (.lst ys) = true from rfl)]
    exact ⟨Dl, rfl, ⟨acc, h1, h2, h3⟩, h4, h5, h6, h7⟩⟩
theorem lc_weakF {x : Ev.X} {g : Tg} {it : Ev.It} {c : Xo} {vs : List Nat} (hh : C.hot = false) (hsl : ∀ i ∈ tgSl g, i ∈ vs) {σ : L2.St} {H : Hp} {Q : VK} (h : TF G xf Wx C (.lc x g it c vs) σ H Q) :
    tLc (TI' G xf Wx C it) (TGt G g) (TTc G xf C c) (TN G xf (fun _ _ _ _ => False) C x) vs σ H Q := by
  obtain ⟨m, e, w, r, q⟩ := h
  rw [ev] at q
  obtain ⟨_, q⟩ := calm_post q
  refine ⟨m, e, w, r, q.step fun ds w1 J m1 H1 x1 r1 wk q1 => fun Dl hD => ?_⟩
  by_cases hk : (wipeOk e vs && decide (ds.length ≤ SZ)) = true
  · rw [if_pos hk] at q1
    rw [Bool.and_eq_true, decide_eq_true_eq] at hk
    exact lc_post hsl r1 wk hD hk.1 hk.2 lc_finF q1
  · rw [if_neg hk] at q1; exact PostE.stk_elim (by exact q1)

/-! ### list(range(n)) -/
theorem RA_rng {F : Pr} {rho : Nat → Addr} {k : Nat} (n : Int) : RA G F rho k H (rgV 0 n) (rngD 0 n.toNat) := by
  unfold rgV rngD
  rw [Int.sub_zero]
  induction (List.range n.toNat) with
  | nil => exact .nil
  | cons a l ih => exact .cons (.int _) ih
theorem lrng_ok {n : Int} (h : rngOk n ∧ n.toNat ≤ SZ) : RgOk 0 n ∧ (rgV 0 n).length ≤ SZ := by
  have e : (SZ : Nat) = 2 ^ 24 := by decide
  refine ⟨⟨by omega, by omega, h.1.1, h.1.2, ?_⟩, ?_⟩
  · have := h.2; rw [e] at this; rw [Int.sub_zero]; exact this
  · rw [rgV_length, Int.sub_zero]; exact h.2
theorem c_lrng {ea : Expr} {a : Ev.X} {p p2 q2 : Pos} (hc : C.hot = false → X.calm = true) (hg : Gl X "list") (hm : X.mg "list" = none) (hg2 : Gl X "range") (hm2 : X.mg "range" = none) (ha : PE X ea (TB G xf Wx C a)) (hs : starEach [ea] X.env = (false, eval ea X.env) :: starEach [] X.env) :
    PE X (.Call (.Name "list" p) [.Call (.Name "range" p2) [ea] [] q2] [] pos) (TB G xf Wx C (.lrng a)) := by
  by_cases hh : C.hot = true
  · refine ⟨fun pins s σ H Q I ⟨m, e, w, r, q⟩ => ?_⟩
    rw [ev] at q
    have := (calm_post q).1
    rw [hh] at this; cases this
  · refine pe_weak (pe_listRg (hc (by simpa using hh)) hg hm (prg_1 hg2 hm2 ha hs) rfl) fun σ H Q ⟨m, e, w, r, q⟩ => ?_
    rw [ev] at q
    obtain ⟨_, q⟩ := calm_post q
    refine ⟨m, e, w, r, q.step fun d w1 u m1 H1 x1 r1 y1 q1 => ?_⟩
    cases d <;> first | exact PostE.stk_elim (by exact q1) | skip
    rename_i n
    by_cases hn : rngOk n ∧ n.toNat ≤ SZ
    · simp only [lrngOf, if_pos hn] at q1
      obtain ⟨k1, k2⟩ := lrng_ok hn
      refine ⟨n, y1.int r1, k1, fun p' hp => PostE.newX (d := .lst _) rfl (by exact q1) r1 hp fun r4 => ?_⟩
      exact .lst (.inl rfl) upd_same k2 (RA_rng n)
    · simp only [lrngOf, if_neg hn] at q1
      exact PostE.stk_elim (by exact q1)
theorem f_lrng {ea : Expr} {a : Ev.X} {p p2 q2 : Pos} (hc : C.hot = false → X.calm = true) (hg : Gl X "list") (hm : X.mg "list" = none) (hg2 : Gl X "range") (hm2 : X.mg "range" = none) (ha : PE X ea (TB G xf Wx C a)) (hs : starEach [ea] X.env = (false, eval ea X.env) :: starEach [] X.env) :
    PE X (.Call (.Name "list" p) [.Call (.Name "range" p2) [ea] [] q2] [] pos) (TF G xf Wx C (.lrng a)) := by
  by_cases hh : C.hot = true
  · refine ⟨fun pins s σ H Q I ⟨m, e, w, r, q⟩ => ?_⟩
    rw [ev] at q
    have := (calm_post q).1
    rw [hh] at this; cases this
  · refine pe_weak (pe_listRg (hc (by simpa using hh)) hg hm (prg_1 hg2 hm2 ha hs) rfl) fun σ H Q ⟨m, e, w, r, q⟩ => ?_
    rw [ev] at q
    obtain ⟨_, q⟩ := calm_post q
    refine ⟨m, e, w, r, q.step fun d w1 u m1 H1 x1 r1 y1 q1 => ?_⟩
    cases d <;> first | exact PostE.stk_elim (by exact q1) | skip
    rename_i n
    by_cases hn : rngOk n ∧ n.toNat ≤ SZ
    · simp only [lrngOf, if_pos hn] at q1
      obtain ⟨k1, k2⟩ := lrng_ok hn
      exact ⟨n, y1.int r1, k1, fun p' hp => PostE.newF (d := .lst _) (by exact q1) r1 hp fun x2 => ⟨_, upd_same, k2, RA_rng n⟩⟩
    · simp only [lrngOf, if_neg hn] at q1
      exact PostE.stk_elim (by exact q1)

/-! ### a new cell is handed out -/
theorem s_retc {ea : Expr} {x : Ev.X} (h : PE X ea (TF G xf Wx C x)) : PS X (.Return (some ea) pos) (TSt G xf Wx C (.retc x)) :=
  ps_weak (ps_ret h) fun D σ H ⟨m, e, w, r, q⟩ => by
    rw [ex] at q
    refine ⟨m, e, w, r, q.step fun d w1 v m1 H1 x1 r1 y1 q1 => ?_⟩
    by_cases hc : contD d = true
    case neg => rw [if_neg hc] at q1; exact PostS.cstk (e := e) (by exact q1)
    rw [if_pos hc] at q1
    unfold RO at y1
    rw [if_pos hc] at y1
    obtain ⟨p, rfl, o1, o2, o3, o4, o5⟩ := y1
    have q2 : PostS G xf Wx m1 w1 H1 D (.ok (.rt (.cel w1.length)) (w1 ++ [d])) := q1
    let m2 : Fm := { m1 with rho := fun k => if k = w1.length then p else m1.rho k }
    have hr : ∀ k, k < w1.length → m2.rho k = m1.rho k := fun k hk => if_neg (Nat.ne_of_lt hk)
    have hp : m2.rho w1.length = p := if_pos rfl
    have hl : (w1 ++ [d]).length = w1.length + 1 := by simp
    refine q2 m2 (.ref p) H1 ⟨rfl, fun _ h => h, fun _ _ => rfl, fun _ _ => rfl, by simp, hr, rfl⟩ ⟨fun k c hk => ?_, fun j k hj hk z => ?_, r1.allF, r1.allP, r1.FP⟩ ?_
    · rw [hl]
      by_cases h : k < w1.length
      · rw [List.getElem?_append_left h] at hk
        obtain ⟨h1, h2, h3⟩ := r1.cell k c hk
        rw [hr k h]
        exact ⟨h1.mono (fun _ h => h) (fun _ _ => rfl) (Nat.le_succ _) hr rfl, h2, h3⟩
      · have hk2 : k = w1.length := by
          have := (List.getElem?_eq_some_iff.mp hk).1
          omega
        subst hk2
        rw [List.getElem?_append_right (Nat.le_refl _)] at hk
        simp at hk
        subst hk
        rw [hp]
        exact ⟨o1.mono (fun _ h => h) (fun _ _ => rfl) (Nat.le_succ _) hr rfl, o2, o3⟩
    · rw [hl] at hj hk
      by_cases h1 : j < w1.length
      · by_cases h2 : k < w1.length
        · rw [hr j h1, hr k h2] at z
          exact r1.inj j k h1 h2 z
        · have : k = w1.length := by omega
          subst this
          rw [hr j h1, hp] at z
          exact absurd z (o4 j h1)
      · have : j = w1.length := by omega
        subst this
        by_cases h2 : k < w1.length
        · rw [hr k h2, hp] at z
          exact absurd z.symm (o4 k h2)
        · omega
    · rw [← hp]
      exact .cel (by simp)

/-! ### several targets -/
theorem s_setG {tg ea : Expr} {g : Tg} {x : Ev.X} (hc : C.hot = false → PG X tg (TGt G g)) (h : PE X ea (TB G xf Wx C x)) (hs : swapsWithSole [tg] ea pos.line X.env = pure false) (hw : swappedStores [tg] ea X.env = pure none) (h1 : (assignEach [tg] X.env).map (·.2) = [assign tg X.env]) :
    PS X (.Assign [tg] ea pos) (TSt G xf Wx C (.setG g x)) := by
  by_cases hh : C.hot = true
  · refine ⟨fun pins s σ H D I ⟨m, e, w, r, q⟩ => ?_⟩
    rw [ex] at q
    rw [calm_hot hh] at q
    exact PostS.cstk q
  · have hh : C.hot = false := by simpa using hh
    refine ps_weak (ps_asg (tn_of h) (hc hh) hs hw h1) fun D σ H ⟨m, e, w, r, q⟩ => ?_
    rw [ex] at q
    rw [calm_cold hh] at q
    refine ⟨m, e, w, r, q.step fun d w1 v m1 H1 x1 r1 y1 q1 => ?_⟩
    cases z : bindTg g d e with
    | none => rw [z] at q1; exact PostS.cstk (e := e) (by exact q1)
    | some e' =>
      rw [z] at q1
      exact ⟨m1, e, w1, d, e', r1, y1, z, fun σ' r' _ _ => PostS.cnx (by exact q1) r'⟩
end
end Ev

set_option maxRecDepth 100000
set_option maxHeartbeats 4000000
/-! What is never reached; several names at once. -/
namespace Ev
open PySem PySem.Spec PyProof.Rows L2

section
variable {G : GG} {xf : Nat → Option Str} {Wx : L2.WX} {m m' m1 : Fm} {w w' w1 : Wd} {H H' H1 : Hp} {e e' : Env} {σ σ' : L2.St} {C : Cfg} {X : Cx} {pos : Pos} {Dn : Ends}
theorem c_bad {ea : Expr} : PE X ea (TB G xf Wx C .bad) := ⟨fun pins s σ H Q I ⟨m, e, w, r, q⟩ => by rw [ev] at q; exact q.elim⟩
theorem t_bad {ea : Expr} : PT X ea (TT' G xf Wx C .bad) := ⟨fun pins s σ H Q I ⟨m, e, w, r, q⟩ => by unfold tst at q; rw [ev] at q; exact q.elim⟩
theorem s_bad {st : Stmt} : PS X st (TSt G xf Wx C .bad) := ⟨fun pins s σ H Q I ⟨m, e, w, r, q⟩ => by rw [ex] at q; exact q.elim⟩

/-! ### a, b = x, y -/
theorem unhold0 {p : Addr} (x : Ext (m.hold p) w H m' w' H') (r' : Rel G m' e w' σ H') : Ext m w H { m' with P := m.P } w' H' ∧ Rel G { m' with P := m.P } e w' σ H' ∧ ¬ m'.F p ∧ (∀ k, k < w'.length → m'.rho k ≠ p) ∧ (∀ i d, e[i]? = some (.own d) → m'.oa i ≠ p) ∧ H' p = H p := by
  have hP : ∀ a, m.P a → m'.P a := fun a h => by rw [x.P]; exact .inl h
  have hp : m'.P p := by rw [x.P]; exact .inr rfl
  refine ⟨⟨rfl, x.F, x.aF, fun a h => x.aP a (.inl h), x.wl, x.rho, x.oa0⟩, ⟨⟨fun k d h => ?_, r'.inj, r'.allF, fun a h => r'.allP a (hP a h), fun a h => r'.FP a (hP a h)⟩, r'.len, fun i s h => ?_, r'.oinj⟩, r'.FP p hp, fun k hk z => (r'.cell k _ (List.getElem?_eq_getElem hk)).2.2 (by rw [z]; exact hp), fun i d h z => (r'.sl i _ h).2.2.2.1 (by rw [z]; exact hp), x.aP p (.inr rfl)⟩
  · obtain ⟨h1, h2, h3⟩ := r'.cell k d h
    exact ⟨h1, h2, fun q => h3 (hP _ q)⟩
  · have q := r'.sl i s h
    cases s with
    | un => trivial
    | val d => exact q
    | own d => obtain ⟨h1, h2, h3, h4, h5⟩ := q; exact ⟨h1, h2, h3, fun z => h4 (hP _ z), h5⟩
    | exc c x => exact q
theorem Rel.unhold {p : Addr} (r : Rel G m e w σ H) (x : Ext (m.hold p) w H m' w' H') (r' : Rel G m' e w' σ H') : Ext m w H { m' with P := m.P } w' H' ∧ Rel G { m' with P := m.P } e w' σ H' ∧ ¬ m'.F p ∧ (∀ k, k < w'.length → m'.rho k ≠ p) ∧ (∀ i d, e[i]? = some (.own d) → m'.oa i ≠ p) ∧ H' p = H p := unhold0 x r'
/-- behind a step during which a place is held -/
theorem PostE.stepH {α β α' β' : Type} {Rl : Fm → Wd → Hp → β → α → Prop} {Rl1 : Fm → Wd → Hp → β' → α' → Prop} {Q : β → Hp → Prop} {Q1 : β' → Hp → Prop} {r : M α'} {k : α' → M α} {p : Addr} (h : PostE G xf Wx m w H e σ Rl Q ((r >>= k) w)) (r0 : Rel G m e w σ H)
    (hk : ∀ d w1 v m1 H1, Ext (m.hold p) w H m1 w1 H1 → Rel G m1 e w1 σ H1 → Rl1 m1 w1 H1 v d → PostE G xf Wx { m1 with P := m.P } w1 H1 e σ Rl Q (k d w1) → Q1 v H1) : PostE G xf Wx (m.hold p) w H e σ Rl1 Q1 (r w) := by
  rw [bind_def] at h
  cases q : r w with
  | ok d w' =>
    rw [q] at h
    exact fun v m' H' x r y => hk d w' v m' H' x r y (h.shift (r0.unhold x r).1)
  | exc c x w' =>
    rw [q] at h
    exact fun pn m' H' x rr y => h pn { m' with P := m.P } H' (r0.unhold x rr).1 (r0.unhold x rr).2.1 y
  | stk =>
    rw [q] at h
    exact h
/-- {a: b}: the dict is laid ahead of its pair -/
theorem c_dic1 {ea eb : Expr} {a b : Ev.X} (ha : PE X ea (TB G xf Wx C a)) (hb : PE X eb (TB G xf Wx C b)) : PE X (.Dict [some ea] [eb] pos) (TB G xf Wx C (.dic1 a b)) :=
  pe_weak (pe_disp (pps_cons ha (tn_of hb) pps_nil) rfl rfl (by simp) (by simp)) fun σ H Q ⟨m, e, w, r, q⟩ => fun p hp => by
    rw [ev] at q
    obtain ⟨x0, r0⟩ := r.lay hp (.dK [])
    have nF : ¬ m.F p := fun h => r.allF p h hp
    have nP : ¬ m.P p := fun h => r.allP p h hp
    have nr : ∀ k, k < w.length → m.rho k ≠ p := fun k hk z => by
      have := (r.cell k _ (List.getElem?_eq_getElem hk)).1.there
      rw [z] at this
      exact this hp
    have no : ∀ i d, e[i]? = some (.own d) → m.oa i ≠ p := fun i d h => r.oaNe hp h
    have r1 := r0.hold (p := p) (by rw [upd_same]; simp) nF nr no
    refine ⟨m.hold p, e, w, r1, PostE.stepH (q.shift x0) r0 fun d w1 v m1 H1 x1 rr1 y1 q1 => ?_⟩
    obtain ⟨u1, u2, u3, u4, u5, u6⟩ := Rel.unhold r0 x1 rr1
    have r2 := u2.hold (p := p) (by rw [u6, upd_same]; simp) u3 u4 u5
    refine ⟨_, e, w1, r2, PostE.stepH q1 u2 fun d2 w2 v2 m2 H2 x2 rr2 y2 q2 => ?_⟩
    obtain ⟨t1, t2, t3, t4, t5, t6⟩ := Rel.unhold u2 x2 rr2
    refine ⟨t6.trans (u6.trans upd_same), ?_⟩
    by_cases hk : isKey d = true
    · rw [if_pos hk] at q2
      have y1' : RX G e σ a { m1 with P := m.P } w1 H1 v d := y1
      obtain ⟨kk, rfl, rfl⟩ := key_v ((y1'.mono t1).view t2) hk
      refine ⟨[(kk, v2)], rfl, by simp, ?_⟩
      have r3 := (t2.hold (p := p) (by rw [t6, u6, upd_same]; simp) t3 t4 t5).at (p := p) (.inr rfl) (.dK [(kk, v2)])
      obtain ⟨_, r4, _⟩ := unhold0 (p := p) (m := { m2 with P := m.P }) (H := upd H2 p (.dK [(kk, v2)])) (w := w2) (Ext.refl _ _ _) r3
      have x4 : Ext { m2 with P := m.P } w2 H2 { m2 with P := m.P } w2 (upd H2 p (.dK [(kk, v2)])) := ⟨rfl, fun _ h => h, fun a h => upd_ne fun z => t3 (z ▸ h), fun a h => upd_ne fun z => nP (z ▸ h), Nat.le_refl _, fun _ _ => rfl, rfl⟩
      obtain ⟨x5, r5⟩ := r4.hand (x := p) (by rw [upd_same]; simp) nP t4 t5
      refine q2 _ _ _ (x4.trans x5) r5 ((RX.of rfl).mpr (.dic (.inl rfl) upd_same (Nat.le_trans (show ([(kk, v2)] : List (Key × V)).length ≤ 1 from Nat.le_refl _) (by decide)) (.cons ?_ .nil)))
      exact R.mono (fun a h => x5.F a h) (fun a h => (x4.aF a h)) (Nat.le_refl _) (fun _ _ => rfl) y2
    · rw [if_neg hk] at q2
      exact PostE.stk_elim (by exact q2)
structure Fresh (G : GG) (e : Env) (m : Fm) (w : Wd) (H : Hp) (p : Addr) (d : D) : Prop where
  own : Own G m.F m.rho w.length H p d
  nF : ¬ m.F p
  nP : ¬ m.P p
  nr : ∀ k, k < w.length → m.rho k ≠ p
  no : ∀ i d, e[i]? = some (.own d) → m.oa i ≠ p
inductive RM (G : GG) (e : Env) (m : Fm) (w : Wd) (H : Hp) : List Bool → List V → List D → List Addr → Prop
  | nil : RM G e m w H [] [] [] []
  | val {v : V} {d : D} {fs : List Bool} {vs : List V} {ds : List D} {ps : List Addr} : R G m.F m.rho w.length H v d → RM G e m w H fs vs ds ps → RM G e m w H (false :: fs) (v :: vs) (d :: ds) ps
  | own {p : Addr} {d : D} {fs : List Bool} {vs : List V} {ds : List D} {ps : List Addr} : Fresh G e m w H p d → p ∉ ps → RM G e m w H fs vs ds ps → RM G e m w H (true :: fs) (.ref p :: vs) (d :: ds) (p :: ps)
  | bad {v : V} {d : D} {fs : List Bool} {vs : List V} {ds : List D} {ps : List Addr} : contD d = false → RM G e m w H fs vs ds ps → RM G e m w H (true :: fs) (v :: vs) (d :: ds) ps
variable (G xf Wx) in
def TM (C : Cfg) (fs : List Bool) (x : Xs) : TA := fun σ H Q => ∃ m e w, Rel G m e w σ H ∧ PostE G xf Wx m w H e σ (fun m w H vs ds => ∃ ps, (∀ p ∈ ps, ∃ d, Fresh G e m w H p d) ∧ RM G e m w H fs vs ds ps) Q (evs C x e w)
theorem m_nil : PA X [] (TM G xf Wx C [] .nil) := pa_weak pa_nil fun σ H Q ⟨m, e, w, r, q⟩ => by
  rw [evs] at q
  exact PostE.val (d := []) q r (show ∃ ps, (∀ p ∈ ps, ∃ d, Fresh G e m w H p d) ∧ RM G e m w H [] [] [] ps from ⟨[], ⟨fun p h => absurd h (by simp), RM.nil⟩⟩)
theorem Fresh.un {p : Addr} {d : D} {P : Pr} (h : Fresh G e m w H p d) (hP : ∀ a, P a → m.P a) : Fresh G e { m with P := P } w H p d := ⟨h.own, h.nF, fun z => h.nP (hP _ z), h.nr, h.no⟩
theorem RM.un {P : Pr} (hP : ∀ a, P a → m.P a) {fs : List Bool} {vs : List V} {ds : List D} {ps : List Addr} (h : RM G e m w H fs vs ds ps) : RM G e { m with P := P } w H fs vs ds ps := by
  induction h with
  | nil => exact .nil
  | val a _ ih => exact .val a ih
  | own a b _ ih => exact .own (a.un hP) b ih
  | bad a _ ih => exact .bad a ih
theorem m_val {a : Expr} {as : List Expr} {x : Ev.X} {xs : Xs} {fs : List Bool} (ha : PE X a (TB G xf Wx C x)) (hs : PA X as (TM G xf Wx C fs xs)) (hst : starEach (a :: as) X.env = (false, eval a X.env) :: starEach as X.env) : PA X (a :: as) (TM G xf Wx C (false :: fs) (.cons x xs)) :=
  pa_weak (pa_cons (tn_of ha) hs hst) fun σ H Q ⟨m, e, w, r, q⟩ => by
    rw [evs] at q
    refine ⟨m, e, w, r, q.step fun d w1 v m1 H1 x1 r1 y1 q1 => ⟨m1, e, w1, r1, q1.step fun ds w2 vs m2 H2 x2 r2 y2 q2 => ?_⟩⟩
    obtain ⟨ps, y2, y3⟩ := y2
    exact PostE.val (d := d :: ds) q2 r2 (show ∃ ps, (∀ p ∈ ps, ∃ d, Fresh G e m2 w2 H2 p d) ∧ RM G e m2 w2 H2 _ _ _ ps from ⟨ps, y2, .val (R.ext x2 y1) y3⟩)
theorem m_own {a : Expr} {as : List Expr} {x : Ev.X} {xs : Xs} {fs : List Bool} (ha : PE X a (TF G xf Wx C x)) (hs : PA X as (TM G xf Wx C fs xs)) (hst : starEach (a :: as) X.env = (false, eval a X.env) :: starEach as X.env) : PA X (a :: as) (TM G xf Wx C (true :: fs) (.cons x xs)) :=
  pa_weak (pa_cons ha hs hst) fun σ H Q ⟨m, e, w, r, q⟩ => by
    rw [evs] at q
    have q' : PostE G xf Wx m w H e σ (fun m w H vs ds => ∃ ps, (∀ p ∈ ps, ∃ d, Fresh G e m w H p d) ∧ RM G e m w H (true :: fs) vs ds ps) Q ((ev C x e >>= fun d => evs C xs e >>= fun ds => pure (d :: ds)) w) := by
      unfold nb at q
      by_cases ho : ownV e x = true
      · rw [if_pos ho] at q; exact PostE.stk_elim (by exact q)
      · rw [if_neg ho] at q; exact q
    refine ⟨m, e, w, r, q'.step fun d w1 v m1 H1 x1 r1 y1 q1 => ?_⟩
    by_cases hc : contD d = true
    · unfold RO at y1
      rw [if_pos hc] at y1
      obtain ⟨p, rfl, o1, o2, o3, o4, o5⟩ := y1
      have rh := r1.hold (p := p) o1.there o2 o4 o5
      refine ⟨m1.hold p, e, w1, rh, ?_⟩
      rw [bind_def] at q1
      cases z : evs C xs e w1 with
      | ok ds w2 =>
        rw [z] at q1
        intro vs m2 H2 x2 r2 ⟨ps, y2, y3⟩
        obtain ⟨x3, r3, n1, n2, n3, n4⟩ := r1.unhold x2 r2
        have hP : ∀ a, m1.P a → m2.P a := fun a h => by rw [x2.P]; exact .inl h
        have hp : m2.P p := by rw [x2.P]; exact .inr rfl
        have fr : Fresh G e { m2 with P := m1.P } w2 H2 p d := ⟨o1.mono x2.F x2.aF x2.wl x2.rho n4, n1, o3, n2, n3⟩
        refine q1 (.ref p :: vs) _ H2 x3 r3 ⟨p :: ps, fun p' hp' => ?_, .own fr (fun hm => ?_) (y3.un hP)⟩
        · rcases List.mem_cons.mp hp' with rfl | hp'
          · exact ⟨d, fr⟩
          · obtain ⟨d', f⟩ := y2 p' hp'
            exact ⟨d', f.un hP⟩
        · obtain ⟨d', f⟩ := y2 p hm
          exact f.nP hp
      | exc c x w2 =>
        rw [z] at q1
        intro pn m2 H2 x2 r2 y2
        obtain ⟨x3, r3, _⟩ := r1.unhold x2 r2
        exact q1 pn _ H2 x3 r3 y2
      | stk => rw [z] at q1; exact q1
    · refine ⟨m1, e, w1, r1, q1.step fun ds w2 vs m2 H2 x2 r2 y2 q2 => ?_⟩
      obtain ⟨ps, y2, y3⟩ := y2
      exact PostE.val (d := d :: ds) q2 r2 (show ∃ ps, (∀ p ∈ ps, ∃ d, Fresh G e m2 w2 H2 p d) ∧ RM G e m2 w2 H2 _ _ _ ps from ⟨ps, y2, .bad (by simpa using hc) y3⟩)
def setsσ : List (Nat × Bool) → List V → L2.St → L2.St
  | (i, _) :: ts, v :: vs, σ => setsσ ts vs (σ.set i (some v))
  | _, _, σ => σ
theorem par_rel : ∀ (ts : List (Nat × Bool)) (ds : List D) (vs : List V) (ps : List Addr) (m : Fm) (e : Env) (σ : L2.St) (e' : Env), Rel G m e w σ H → RM G e m w H (ts.map (·.2)) vs ds ps → parE ts ds e = some e' → ∃ m', Ext m w H m' w H ∧ Rel G m' e' w (setsσ ts vs σ) H
  | [], ds, vs, ps, m, e, σ, e', r, h, q => by
    cases h
    simp only [parE, Option.some.injEq] at q
    subst q
    exact ⟨m, .refl _ _ _, r⟩
  | (i, o) :: ts, ds, vs, ps, m, e, σ, e', r, h, q => by
    cases o with
    | false =>
      cases h with
      | @val v d _ vs ds _ a b =>
        simp only [parE] at q
        by_cases hi : i < e.length ∧ (false = true → contD d = true ∧ i ≠ 0)
        · rw [if_pos hi] at q
          simp only [Bool.false_eq_true, if_false] at q
          have hb : RM G (e.set i (.val d)) m w H (ts.map (·.2)) vs ds ps := by
            clear q
            generalize hfs : ts.map (·.2) = fs at b
            clear hfs
            induction b with
            | nil => exact .nil
            | val a _ ih => exact .val a ih
            | own a c _ ih =>
              refine .own ⟨a.own, a.nF, a.nP, a.nr, fun j d' hj => ?_⟩ c ih
              by_cases hij : i = j
              · subst hij
                rw [List.getElem?_set_self hi.1] at hj
                cases hj
              · rw [List.getElem?_set_ne hij] at hj
                exact a.no j d' hj
            | bad a _ ih => exact .bad a ih
          exact par_rel ts ds vs ps m _ _ e' (r.setVal hi.1 a) hb q
        · rw [if_neg hi] at q; cases q
    | true =>
      cases h with
      | @own p d _ vs ds ps a c b =>
        unfold parE at q
        by_cases hi : i < e.length ∧ (true = true → contD d = true ∧ i ≠ 0)
        · rw [if_pos hi] at q
          rw [if_pos rfl] at q
          obtain ⟨x2, r2⟩ := r.setOwn (hi.2 rfl).2 hi.1 a.own a.nF a.nP a.nr a.no
          have hb : RM G (e.set i (.own d)) (m.seto i p) w H (ts.map (·.2)) vs ds ps := by
            clear q
            generalize hfs : ts.map (·.2) = fs at b
            clear hfs
            induction b with
            | nil => exact .nil
            | val a _ ih => exact .val a (ih c)
            | @own p' d' _ _ _ _ a' c' _ ih =>
              simp only [List.mem_cons, not_or] at c
              refine .own ⟨a'.own, a'.nF, a'.nP, a'.nr, fun j d2 hj => ?_⟩ c' (ih c.2)
              by_cases hij : i = j
              · subst hij
                have e1 : (m.seto i p).oa i = p := if_pos rfl
                rw [e1]
                exact c.1
              · rw [List.getElem?_set_ne hij] at hj
                have e1 : (m.seto i p).oa j = m.oa j := if_neg fun z => hij z.symm
                rw [e1]
                exact a'.no j d2 hj
            | bad a' _ ih => exact .bad a' (ih c)
          obtain ⟨m', x3, r3⟩ := par_rel ts ds vs ps (m.seto i p) _ _ e' r2 hb q
          exact ⟨m', x2.trans x3, r3⟩
        · rw [if_neg hi] at q; cases q
      | @bad v d _ vs ds _ a b =>
        unfold parE at q
        rw [if_neg (by simp [a])] at q
        cases q
/-- the store of several names at once, by what the elements are -/
theorem par_weak {ts : List (Nat × Bool)} {es : Xs} {σ : L2.St} {H : Hp} {D : Ends} (hh : C.hot = false) (h : TSt G xf Wx C (.par ts es) D σ H) : TM G xf Wx C (ts.map (·.2)) es σ H fun vs H1 => vs.length = ts.length ∧ D.nx (setsσ ts vs σ) H1 := by
  obtain ⟨m, e, w, r, q⟩ := h
  rw [ex] at q
  rw [calm_cold hh] at q
  refine ⟨m, e, w, r, q.step fun ds w1 vs m1 H1 x1 r1 y1 q1 => ?_⟩
  obtain ⟨ps, y2, y3⟩ := y1
  cases z : parE ts ds e with
  | none => rw [z] at q1; exact PostS.cstk (e := e) (by exact q1)
  | some e' =>
    rw [z] at q1
    obtain ⟨m', x2, r2⟩ := par_rel ts ds vs ps m1 e σ e' r1 y3 z
    refine ⟨?_, (by exact q1 : PostS G xf Wx m1 w1 H1 D (.ok (.nx e') w1)) _ _ _ x2 r2⟩
    clear q1 z r2 x2
    have : ∀ {fs : List Bool} {vs : List V} {ds : List Ev.D} {ps : List Addr}, RM G e m1 w1 H1 fs vs ds ps → vs.length = fs.length := fun h => by
      induction h with
      | nil => rfl
      | val _ _ ih => simp [ih]
      | own _ _ _ ih => simp [ih]
      | bad _ _ ih => simp [ih]
    rw [this y3, List.length_map]
theorem s_par2 {i j : Nat} {oi oj : Bool} {x y : Str} {a b : Expr} {es : Xs} {px py pt : Pos} {kt k2 pt2} (hc : C.hot = false → X.calm = true) (hN : X.N.Nodup) (hi : X.N[i]? = some x) (hj : X.N[j]? = some y) (hij : i ≠ j)
    (hx : X.env.scope.names.lookup x = some .local) (hy : X.env.scope.names.lookup y = some .local) (ha : PA X [a, b] (TM G xf Wx C [oi, oj] es))
    (hw : swappedStores [.Tuple [.Name x px, .Name y py] kt pt] (.Tuple [a, b] k2 pt2) X.env = pure (some [x, y])) : PS X (.Assign [.Tuple [.Name x px, .Name y py] kt pt] (.Tuple [a, b] k2 pt2) pos) (TSt G xf Wx C (.par [(i, oi), (j, oj)] es)) := by
  by_cases hh : C.hot = true
  · refine ⟨fun pins s σ H D I ⟨m, e, w, r, q⟩ => ?_⟩
    rw [ex] at q
    rw [calm_hot hh] at q
    exact PostS.cstk q
  · have hh : C.hot = false := by simpa using hh
    refine ps_weak (ps_par (hc hh) hN hi hj hij hx hy ha hw rfl) fun D σ H h => ?_
    obtain ⟨m, e, w, r, q⟩ := par_weak hh h
    refine ⟨m, e, w, r, ?_⟩
    have im : ∀ vs H1, (vs.length = 2 ∧ D.nx (setsσ [(i, oi), (j, oj)] vs σ) H1) → ∃ v w, vs = [v, w] ∧ D.nx ((σ.set i (some v)).set j (some w)) H1 := fun vs H1 ⟨h1, h2⟩ => by
      match vs, h1 with
      | [v, w], _ => exact ⟨v, w, rfl, h2⟩
    cases z : evs C es e w with
    | ok ds w' => rw [z] at q; exact fun v m' H' x r y => im v H' (q v m' H' x r y)
    | exc c x w' => rw [z] at q; exact q
    | stk => rw [z] at q; exact q
theorem s_par3 {i j l : Nat} {oi oj ol : Bool} {x y z : Str} {a b c : Expr} {es : Xs} {px py pz pt : Pos} {kt k2 pt2} (hc : C.hot = false → X.calm = true) (hN : X.N.Nodup) (hi : X.N[i]? = some x) (hj : X.N[j]? = some y) (hl : X.N[l]? = some z) (hij : i ≠ j) (hil : i ≠ l) (hjl : j ≠ l)
    (hx : X.env.scope.names.lookup x = some .local) (hy : X.env.scope.names.lookup y = some .local) (hz : X.env.scope.names.lookup z = some .local) (ha : PA X [a, b, c] (TM G xf Wx C [oi, oj, ol] es))
    (hw : swappedStores [.Tuple [.Name x px, .Name y py, .Name z pz] kt pt] (.Tuple [a, b, c] k2 pt2) X.env = pure (some [x, y, z])) : PS X (.Assign [.Tuple [.Name x px, .Name y py, .Name z pz] kt pt] (.Tuple [a, b, c] k2 pt2) pos) (TSt G xf Wx C (.par [(i, oi), (j, oj), (l, ol)] es)) := by
  by_cases hh : C.hot = true
  · refine ⟨fun pins s σ H D I ⟨m, e, w, r, q⟩ => ?_⟩
    rw [ex] at q
    rw [calm_hot hh] at q
    exact PostS.cstk q
  · have hh : C.hot = false := by simpa using hh
    refine ps_weak (ps_par3 (hc hh) hN hi hj hl hij hil hjl hx hy hz ha hw rfl) fun D σ H h => ?_
    obtain ⟨m, e, w, r, q⟩ := par_weak hh h
    refine ⟨m, e, w, r, ?_⟩
    have im : ∀ vs H1, (vs.length = 3 ∧ D.nx (setsσ [(i, oi), (j, oj), (l, ol)] vs σ) H1) → ∃ u v w, vs = [u, v, w] ∧ D.nx (((σ.set i (some u)).set j (some v)).set l (some w)) H1 := fun vs H1 ⟨h1, h2⟩ => by
      match vs, h1 with
      | [u, v, w], _ => exact ⟨u, v, w, rfl, h2⟩
    cases z : evs C es e w with
    | ok ds w' => rw [z] at q; exact fun v m' H' x r y => im v H' (q v m' H' x r y)
    | exc c x w' => rw [z] at q; exact q
    | stk => rw [z] at q; exact q
/-! ### a tuple is made, then its names are stored -/
def gNames : List Nat → TGs
  | [] => gNil
  | i :: r => gCons (gName i) (gNames r)
theorem gNames_val : ∀ (ts : List (Nat × Bool)) (vs : List V) (σ : L2.St) (H : Hp) (Q : L2.St → Hp → Prop), vs.length = ts.length → Q (setsσ ts vs σ) H → gNames (ts.map (·.1)) vs σ H Q
  | [], [], σ, H, Q, _, q => ⟨rfl, q⟩
  | [], _ :: _, _, _, _, h, _ => by simp at h
  | _ :: _, [], _, _, _, h, _ => by simp at h
  | t :: ts, v :: vs, σ, H, Q, h, q => ⟨v, vs, rfl, gNames_val ts vs _ H Q (by simpa using h) q⟩
theorem par_weakT {ts : List (Nat × Bool)} {es : Xs} {σ : L2.St} {H : Hp} {D : Ends} (hh : C.hot = false) (h : TSt G xf Wx C (.par ts es) D σ H) : TM G xf Wx C (ts.map (·.2)) es σ H fun vs H1 => vs.length = ts.length ∧ ∀ p, H1 p = none → D.nx (setsσ ts vs σ) (upd H1 p (.tup vs)) := by
  obtain ⟨m, e, w, r, q⟩ := h
  rw [ex] at q
  rw [calm_cold hh] at q
  refine ⟨m, e, w, r, q.step fun ds w1 vs m1 H1 x1 r1 y1 q1 => ?_⟩
  obtain ⟨ps, y2, y3⟩ := y1
  cases z : parE ts ds e with
  | none => rw [z] at q1; exact PostS.cstk (e := e) (by exact q1)
  | some e' =>
    rw [z] at q1
    obtain ⟨m', x2, r2⟩ := par_rel ts ds vs ps m1 e σ e' r1 y3 z
    refine ⟨?_, fun p hp => ?_⟩
    · clear q1 z r2 x2
      have : ∀ {fs : List Bool} {vs : List V} {ds : List Ev.D} {ps : List Addr}, RM G e m1 w1 H1 fs vs ds ps → vs.length = fs.length := fun h => by
        induction h with
        | nil => rfl
        | val _ _ ih => simp [ih]
        | own _ _ _ ih => simp [ih]
        | bad _ _ ih => simp [ih]
      rw [this y3, List.length_map]
    · obtain ⟨xl, rl⟩ := r2.lay hp (.tup vs)
      exact (by exact q1 : PostS G xf Wx m1 w1 H1 D (.ok (.nx e') w1)) _ _ _ (x2.trans xl) rl
theorem s_parT {ts : List (Nat × Bool)} {tes vs : List Expr} {es : Xs} {pt : Pos} {kt k2 pt2} (hc : C.hot = false → X.calm = true) (ht : PGs X tes (gNames (ts.map (·.1)))) (hn : (assignEach tes X.env).length = ts.length) (hst : (assignEach tes X.env).findIdx? (·.1) = none) (hl : ts.length ≤ 10)
    (ha : PA X vs (TM G xf Wx C (ts.map (·.2)) es)) (hw : swappedStores [.Tuple tes kt pt] (.Tuple vs k2 pt2) X.env = pure none) : PS X (.Assign [.Tuple tes kt pt] (.Tuple vs k2 pt2) pos) (TSt G xf Wx C (.par ts es)) := by
  by_cases hh : C.hot = true
  · refine ⟨fun pins s σ H D I ⟨m, e, w, r, q⟩ => ?_⟩
    rw [ex] at q
    rw [calm_hot hh] at q
    exact PostS.cstk q
  · have hh : C.hot = false := by simpa using hh
    refine ps_weak (ps_asg (pe_tup ha) (pg_tup (hc hh) ht hn hst) rfl hw) fun D σ H h => ?_
    obtain ⟨m, e, w, r, q⟩ := par_weakT hh h
    refine ⟨m, e, w, r, ?_⟩
    have im : ∀ us H1, (us.length = ts.length ∧ ∀ p, H1 p = none → D.nx (setsσ ts us σ) (upd H1 p (.tup us))) → us.length ≤ sizeLine ∧ ∀ p, H1 p = none → gTup X.K ts.length (gNames (ts.map (·.1))) (.ref p) σ (upd H1 p (.tup us)) D.nx := fun us H1 ⟨h1, h2⟩ =>
      ⟨by rw [h1]; exact Nat.le_trans hl (by decide), fun p hp => ⟨p, us, rfl, .of upd_same, h1, gNames_val ts us σ _ _ h1 (h2 p hp)⟩⟩
    cases z : evs C es e w with
    | ok ds w' => rw [z] at q; exact fun v m' H' x r y => im v H' (q v m' H' x r y)
    | exc c x w' => rw [z] at q; exact q
    | stk => rw [z] at q; exact q
end
end Ev

set_option maxRecDepth 100000
set_option maxHeartbeats 4000000
/-! Errors raised and caught. -/
namespace Ev
open PySem PySem.Spec PyProof.Rows L2

/-- an own error's __init__(self, x): self.f = x -/
def spEx (G : GG) (c : Nat) (f : Str) : Sp := fun vs H Q _ => ∃ a y, vs = [.ref a, y] ∧ H a = some (exo a (G.cl c) none) ∧ ∀ dx, H dx = none → dx ≠ a → Q .non (upd (upd H dx (exd dx [(f, y)])) a (exo a (G.cl c) (some dx)))
/-- an own error without own __init__ -/
structure BareC (K : PySem.W.Frag) (C : Addr) : Prop where
  q : PySem.W.excIn K C bmVE "ValueError.__new__" = true
  exC : PySem.W.subIn K (.ref C) (.type "BaseException") = some true
  tyC : PySem.W.typeIn K (.ref C) = some (.type "type")
  kC : PySem.W.keepIn K (.ref C) = true
theorem bareB_ok {K : PySem.W.Frag} {C : Addr} (h : bareB K C = true) : BareC K C := by
  unfold bareB at h
  simp only [Bool.and_eq_true, decide_eq_true_eq] at h
  obtain ⟨⟨⟨h1, h2⟩, h3⟩, h4⟩ := h
  exact ⟨h1, h2, h3, h4⟩
/-- C() -/
theorem pmk_bare {X : Cx} {x : Str} {C : Addr} {p pos : Pos} (T : BareC X.K C) (hg : Gl X x) (hm : X.mg x = some (.ref C)) (hdb : (x == ("__debug__" : Str)) = false) : PMk X (.Call (.Name x p) [] [] pos) (fun _ H Q => Q (.ref C) none H) := by
  intro pins s σ H Q I h
  refine wpAny_Call_Name_kw (ld_glob I hg hm (PySem.W.callWith_K0 I.kIn T.kC ?_) hdb)
  obtain ⟨bm, N, nm, qn, bs, hdct, sn, sub, ab, col, dd, k0, k1, k2, k3, k5, mN, hC, hN, hni, tl⟩ := exc_obj I.kIn T.q
  exact wpAny_call_exc_subT F.excBase_ValueError tl hC hN hni (fun h' e hm => mk_of I hm (raises_own T.exC T.tyC) h (I.hok.gone hm.new)) (by show 0 ≤ sizeLine; omega)
structure RsUse (G : GG) (xf : Nat → Option Str) (X : Cx) (c : Nat) : Prop where
  one : ∀ f, xf c = some f → ∃ k fI fd ps, OexC X.K (G.cl c) ∧ PySem.W.findIn X.K (.ref (G.cl c)) "__init__" = some (some (.ref fI)) ∧ PySem.W.typeIn X.K (.ref fI) = some (.type "function") ∧
    FnOk X.prog X.w X.K X.mg X.base (L2.CX X.prog X.w) k fI fd ps (spEx G c f) ∧ Room (k + 1) X.A ∧ Binds X.K fd ps []
def GG.put (G : GG) (zp : Addr → Nat → Option Addr → Prop) (xn : Nat → Option Str) : GG := { G with zp := zp, xn := xn }
section
variable {G : GG} {zp : Addr → Nat → Option Addr → Prop} {xn : Nat → Option Str} {F : Pr} {rho : Nat → Addr} {n : Nat} {H : Hp}
theorem R.inG {v : V} {d : D} (h : R G F rho n H v d) : R (G.put zp xn) F rho n H v d := by
  refine R.rec (G := G) (F := F) (rho := rho) (n := n) (H := H) (motive_1 := fun v d _ => R (G.put zp xn) F rho n H v d) (motive_2 := fun vs ds _ => RA (G.put zp xn) F rho n H vs ds) (motive_3 := fun vs ds _ => RK (G.put zp xn) F rho n H vs ds) (motive_4 := fun vs ds _ => RF (G.put zp xn) F rho n H vs ds)
    .non .bl .int .str ?_ ?_ ?_ ?_ ?_ ?_ ?_ (fun h l => .scrK h l) .nil (fun _ _ a b => .cons a b) .nil (fun _ _ a b => .cons a b) .nil (fun _ _ a b => .cons a b) h
  · intro a vs ds ht hl _ ih
    exact .tup ht hl ih
  · intro a vs ds h1 h2 hl _ ih
    exact .lst h1 h2 hl ih
  · intro a vs ds h1 h2 hl _ ih
    exact .dic h1 h2 hl ih
  · intro a dx c vs fs h1 h2 _ ih
    exact .ins h1 h2 ih
  · intro k hk
    exact .cel hk
  · intro j
    exact R.fn (G := G.put zp xn)
  · intro a o ns h1 h2 hl
    exact .scr h1 h2 hl
theorem R.outG {v : V} {d : D} (h : R (G.put zp xn) F rho n H v d) : R G F rho n H v d := R.inG (G := G.put zp xn) (zp := G.zp) (xn := G.xn) h
theorem RA.inG : ∀ {vs : List V} {ds : List D}, RA G F rho n H vs ds → RA (G.put zp xn) F rho n H vs ds
  | _, _, .nil => .nil
  | _, _, .cons a t => .cons a.inG (RA.inG t)
theorem RK.inG : ∀ {vs : List (Key × V)} {ds : List (D × D)}, RK G F rho n H vs ds → RK (G.put zp xn) F rho n H vs ds
  | _, _, .nil => .nil
  | _, _, .cons a t => .cons a.inG (RK.inG t)
theorem RF.inG : ∀ {vs : List (Str × V)} {ds : List (Str × D)}, RF G F rho n H vs ds → RF (G.put zp xn) F rho n H vs ds
  | _, _, .nil => .nil
  | _, _, .cons a t => .cons a.inG (RF.inG t)
theorem Own.inG {a : Addr} {d : D} (h : Own G F rho n H a d) : Own (G.put zp xn) F rho n H a d := by
  cases d with
  | lst ds => obtain ⟨vs, h1, h2, h3⟩ := h; exact ⟨vs, h1, h2, RA.inG h3⟩
  | dic ds => obtain ⟨vs, h1, h2, h3⟩ := h; exact ⟨vs, h1, h2, RK.inG h3⟩
  | ins c fs => obtain ⟨dx, vs, h1, h3⟩ := h; exact ⟨dx, vs, h1, RF.inG h3⟩
  | _ => exact h
theorem Own.outG {a : Addr} {d : D} (h : Own (G.put zp xn) F rho n H a d) : Own G F rho n H a d := Own.inG (G := G.put zp xn) (zp := G.zp) (xn := G.xn) h
end
section
variable {G : GG} {xf : Nat → Option Str} {Wx : L2.WX} {zp : Addr → Nat → Option Addr → Prop} {xn : Nat → Option Str} {m m' m1 : Fm} {w w' w1 : Wd} {H H' H1 : Hp} {e e' : Env} {σ σ' : L2.St} {C : Cfg} {X : Cx} {pos : Pos} {Dn : Ends}
theorem RelW.inG (r : RelW G m w H) : RelW (G.put zp xn) m w H := ⟨fun k d h => by obtain ⟨h1, h2, h3⟩ := r.cell k d h; exact ⟨h1.inG, h2, h3⟩, r.inj, r.allF, r.allP, r.FP⟩
theorem RelW.outG (r : RelW (G.put zp xn) m w H) : RelW G m w H := RelW.inG (G := G.put zp xn) (zp := G.zp) (xn := G.xn) r
/-- into an except suite: the caught error's name -/
theorem Rel.toExc (r : Rel G m e w σ H) (z0 : ∀ a c p, ¬ G.zp a c p) {i : Nat} {c : Nat} {x : Option D} {a : Addr} {pn : Option Addr} (hi : i < e.length) (hz : zp a c pn) (hx : XV (G.put zp xn) m.F m.rho w.length H c x pn) :
    Rel (G.put zp xn) m (e.set i (.exc c x)) w (σ.set i (some (.ref a))) H := by
  refine ⟨r.toRelW.inG, by simp [r.len], fun j s h => ?_, fun j k d1 d2 h1 h2 => ?_⟩
  · by_cases hj : i = j
    · subst hj
      rw [List.getElem?_set_self hi] at h
      cases h
      exact ⟨a, pn, by rw [List.getElem?_set_self (by rw [r.len]; exact hi)], hz, hx⟩
    · rw [List.getElem?_set_ne hj] at h
      have q := r.sl j s h
      cases s with
      | un => trivial
      | val d => obtain ⟨u, h1, h2⟩ := q; exact ⟨u, by rw [List.getElem?_set_ne hj]; exact h1, h2.inG⟩
      | own d => obtain ⟨h1, h2, h3⟩ := q; exact ⟨by rw [List.getElem?_set_ne hj]; exact h1, h2.inG, h3⟩
      | exc c x =>
        obtain ⟨a0, pn, _, h2, _⟩ := q
        exact absurd h2 (z0 _ _ _)
  · have hj : i ≠ j := fun z => by subst z; rw [List.getElem?_set_self hi] at h1; cases h1
    have hk : i ≠ k := fun z => by subst z; rw [List.getElem?_set_self hi] at h2; cases h2
    rw [List.getElem?_set_ne hj] at h1
    rw [List.getElem?_set_ne hk] at h2
    exact r.oinj j k d1 d2 h1 h2
theorem wipeX_get {e : Env} {i j : Nat} {s : Slot} (h : (wipeX (e.set i .un))[j]? = some s) : s = .un ∨ (i ≠ j ∧ e[j]? = some s ∧ ∀ c x, s ≠ .exc c x) := by
  unfold wipeX at h
  rw [List.getElem?_map] at h
  obtain ⟨s0, h0, rfl⟩ := Option.map_eq_some_iff.mp h
  by_cases hj : i = j
  · subst hj
    rw [List.getElem?_set] at h0
    simp at h0
    rw [← h0.2]
    exact .inl rfl
  · rw [List.getElem?_set_ne hj] at h0
    cases s0 with
    | exc c x => exact .inl rfl
    | _ => exact .inr ⟨hj, h0, fun c x z => by cases z⟩
theorem Rel.ofExc (r : Rel (G.put zp xn) m e w σ H) (i : Nat) : Rel G m (wipeX (e.set i .un)) w (σ.set i none) H := by
  refine ⟨r.toRelW.outG, by simp [wipeX, r.len], fun j s h => ?_, fun j k d1 d2 h1 h2 => ?_⟩
  · rcases wipeX_get h with rfl | ⟨hj, h, hne⟩
    · trivial
    · have q := r.sl j s h
      cases s with
      | un => trivial
      | val d => obtain ⟨u, h1, h2⟩ := q; exact ⟨u, by rw [List.getElem?_set_ne hj]; exact h1, h2.outG⟩
      | own d => obtain ⟨h1, h2, h3⟩ := q; exact ⟨by rw [List.getElem?_set_ne hj]; exact h1, h2.outG, h3⟩
      | exc c x => exact absurd rfl (hne c x)
  · rcases wipeX_get h1 with z | ⟨_, h1, _⟩
    · cases z
    · rcases wipeX_get h2 with z | ⟨_, h2, _⟩
      · cases z
      · exact r.oinj j k d1 d2 h1 h2
theorem XAt.put {c : Nat} {x : Option D} {pn : Option Addr} (h : XAt G xf m w H c x pn) : XV (G.put zp xf) m.F m.rho w.length H c x pn := by
  cases x with
  | none => cases pn with
    | none => trivial
    | some p => exact h.elim
  | some d => cases pn with
    | none => exact h.elim
    | some p =>
      obtain ⟨f, v, h1, h2, h3, h4⟩ := h
      exact ⟨f, v, h1, h2, h3, h4.inG⟩
/-- raise C(x) -/
theorem s_rse1 {y : Str} {p p2 : Pos} {c : Nat} {x : Ev.X} {ea : Expr} (hc : C.hot = false → X.calm = true) (hu : C.hot = false → RsUse G xf X c) (hxf : C.hot = false → ∃ f, xf c = some f) (tk : Takes X Wx) (hg : Gl X y) (hm : X.mg y = some (.ref (G.cl c))) (ha : PA X [ea] (TS' G xf Wx C (.cons x .nil)))
    (hdb : (y == ("__debug__" : Str)) = false) (he : starEach [ea] X.env = (false, eval ea X.env) :: starEach [] X.env) : PS X (.Raise (some (.Call (.Name y p) [ea] [] p2)) none pos) (TSt G xf Wx C (.rse c (.so x))) := by
  by_cases hh : C.hot = true
  · refine ⟨fun pins s σ H D I ⟨m, e, w, r, q⟩ => ?_⟩
    rw [ex, calm_hot hh] at q
    exact q.elim
  · have hh : C.hot = false := by simpa using hh
    obtain ⟨f, hf⟩ := hxf hh
    obtain ⟨k, fI, fd, ps, h1, h2, h3, h4, h5, h6⟩ := (hu hh).one f hf
    refine ps_weak (ps_raise (hc hh) tk (pmk_oex h1 h2 h3 h4 h5 h6 .nil (passes_call takes_none5 fun _ _ _ _ z => z) hg hm ha hdb he rfl)) fun D σ H ⟨m, e, w, r, q⟩ => ?_
    rw [ex, calm_cold hh] at q
    have q : PostS G xf Wx m w H D (cat e ((nb e x (ev C x e) >>= fun d => pure [d]) >>= fun ds => match ds with | [d] => pure (.xc c (some d) e) | _ => stk) w) := by
      simp only [bnd_assoc, pure_bnd]
      exact q
    refine ⟨m, e, w, r, ?_⟩
    rw [evs]
    have e1 : (nb e x (ev C x e) >>= fun d => evs C .nil e >>= fun ds => pure (d :: ds)) = (nb e x (ev C x e) >>= fun d => pure [d]) := by
      refine congrArg (nb e x (ev C x e) >>= ·) (funext fun d => ?_)
      rw [evs, pure_bnd]
    rw [e1]
    refine q.step fun ds w1 vs m1 H1 x1 r1 y1 q1 => ?_
    match ds, y1, q1 with
    | [], _, q1 => exact PostS.cstk (e := e) (by exact q1)
    | _ :: _ :: _, _, q1 => exact PostS.cstk (e := e) (by exact q1)
    | [d], y1, q1 =>
      cases y1 with
      | @cons v _ vs' _ rv rn =>
        cases rn
        refine ⟨by simp, fun a ha => ⟨a, v, rfl, upd_same, fun dx hd hne => ⟨rfl, dx, [(f, v)], upd_same, ?_, ?_, ?_⟩⟩⟩
        · rw [upd_ne hne, upd_same]
        · rw [upd_ne hne] at hd; exact hd
        · have hd1 : H1 dx = none := by rw [upd_ne hne] at hd; exact hd
          have eq : upd (del (upd (upd (upd H1 a (exo a (G.cl c) none)) dx (exd dx [(f, v)])) a (exo a (G.cl c) (some dx))) a) dx (.xd [(f, v)]) = upd H1 dx (.xd [(f, v)]) := by
            funext b
            by_cases hb : b = dx
            · rw [hb, upd_same, upd_same]
            · rw [upd_ne hb, upd_ne hb]
              by_cases hba : b = a
              · rw [hba, del_same, ha]
              · rw [del_ne hba, upd_ne hba, upd_ne hb, upd_ne hba]
          rw [eq]
          obtain ⟨x2, r2⟩ := r1.new hd1 (.xd [(f, v)])
          exact q1 (some dx) (m1.add dx) σ _ x2 r2 ⟨f, v, hf, upd_same, .inl rfl, rv.ext x2⟩
/-- raise C() -/
theorem s_rse0 {y : Str} {p p2 : Pos} {c : Nat} (hc : C.hot = false → X.calm = true) (hb : BareC X.K (G.cl c)) (tk : Takes X Wx) (hg : Gl X y) (hm : X.mg y = some (.ref (G.cl c)))
    (hdb : (y == ("__debug__" : Str)) = false) : PS X (.Raise (some (.Call (.Name y p) [] [] p2)) none pos) (TSt G xf Wx C (.rse c .no)) := by
  by_cases hh : C.hot = true
  · refine ⟨fun pins s σ H D I ⟨m, e, w, r, q⟩ => ?_⟩
    rw [ex, calm_hot hh] at q
    exact q.elim
  · have hh : C.hot = false := by simpa using hh
    refine ps_weak (ps_raise (hc hh) tk (pmk_bare hb hg hm hdb)) fun D σ H ⟨m, e, w, r, q⟩ => ?_
    rw [ex, calm_cold hh] at q
    exact q none m σ H (Ext.refl _ _ _) r trivial
/-! ### try -/
theorem s_tri_as {x n : Str} {c i : Nat} {body suite : List Stmt} {b₀ : Stmt} {np pos' : Pos} {b s : Ss} (hst : X.stack = X.env :: X.outer) (hfr : X.env.frame = some X.env.locals) (hN : X.N.Nodup) (hi : X.N[i]? = some n) (hln : X.env.kindOf n = some .local)
    (hc : Names X x (.ref (G.cl c))) (tk : Takes X Wx) (z0 : C.hot = false → ∀ a c p, ¬ G.zp a c p) (hsub : ∀ c' r, C.sub c' c = some r → PySem.W.exmOne X.K (.ref (G.cl c')) (.ref (G.cl c)) = some r)
    (hb : ∀ (W : L2.WX) (pn : List (Addr × Obj)) (xe : Value → Shared → Prop), Takes (X.tr pn xe) W → PassesOwn (model X.prog X.w) X.A X.env xe → PSs (X.tr pn xe) body (TSs G xf W C b))
    (hsu : ∀ (a : Addr) (oe : Obj) (cls : Value) (d : Option Addr) (pn : List (Addr × Obj)), Zc cls d oe → (∃ vs, oe.data = .fields vs) → PSs (X.suite a ((a, oe) :: pn)) (b₀ :: suite) (TSs (G.put (fun a' c' p' => a' = a ∧ cls = .ref (G.cl c') ∧ p' = d) xf) xf (fun _ _ _ _ => False) { C with hot := true } s)) :
    PS X (.Try body [.ExceptHandler (some (.Name x np)) (some n) (b₀ :: suite) pos'] [] [] pos) (TSt G xf Wx C (.tri b (.cons c (some i) s .nil))) := by
  refine ps_weak (ps_try_as (tb := fun W => TSs G xf W C b) (ts := fun a cls d => TSs (G.put (fun a' c' p' => a' = a ∧ cls = .ref (G.cl c') ∧ p' = d) xf) xf (fun _ _ _ _ => False) { C with hot := true } s) hst hfr hN hi hln hc tk hb hsu) fun D σ H ⟨m, e, w, r, q⟩ => ?_
  by_cases hh : C.hot = true
  · rw [ex, calm_hot hh] at q
    exact q.elim
  · have hh : C.hot = false := by simpa using hh
    rw [ex, calm_cold hh] at q
    refine ⟨m, e, w, r, ?_⟩
    rw [bind_def] at q
    cases z : exs C b e w with
    | exc c x w' => rw [z] at q; exact q.elim
    | stk => rw [z] at q; exact q.elim
    | ok f w' =>
      rw [z] at q
      cases f with
      | nx e1 => exact q
      | bk e1 => exact q
      | ct e1 => exact q
      | rt d => exact q
      | xc c' x' e1 =>
        intro pn m' σ' H' xt r' y
        have q : PostS G xf Wx m w H D (exh C (.cons c (some i) s .nil) c' x' e1 w') := q
        rw [exh] at q
        cases zs : C.sub c' c with
        | none => rw [zs] at q; exact q.elim
        | some bb =>
          rw [zs] at q
          refine ⟨bb, hsub _ _ zs, fun hbb a ha => ?_, fun hbb => ?_⟩
          · subst hbb
            dsimp only at q
            by_cases hl : i < e1.length
            · rw [if_pos hl] at q
              have q := q.shift xt
              refine ⟨m', e1.set i (.exc c' x'), w', r'.toExc (z0 hh) hl ⟨rfl, rfl, rfl⟩ y.put, ?_⟩
              rw [bind_def] at q
              cases z2 : exs { C with hot := true } s (e1.set i (.exc c' x')) w' with
              | exc c x w' => rw [z2] at q; exact q.elim
              | stk => rw [z2] at q; exact q.elim
              | ok f2 w2 =>
                rw [z2] at q
                cases f2 with
                | nx e2 => exact fun m2 σ2 H2 x2 r2 => q m2 _ H2 x2 (r2.ofExc i)
                | bk e2 => exact fun m2 σ2 H2 x2 r2 => q m2 _ H2 x2 (r2.ofExc i)
                | ct e2 => exact fun m2 σ2 H2 x2 r2 => q m2 _ H2 x2 (r2.ofExc i)
                | rt d => exact fun m2 v H2 x2 r2 y2 => q m2 v H2 x2 r2.outG y2.outG
                | xc c x e2 => exact q.elim
            · rw [if_neg hl] at q; exact q.elim
          · subst hbb
            dsimp only at q
            rw [exh] at q
            exact q pn m' σ' H' xt r' y
/-- several clauses, none with a name -/
def hsL (G : GG) (xf : Nat → Option Str) (C : Cfg) : Hs → List (Value × (Addr → Value → Option Addr → TS))
  | .nil => []
  | .cons c _ s r => (.ref (G.cl c), fun _ _ _ => TSs G xf (fun _ _ _ _ => False) { C with hot := true } s) :: hsL G xf C r
def noNames : Hs → Bool
  | .nil => true
  | .cons _ i _ r => i.isNone && noNames r
def hsSub (K : PySem.W.Frag) (G : GG) (C : Cfg) : Hs → Prop
  | .nil => True
  | .cons c _ _ r => (∀ c' b, C.sub c' c = some b → PySem.W.exmOne K (.ref (G.cl c')) (.ref (G.cl c)) = some b) ∧ hsSub K G C r
theorem many_post (z0 : True) {D : Ends} {c' : Nat} {x' : Option Ev.D} {e1 : Env} {pn : Option Addr} : ∀ (hs : Hs), noNames hs = true → hsSub X.K G C hs → ∀ (w' : Wd) (m : Fm) (w : Wd) (H : Hp), PostS G xf Wx m w H D (exh C hs c' x' e1 w') → ∀ (m' : Fm) (σ' : L2.St) (H' : Hp), Ext m w H m' w' H' → Rel G m' e1 w' σ' H' → XAt G xf m' w' H' c' x' pn → wMany X.K Wx D (hsL G xf C hs) (.ref (G.cl c')) pn σ' H'
  | .nil, _, _, w', m, w, H, q, m', σ', H', xt, r', y => by
    rw [exh] at q
    exact q pn m' σ' H' xt r' y
  | .cons c i s r, hn, hsub, w', m, w, H, q, m', σ', H', xt, r', y => by
    rw [noNames, Bool.and_eq_true, Option.isNone_iff_eq_none] at hn
    obtain ⟨rfl, hn⟩ := hn
    rw [exh] at q
    cases zs : C.sub c' c with
    | none => rw [zs] at q; exact q.elim
    | some bb =>
      rw [zs] at q
      refine ⟨bb, hsub.1 _ _ zs, fun hbb a ha => ?_, fun hbb => ?_⟩
      · subst hbb
        dsimp only at q
        have q := q.shift xt
        refine ⟨m', e1, w', r', ?_⟩
        rw [bind_def] at q
        cases z2 : exs { C with hot := true } s e1 w' with
        | exc c x w' => rw [z2] at q; exact q.elim
        | stk => rw [z2] at q; exact q.elim
        | ok f2 w2 =>
          rw [z2] at q
          cases f2 with
          | nx e2 => exact q
          | bk e2 => exact q
          | ct e2 => exact q
          | rt d => exact q
          | xc c x e2 => exact q.elim
      · subst hbb
        dsimp only at q
        exact many_post z0 r hn hsub.2 w' m w H q m' σ' H' xt r' y
theorem s_tri_many {body : List Stmt} {h₀ : ExceptHandler} {hds : List ExceptHandler} {b : Ss} {hs : Hs} (hst : X.stack = X.env :: X.outer) (hfr : X.env.frame = some X.env.locals) (tk : Takes X Wx) (hn : noNames hs = true) (hsub : hsSub X.K G C hs)
    (hb : ∀ (W : L2.WX) (pn : List (Addr × Obj)) (xe : Value → Shared → Prop), Takes (X.tr pn xe) W → PassesOwn (model X.prog X.w) X.A X.env xe → PSs (X.tr pn xe) body (TSs G xf W C b))
    (hh : HdsOk X (h₀ :: hds) (hsL G xf C hs)) : PS X (.Try body (h₀ :: hds) [] [] pos) (TSt G xf Wx C (.tri b hs)) := by
  refine ps_weak (ps_try_many (tb := fun W => TSs G xf W C b) hst hfr tk hb hh) fun D σ H ⟨m, e, w, r, q⟩ => ?_
  by_cases hot : C.hot = true
  · rw [ex, calm_hot hot] at q
    exact q.elim
  · have hot : C.hot = false := by simpa using hot
    rw [ex, calm_cold hot] at q
    refine ⟨m, e, w, r, ?_⟩
    rw [bind_def] at q
    cases z : exs C b e w with
    | exc c x w' => rw [z] at q; exact q.elim
    | stk => rw [z] at q; exact q.elim
    | ok f w' =>
      rw [z] at q
      cases f with
      | nx e1 => exact q
      | bk e1 => exact q
      | ct e1 => exact q
      | rt d => exact q
      | xc c' x' e1 =>
        intro pn m' σ' H' xt r' y
        exact many_post trivial hs hn hsub w' m w H q m' σ' H' xt r' y
end
end Ev

set_option maxRecDepth 100000
set_option maxHeartbeats 4000000
/-! Which Python a term stands for: a test, and that it is right. -/
namespace Ev
open PySem PySem.Spec PyProof.Rows L2

structure Ck where
  N : List Str
  sc : Scope
  /-- a name whose cell is made here -/
  fnc : Str → Bool
  fnT : List (Str × Nat)
  clT : List (Str × Nat)
  glT : List (Str × Nat)
  bl : List Str
  /-- within an except suite -/
  hot : Bool
  fds : List Str
  exT : List (Str × (Nat × Bool))
  /-- repr may be asked -/
  rp : Bool
def Bo.op : Bo → Operator
  | .add => .Add | .sub => .Sub | .mul => .Mult | .fdv => .FloorDiv | .mod => .Mod | .pow => .Pow
section
variable (K : Ck)
def isG (x : Str) : Bool := decide (K.sc.names.lookup x = some .globalImplicit) && !(x == ("__debug__" : Str))
def visB (x : Str) : Bool := (match K.sc.names.lookup x with | some .local => true | some .cell => true | some .free => true | _ => false) && !(x == ("__debug__" : Str)) && !(x == ("__classdict__" : Str))
def locB (x : Str) : Bool := match K.sc.names.lookup x with | some .local => true | some .cell => K.fnc x | _ => false
def atN (i : Nat) (x : Str) : Bool := decide (K.N[i]? = some x)
def isB (x : Str) : Bool := isG K x && K.bl.contains x
def noSt : Expr → Bool
  | .Starred _ _ => false | _ => true
def noSl : Expr → Bool
  | .Slice _ _ _ _ => false | _ => true
def noSet : Expr → Bool
  | .Set _ _ _ => false | _ => true
/-- nothing of super -/
def plA : Expr → Bool
  | .Call _ _ _ _ => false | _ => true
def tyOf (x : Str) : Option Ty := if isG K x then (match K.clT.lookup x with
    | some c => some (.cls c)
    | none => if K.bl.contains x then (if x == ("int" : Str) then some .int else if x == ("bool" : Str) then some .bool else if x == ("str" : Str) then some .str else if x == ("tuple" : Str) then some .tuple else if x == ("list" : Str) then some .list else if x == ("dict" : Str) then some .dict else none) else none)
  else none
def kTys : List Ty → List Expr → Bool
  | [], [] => true
  | t :: ts, .Name x _ :: es => decide (tyOf K x = some t) && kTys ts es
  | _, _ => false
mutual
def kTg : Tg → Expr → Bool
  | .n i, e => (match e with | .Name x _ => atN K i x && locB K x | _ => false)
  | .t ts, e => (match e with | .Tuple es _ _ => kTgs ts es | _ => false)
def kTgs : List Tg → List Expr → Bool
  | [], es => es.isEmpty
  | t :: ts, es => (match es with | e :: es => noSt e && kTg t e && kTgs ts es | _ => false)
end
end
/-- a comprehension's block -/
def ownB (N : List Str) (vs : List Nat) : List (Str × Nat) := vs.filterMap fun i => N[i]?.map fun x => (x, i)
def Ck.blk (K : Ck) (scope : Scope) : Ck := { K with sc := relS scope K.sc, fnc := fun x => scope.names.lookup x == some .cell }
mutual
def kE : X → Ck → Expr → Bool
  | .k d, _, e => (match e with | .Constant c _ _ => litD c d | _ => false)
  | .v i, K, e => (match e with | .Name x _ => atN K i x && visB K x | _ => false)
  | .g j, K, e => (match e with | .Name x _ => isG K x && decide (K.glT.lookup x = some j) | _ => false)
  | .tup xs, K, e => (match e with | .Tuple es _ _ => kEs xs K es | _ => false)
  | .lst xs, K, e => (match e with | .List es _ => kEs xs K es | _ => false)
  | .bin o a b, K, e => (match e with | .BinOp ea p eb _ => decide (p = o.op) && kE a K ea && kE b K eb | _ => false)
  | .neg a, K, e => (match e with | .UnaryOp .USub ea _ => kE a K ea | _ => false)
  | .not a, K, e => (match e with | .UnaryOp .Not ea _ => kE a K ea | _ => false)
  | .cmp o a b, K, e => (match e with | .Compare ea [p] [eb] _ => decide (p = o.op) && kE a K ea && kE b K eb && noSet eb | _ => false)
  | .cmp2 o o' a b c, K, e => (match e with | .Compare ea [p, p'] [eb, ec] _ => decide (p = o.op) && decide (p' = o'.op) && kE a K ea && kE b K eb && kE c K ec && noSet ec | _ => false)
  | .and xs, K, e => (match e with | .BoolOp .And es _ => kBs xs K es | _ => false)
  | .or xs, K, e => (match e with | .BoolOp .Or es _ => kBs xs K es | _ => false)
  | .ite c a b, K, e => (match e with | .IfExp ec ea eb _ => kE c K ec && kE a K ea && kE b K eb | _ => false)
  | .idx a b, K, e => (match e with | .Subscript ea eb _ => kE a K ea && kE b K eb && noSl eb | _ => false)
  | .sli a lo hi, K, e => (match e with | .Subscript ea (.Slice l h none _) _ => kE a K ea && kO lo K l && kO hi K h | _ => false)
  | .rev a, K, e => (match e with | .Subscript ea (.Slice none none (some (.UnaryOp .USub (.Constant (.int 1) _ _) _)) _) _ => kE a K ea | _ => false)
  | .fld a f, K, e => (match e with | .Attribute ea g _ => decide (f = g) && K.fds.contains f && plA ea && kE a K ea | _ => false)
  | .call j xs, K, e => (match e with | .Call (.Name x _) (a :: as) [] _ => isG K x && decide (K.fnT.lookup x = some j) && kEs xs K (a :: as) | _ => false)
  | .cav i xs, K, e => (match e with | .Call (.Name x _) (a :: as) [] _ => atN K i x && visB K x && kEs xs K (a :: as) | _ => false)
  | .mk c xs, K, e => (match e with | .Call (.Name x _) (a :: as) [] _ => isG K x && decide (K.clT.lookup x = some c) && kEs xs K (a :: as) | _ => false)
  | .b1 b a, K, e => (match e with | .Call (.Name x _) [ea] [] _ => (match b.at with | some (n, _) => decide (x = Str.ofString n) && isB K x | none => false) && (b.hot || !K.hot) && noSt ea && kE a K ea | _ => false)
  | .max2 a b, K, e => (match e with | .Call (.Name x _) [ea, eb] [] _ => decide (x = ("max" : Str)) && isB K x && noSt ea && noSt eb && kE a K ea && kE b K eb | _ => false)
  | .min2 a b, K, e => (match e with | .Call (.Name x _) [ea, eb] [] _ => decide (x = ("min" : Str)) && isB K x && noSt ea && noSt eb && kE a K ea && kE b K eb | _ => false)
  | .isa a ts, K, e => (match e with | .Call (.Name x _) [ea, et] [] _ => decide (x = ("isinstance" : Str)) && isB K x && noSt ea && kE a K ea && (match et with | .Name y _ => (match ts with | [t] => decide (tyOf K y = some t) | _ => false) | .Tuple es _ _ => kTys K ts es && decide (ts.length ≤ 10) && !ts.isEmpty | _ => false) | _ => false)
  | .lc x g it c vs, K, e => (match e with | .ListComp elt [⟨tg, iter, ifs, 0⟩] scope _ => blkC K.N K.sc scope (ownB K.N vs) && decide ((ownB K.N vs).map (·.2) = vs) && (tgSl g).all (fun i => vs.contains i) && noSet iter && kI it K tg iter && kTg (K.blk scope) g tg && kC c (K.blk scope) ifs && kE x (K.blk scope) elt | _ => false)
  | .lenset a, K, e => (match e with | .Call (.Name x _) [.Call (.Name y _) [ea] [] _] [] _ => decide (x = ("len" : Str)) && decide (y = ("set" : Str)) && isB K x && isB K y && noSt ea && kE a K ea | _ => false)
  | .srtset a, K, e => (match e with | .Call (.Name x _) [.Call (.Name y _) [ea] [] _] [] _ => decide (x = ("sorted" : Str)) && decide (y = ("set" : Str)) && isB K x && isB K y && noSt ea && kE a K ea | _ => false)
  | .rep a, K, e => (match e with | .Call (.Name x _) [ea] [] _ => K.rp && decide (x = ("repr" : Str)) && isB K x && noSt ea && kE a K ea | _ => false)
  | .lidx a b, K, e => (match e with | .Call (.Attribute ed m apos) [eb] [] cpos => decide (m = ("index" : Str)) && plB ed && noSt eb && ((apos.endLine == cpos.line) || noNm ed) && kE a K ed && kE b K eb | _ => false)
  | .dict0, _, e => (match e with | .Dict [] [] _ => true | _ => false)
  | .dic1 a b, K, e => (match e with | .Dict [some ea] [eb] _ => kE a K ea && kE b K eb | _ => false)
  | .get d a b, K, e => (match e with | .Call (.Attribute ed m apos) [ea, eb] [] cpos => decide (m = ("get" : Str)) && plA ed && noSt ea && noSt eb && (apos.endLine == cpos.line) && kE d K ed && kE a K ea && kE b K eb | _ => false)
  | .lrng a, K, e => (match e with | .Call (.Name x _) [.Call (.Name y _) [ea] [] _] [] _ => decide (x = ("list" : Str)) && decide (y = ("range" : Str)) && isB K x && isB K y && noSt ea && kE a K ea | _ => false)
  | .bad, _, _ => true
def kEs : Xs → Ck → List Expr → Bool
  | .nil, _, es => es.isEmpty
  | .cons x r, K, es => (match es with | e :: es => noSt e && kE x K e && kEs r K es | _ => false)
def kBs : Xs → Ck → List Expr → Bool
  | .nil, _, _ => false
  | .cons x .nil, K, es => (match es with | [e] => kE x K e | _ => false)
  | .cons x (.cons y r), K, es => (match es with | e :: e' :: es => kE x K e && kBs (.cons y r) K (e' :: es) | _ => false)
def kO : Xo → Ck → Option Expr → Bool
  | .no, _, e => e.isNone
  | .so x, K, e => (match e with | some e => kE x K e | none => false)
def kC : Xo → Ck → List Expr → Bool
  | .no, _, es => es.isEmpty
  | .so x, K, es => (match es with | [e] => kE x K e | _ => false)
def kI : It → Ck → Expr → Expr → Bool
  | .x a, K, _, e => kE a K e
  | .rng xs, K, _, e => (match e with
      | .Call (.Name x _) [ea] [] _ => decide (x = ("range" : Str)) && isB K x && kEs xs K [ea]
      | .Call (.Name x _) [ea, eb] [] _ => decide (x = ("range" : Str)) && isB K x && kEs xs K [ea, eb]
      | _ => false)
  | .enum xs, K, tg, e => (match tg, e with | .Tuple _ _ _, .Call (.Name x _) [ea] [] _ => decide (x = ("enumerate" : Str)) && isB K x && kEs xs K [ea] | _, _ => false)
  | .zip xs, K, tg, e => (match tg, e with | .Tuple _ _ _, .Call (.Name x _) [ea, eb] [] _ => decide (x = ("zip" : Str)) && isB K x && kEs xs K [ea, eb] | _, _ => false)
end
end Ev

set_option maxRecDepth 100000
set_option maxHeartbeats 8000000
namespace Ev
open PySem PySem.Spec PyProof.Rows L2

/-- what a context gives: tables, room, classes -/
structure Gd (G : GG) (xf : Nat → Option Str) (C : Cfg) (K : Ck) (X : Cx) : Prop where
  hK : X.K = G.K
  un : X.A.units + 200 < cLine
  calm : C.hot = false → X.calm = true
  calm2 : K.hot = false → X.calm = true
  hot2 : K.hot = false → C.hot = false
  fns : ∀ x j, K.fnT.lookup x = some j → X.mg x = some (.ref (G.fa j)) ∧ (C.hot = false → FnUse G xf X j (C.cf j))
  fall : C.hot = false → ∀ j, j < C.nf → FnUse G xf X j (C.cf j)
  cls : ∀ x c, K.clT.lookup x = some c → X.mg x = some (.ref (G.cl c)) ∧ c < C.nc ∧ (C.hot = false → MkUse G xf X c (C.cm c))
  gls : ∀ x j, K.glT.lookup x = some j → ∃ v u d, X.mg x = some u ∧ RelV v u ∧ C.gs[j]? = some d ∧ ∀ F rho n H, R G F rho n H v d
  blt : ∀ n ∈ K.bl, X.mg n = none
  fld : ∀ f ∈ K.fds, ∀ c, c < C.nc → Cls X.K (G.cl c) ∧ NoAttr X.K (G.cl c) f
  eqs : ∀ c j, C.hot = false → C.ce c = some j → EqUse G X c j ∧ FnUse G xf X j (C.cf j)
  isa : IsaUse G X C.nc
  exs : ∀ x c b, K.exT.lookup x = some (c, b) → X.mg x = some (.ref (G.cl c)) ∧ (b = true → ∃ f, xf c = some f) ∧ (C.hot = false → RsUse G xf X c) ∧ (b = false → BareC X.K (G.cl c))
  sub : ∀ c' c b, C.sub c' c = some b → PySem.W.exmOne X.K (.ref (G.cl c')) (.ref (G.cl c)) = some b
  zp0 : C.hot = false → ∀ a c p, ¬ G.zp a c p
  pins : Pins G C X
  xfe : ∀ c, C.xf c = xf c
  xfc : ∀ c f, xf c = some f → XfC X.K (G.cl c) ∧ PySem.W.findIn X.K (.ref (G.cl c)) f = some none
  rpr : K.rp = true → X.A.guards = some []
structure Sy (K : Ck) (X : Cx) : Prop where
  N : X.N = K.N
  nd : K.N.Nodup
  sc : X.env.scope = K.sc
  fnc : ∀ x, K.fnc x = true → X.fn x = true
section
variable {G : GG} {xf : Nat → Option Str} {Wx : L2.WX} {C : Cfg} {X : Cx} {K : Ck} {pos : Pos}
theorem Gd.blk (g : Gd G xf C K X) (hh : C.hot = false) {s : Shared} {H : Hp} {scope : Scope} {ce : PySem.Env} {fp : List Addr} : Gd G xf C (K.blk scope) (X.blk s H scope ce fp) :=
  ⟨g.hK, g.un, g.calm, g.calm2, g.hot2, fun x j e => ⟨(g.fns x j e).1, fun h => ⟨((g.fns x j e).2 h).ok⟩⟩, fun h j e => ⟨(g.fall h j e).ok⟩, fun x c e => ⟨(g.cls x c e).1, (g.cls x c e).2.1, fun h => ⟨((g.cls x c e).2.2 h).ok⟩⟩, g.gls, g.blt, g.fld,
    fun c j h e => ⟨⟨(g.eqs c j h e).1.find, (g.eqs c j h e).1.fn, (g.eqs c j h e).1.tup⟩, ⟨(g.eqs c j h e).2.ok⟩⟩, ⟨g.isa.ins, g.isa.bc, g.isa.cb, g.isa.cc⟩,
    fun x c b e => ⟨(g.exs x c b e).1, (g.exs x c b e).2.1, fun h => ⟨((g.exs x c b e).2.2.1 h).one⟩, (g.exs x c b e).2.2.2⟩, g.sub, g.zp0, fun a c p z => absurd z (g.zp0 hh a c p), g.xfe, g.xfc, g.rpr⟩
/-- a try's body -/
theorem Gd.tr (g : Gd G xf C K X) (hh : C.hot = false) {pn : List (Addr × Obj)} {xe : Value → Shared → Prop} : Gd G xf C K (X.tr pn xe) :=
  ⟨g.hK, g.un, g.calm, g.calm2, g.hot2, fun x j e => ⟨(g.fns x j e).1, fun h => ⟨((g.fns x j e).2 h).ok⟩⟩, fun h j e => ⟨(g.fall h j e).ok⟩, fun x c e => ⟨(g.cls x c e).1, (g.cls x c e).2.1, fun h => ⟨((g.cls x c e).2.2 h).ok⟩⟩, g.gls, g.blt, g.fld,
    fun c j h e => ⟨⟨(g.eqs c j h e).1.find, (g.eqs c j h e).1.fn, (g.eqs c j h e).1.tup⟩, ⟨(g.eqs c j h e).2.ok⟩⟩, ⟨g.isa.ins, g.isa.bc, g.isa.cb, g.isa.cc⟩,
    fun x c b e => ⟨(g.exs x c b e).1, (g.exs x c b e).2.1, fun h => ⟨((g.exs x c b e).2.2.1 h).one⟩, (g.exs x c b e).2.2.2⟩, g.sub, g.zp0, fun a c p z => absurd z (g.zp0 hh a c p), g.xfe, g.xfc, g.rpr⟩
/-- within an except clause -/
def Ck.hotK (K : Ck) : Ck := { K with hot := true }
theorem no_hot {P : Prop} (h : true = false) : P := nomatch h
theorem Gd.suite (g : Gd G xf C K X) {zp : Addr → Nat → Option Addr → Prop} {a : Addr} {oe : Obj} {pn : List (Addr × Obj)} (hz : ∀ a' c p, zp a' c p → (∃ oe', (a', oe') ∈ (a, oe) :: pn ∧ Zc (.ref (G.cl c)) p oe' ∧ ∃ vs, oe'.data = .fields vs)) :
    Gd (G.put zp xf) xf { C with hot := true } K.hotK (X.suite a ((a, oe) :: pn)) :=
  ⟨g.hK, g.un, no_hot, no_hot, no_hot, fun x j e => ⟨(g.fns x j e).1, no_hot⟩, no_hot, fun x c e => ⟨(g.cls x c e).1, (g.cls x c e).2.1, no_hot⟩,
    fun x j e => by obtain ⟨v, u, d, h1, h2, h3, h4⟩ := g.gls x j e; exact ⟨v, u, d, h1, h2, h3, fun F rho n H => (h4 F rho n H).inG⟩, g.blt, g.fld, fun c j h => no_hot h, ⟨g.isa.ins, g.isa.bc, g.isa.cb, g.isa.cc⟩,
    fun x c b e => ⟨(g.exs x c b e).1, (g.exs x c b e).2.1, no_hot, (g.exs x c b e).2.2.2⟩, g.sub, no_hot, fun a' c p z => ⟨(g.xfe c).symm, hz a' c p z, fun f hf => g.xfc c f (by rw [← g.xfe c]; exact hf)⟩, g.xfe, g.xfc, g.rpr⟩
theorem Gd.suite0 (g : Gd G xf C K X) (hh : C.hot = false) {a : Addr} {oe : Obj} {pn : List (Addr × Obj)} : Gd G xf { C with hot := true } K.hotK (X.suite a ((a, oe) :: pn)) :=
  ⟨g.hK, g.un, no_hot, no_hot, no_hot, fun x j e => ⟨(g.fns x j e).1, no_hot⟩, no_hot, fun x c e => ⟨(g.cls x c e).1, (g.cls x c e).2.1, no_hot⟩,
    g.gls, g.blt, g.fld, fun c j h => no_hot h, ⟨g.isa.ins, g.isa.bc, g.isa.cb, g.isa.cc⟩,
    fun x c b e => ⟨(g.exs x c b e).1, (g.exs x c b e).2.1, no_hot, (g.exs x c b e).2.2.2⟩, g.sub, no_hot, fun a c p z => absurd z (g.zp0 hh a c p), g.xfe, g.xfc, g.rpr⟩
theorem Sy.tr (y : Sy K X) {pn : List (Addr × Obj)} {xe : Value → Shared → Prop} : Sy K (X.tr pn xe) := ⟨y.N, y.nd, y.sc, y.fnc⟩
theorem Sy.suite (y : Sy K X) {a : Addr} {pn : List (Addr × Obj)} : Sy K.hotK (X.suite a pn) := ⟨y.N, y.nd, y.sc, y.fnc⟩
theorem Sy.blk (y : Sy K X) {s : Shared} {H : Hp} {scope : Scope} {Ca : Addr} {cl : List (Str × Addr)} {fp : List Addr} : Sy (K.blk scope) (X.blk s H scope (compEnvC scope cl Ca X.env) fp) := by
  refine ⟨y.N, y.nd, ?_, fun x h => h⟩
  show relabel scope X.env = relS scope K.sc
  rw [← y.sc]
  rfl
theorem gl_of (y : Sy K X) {x : Str} (h : isG K x = true) : Gl X x ∧ (x == ("__debug__" : Str)) = false := by
  unfold isG at h
  rw [Bool.and_eq_true, decide_eq_true_eq] at h
  refine ⟨?_, by simpa using h.2⟩
  show X.env.scope.names.lookup x = _
  rw [y.sc]
  exact h.1
theorem vis_of (y : Sy K X) {x : Str} (h : visB K x = true) : Vis X.env.scope x ∧ (x == ("__debug__" : Str)) = false ∧ (x == ("__classdict__" : Str)) = false := by
  unfold visB at h
  rw [Bool.and_eq_true, Bool.and_eq_true] at h
  obtain ⟨⟨h1, h2⟩, h3⟩ := h
  refine ⟨?_, by simpa using h2, by simpa using h3⟩
  unfold Vis
  rw [y.sc]
  split at h1 <;> first | exact .inl (by assumption) | exact .inr (.inl (by assumption)) | exact .inr (.inr (by assumption)) | cases h1
theorem loc_of (y : Sy K X) {x : Str} (h : locB K x = true) : L2.Loc X.env.scope x ∧ (X.fn x = true ∨ X.env.scope.names.lookup x = some .local) := by
  unfold locB at h
  unfold L2.Loc
  rw [y.sc]
  split at h
  · exact ⟨.inl (by assumption), .inr (by assumption)⟩
  · exact ⟨.inr (by assumption), .inl (y.fnc x h)⟩
  · cases h
theorem at_of (y : Sy K X) {i : Nat} {x : Str} (h : atN K i x = true) : X.N[i]? = some x := by
  unfold atN at h
  rw [y.N]
  exact of_decide_eq_true h
theorem star_one {ea : Expr} {es : List Expr} {env : PySem.Env} (h : noSt ea = true) : starEach (ea :: es) env = (false, eval ea env) :: starEach es env := by
  cases ea <;> first | rfl | cases h
theorem asg_one {ea : Expr} {es : List Expr} {env : PySem.Env} (h : noSt ea = true) : assignEach (ea :: es) env = (false, assign ea env) :: assignEach es env := by
  cases ea <;> first | rfl | cases h
theorem bl_of (y : Sy K X) (g : Gd G xf C K X) {x : Str} (h : isB K x = true) : Gl X x ∧ X.mg x = none := by
  unfold isB at h
  rw [Bool.and_eq_true] at h
  exact ⟨(gl_of y h.1).1, g.blt x (by simpa using h.2)⟩
theorem plain_of {ea : Expr} {f : Str} {env : PySem.Env} (h : plA ea = true) : attributeBase ea f env (eval ea env) = eval ea env := by
  cases ea <;> first | rfl | cases h
theorem mark_of {p : CmpOp} {e : Expr} (h : noSet e = true) : behindInMarks p e = false := by
  cases e <;> first | rfl | cases h
theorem pix_of {e : Expr} (h : noSl e = true) : PlainIx e := by
  cases e <;> first | (intro o i; rfl) | cases h
theorem nost_all : ∀ (xs : Xs) (es : List Expr), kEs xs K es = true → es.all noSt = true
  | .nil, es, h => by
    unfold kEs at h
    cases es with
    | nil => rfl
    | cons e es => cases h
  | .cons x r, es, h => by
    unfold kEs at h
    split at h
    · simp only [Bool.and_eq_true] at h
      rw [List.all_cons, h.1.1, nost_all r _ h.2]
      rfl
    · cases h
theorem back_one {pos : Pos} {env : PySem.Env} : ∀ es : List Expr, es.all noSt = true → (backTo pos (starEach es env)).any (·.1) = false
  | [], _ => rfl
  | e :: es, h => by
    rw [List.all_cons, Bool.and_eq_true] at h
    have ih := back_one (pos := pos) (env := env) es h.2
    rw [star_one h.1]
    unfold backTo at ih ⊢
    rw [List.map_cons, List.any_cons, ih]
    rfl
theorem ty_of (y : Sy K X) (g : Gd G xf C K X) {x : Str} {t : Ty} {p : Pos} (h : tyOf K x = some t) : PE X (.Name x p) (tC (t.v G)) ∧ ∀ c, t = .cls c → c < C.nc := by
  unfold tyOf at h
  split at h
  · rename_i hg
    obtain ⟨h1, h2⟩ := gl_of y hg
    cases z : K.clT.lookup x with
    | some c =>
      rw [z] at h
      cases h
      obtain ⟨m1, m2, _⟩ := g.cls x c z
      exact ⟨pe_glob h1 m1 rfl h2, fun c' e => by cases e; exact m2⟩
    | none =>
      rw [z] at h
      dsimp only at h
      split at h
      · rename_i hb
        have hm := g.blt x (by simpa using hb)
        split at h
        · rename_i e; have e := eq_of_beq e; subst e; cases h; exact ⟨pe_bltn h1 hm (v := .ty "int") (u := .type "int") (by decide +kernel) rfl, fun c e => nomatch e⟩
        · split at h
          · rename_i e; have e := eq_of_beq e; subst e; cases h; exact ⟨pe_bltn h1 hm (v := .ty "bool") (u := .type "bool") (by decide +kernel) rfl, fun c e => nomatch e⟩
          · split at h
            · rename_i e; have e := eq_of_beq e; subst e; cases h; exact ⟨pe_bltn h1 hm (v := .ty "str") (u := .type "str") (by decide +kernel) rfl, fun c e => nomatch e⟩
            · split at h
              · rename_i e; have e := eq_of_beq e; subst e; cases h; exact ⟨pe_bltn h1 hm (v := .ty "tuple") (u := .type "tuple") (by decide +kernel) rfl, fun c e => nomatch e⟩
              · split at h
                · rename_i e; have e := eq_of_beq e; subst e; cases h; exact ⟨pe_bltn h1 hm (v := .ty "list") (u := .type "list") (by decide +kernel) rfl, fun c e => nomatch e⟩
                · split at h
                  · rename_i e; have e := eq_of_beq e; subst e; cases h; exact ⟨pe_bltn h1 hm (v := .ty "dict") (u := .type "dict") (by decide +kernel) rfl, fun c e => nomatch e⟩
                  · cases h
      · cases h
  · cases h
theorem tys_of (y : Sy K X) (g : Gd G xf C K X) : ∀ (ts : List Ty) (es : List Expr), kTys K ts es = true → PA X es (tTys G ts) ∧ ∀ t ∈ ts, ∀ c, t = .cls c → c < C.nc
  | [], es, h => by
    cases es with
    | nil => exact ⟨pa_nil, fun t h => nomatch h⟩
    | cons e es => cases h
  | t :: ts, es, h => by
    cases es with
    | nil => cases h
    | cons e es =>
      cases e <;> first | cases h | skip
      unfold kTys at h
      rw [Bool.and_eq_true, decide_eq_true_eq] at h
      obtain ⟨h1, h2⟩ := ty_of y g (p := ‹Pos›) h.1
      obtain ⟨h3, h4⟩ := tys_of y g ts es h.2
      exact ⟨pa_cons h1 h3 rfl, fun t' ht c e => by
        rcases List.mem_cons.mp ht with rfl | ht
        · exact h2 c e
        · exact h4 t' ht c e⟩
mutual
theorem sTg (hK : X.K = G.K) (hc : X.calm = true) (y : Sy K X) : ∀ (t : Tg) (e : Expr), kTg K t e = true → PG X e (TGt G t)
  | .n i, e, h => by
    unfold kTg at h
    split at h
    · rw [Bool.and_eq_true] at h
      obtain ⟨h1, h2⟩ := loc_of y h.2
      exact g_n (by rw [y.N]; exact y.nd) (at_of y h.1) h1 h2
    · cases h
  | .t ts, e, h => by
    unfold kTg at h
    split at h
    · obtain ⟨h1, h2, h3⟩ := sTgs hK hc y ts _ h
      exact g_t hK hc h1 h2 h3
    · cases h
theorem sTgs (hK : X.K = G.K) (hc : X.calm = true) (y : Sy K X) : ∀ (ts : List Tg) (es : List Expr), kTgs K ts es = true → PGs X es (TGts G ts) ∧ (assignEach es X.env).length = ts.length ∧ (assignEach es X.env).findIdx? (·.1) = none
  | [], es, h => by
    unfold kTgs at h
    cases es with
    | nil => exact ⟨gs_nil, rfl, rfl⟩
    | cons e es => cases h
  | t :: ts, es, h => by
    unfold kTgs at h
    split at h
    · simp only [Bool.and_eq_true] at h
      obtain ⟨h1, h2, h3⟩ := sTgs hK hc y ts _ h.2
      have e1 := asg_one (es := ‹List Expr›) (env := X.env) h.1.1
      refine ⟨gs_cons (sTg hK hc y t _ h.1.2) h1 (by rw [e1]; rfl), by rw [e1, List.length_cons, h2]; rfl, ?_⟩
      rw [e1, List.findIdx?_cons, h3]
      rfl
    · cases h
end
theorem bin_of {o : Bo} {ea eb : Expr} {a b : Ev.X} {p : Pos} (hK : X.K = G.K) (ha : PE X ea (TB G xf Wx C a)) (hb : PE X eb (TB G xf Wx C b)) : PE X (.BinOp ea o.op eb p) (TB G xf Wx C (.bin o a b)) := by
  cases o
  · exact c_add hK ha hb
  · exact c_sub ha hb
  · exact c_mul hK ha hb
  · exact c_fdv ha hb
  · exact c_mod ha hb
  · exact c_pow ha hb
end
end Ev

set_option maxRecDepth 100000
set_option maxHeartbeats 8000000
namespace Ev
open PySem PySem.Spec PyProof.Rows L2

section
variable {G : GG} {xf : Nat → Option Str} {C : Cfg}
mutual
theorem sE : ∀ (x : X) (K : Ck) (Xc : Cx) (Wx : L2.WX) (e : Expr), Gd G xf C K Xc → Sy K Xc → Takes Xc Wx → kE x K e = true → PE Xc e (TB G xf Wx C x) ∧ PT Xc e (TT' G xf Wx C x)
  | .k d, K, X, Wx, e, g, y, tk, h => by
    unfold kE at h
    split at h
    · exact ⟨c_lit h, t_of (c_lit h) fun _ => rfl⟩
    · cases h
  | .v i, K, X, Wx, e, g, y, tk, h => by
    unfold kE at h
    split at h
    · rw [Bool.and_eq_true] at h
      obtain ⟨h1, h2, h3⟩ := vis_of y h.2
      exact ⟨c_var (at_of y h.1) h1 h2 h3, t_of (c_var (at_of y h.1) h1 h2 h3) fun _ => rfl⟩
    · cases h
  | .g j, K, X, Wx, e, g, y, tk, h => by
    unfold kE at h
    split at h
    · rw [Bool.and_eq_true, decide_eq_true_eq] at h
      obtain ⟨h1, h2⟩ := gl_of y h.1
      obtain ⟨v, u, d, m1, m2, m3, m4⟩ := g.gls _ _ h.2
      exact ⟨c_glob h1 m1 m2 m3 m4 h2, t_of (c_glob h1 m1 m2 m3 m4 h2) fun _ => rfl⟩
    · cases h
  | .tup xs, K, X, Wx, e, g, y, tk, h => by
    unfold kE at h
    split at h
    · exact ⟨c_tup (sEs xs K X Wx _ g y tk h).1, t_of (c_tup (sEs xs K X Wx _ g y tk h).1) fun _ => rfl⟩
    · cases h
  | .lst xs, K, X, Wx, e, g, y, tk, h => by
    unfold kE at h
    split at h
    · exact ⟨c_lst (sEs xs K X Wx _ g y tk h).1, t_of (c_lst (sEs xs K X Wx _ g y tk h).1) fun _ => rfl⟩
    · cases h
  | .bin o a b, K, X, Wx, e, g, y, tk, h => by
    unfold kE at h
    split at h
    · simp only [Bool.and_eq_true, decide_eq_true_eq] at h
      obtain ⟨⟨rfl, h2⟩, h3⟩ := h
      exact ⟨bin_of g.hK (sE a K X Wx _ g y tk h2).1 (sE b K X Wx _ g y tk h3).1, t_of (bin_of g.hK (sE a K X Wx _ g y tk h2).1 (sE b K X Wx _ g y tk h3).1) fun _ => rfl⟩
    · cases h
  | .neg a, K, X, Wx, e, g, y, tk, h => by
    unfold kE at h
    split at h
    · exact ⟨c_neg (sE a K X Wx _ g y tk h).1, t_of (c_neg (sE a K X Wx _ g y tk h).1) fun _ => rfl⟩
    · cases h
  | .not a, K, X, Wx, e, g, y, tk, h => by
    unfold kE at h
    split at h
    · obtain ⟨h1, h2⟩ := sE a K X Wx _ g y tk h
      exact ⟨c_not h1, t_not h2⟩
    · cases h
  | .cmp o a b, K, X, Wx, e, g, y, tk, h => by
    unfold kE at h
    split at h
    · simp only [Bool.and_eq_true, decide_eq_true_eq] at h
      obtain ⟨⟨⟨rfl, h2⟩, h3⟩, h4⟩ := h
      have pa := (sE a K X Wx _ g y tk h2).1
      have pb := (sE b K X Wx _ g y tk h3).1
      exact ⟨c_cmp g.hK g.un g.eqs pa pb (mark_of h4), t_cmp g.hK g.un g.eqs pa pb (mark_of h4)⟩
    · cases h
  | .cmp2 o o' a b c, K, X, Wx, e, g, y, tk, h => by
    unfold kE at h
    split at h
    · simp only [Bool.and_eq_true, decide_eq_true_eq] at h
      obtain ⟨⟨⟨⟨⟨rfl, rfl⟩, h2⟩, h3⟩, h5⟩, h4⟩ := h
      have pa := (sE a K X Wx _ g y tk h2).1
      have pb := (sE b K X Wx _ g y tk h3).1
      have pc := (sE c K X Wx _ g y tk h5).1
      exact ⟨c_cmp2 g.hK g.un g.eqs pa pb pc (by show behindInMarks o'.op _ = false; exact mark_of h4), t_cmp2 g.hK g.un g.eqs pa pb pc (by show behindInMarks o'.op _ = false; exact mark_of h4)⟩
    · cases h
  | .and xs, K, X, Wx, e, g, y, tk, h => by
    unfold kE at h
    split at h
    · obtain ⟨h1, h2⟩ := (sBs xs K X Wx _ _ g y tk h).1
      exact ⟨c_and h1, t_and h2⟩
    · cases h
  | .or xs, K, X, Wx, e, g, y, tk, h => by
    unfold kE at h
    split at h
    · obtain ⟨h1, h2⟩ := (sBs xs K X Wx _ _ g y tk h).2
      exact ⟨c_or h1, t_or h2⟩
    · cases h
  | .ite c a b, K, X, Wx, e, g, y, tk, h => by
    unfold kE at h
    split at h
    · simp only [Bool.and_eq_true] at h
      obtain ⟨⟨h1, h2⟩, h3⟩ := h
      obtain ⟨_, tc⟩ := sE c K X Wx _ g y tk h1
      obtain ⟨pa, ta⟩ := sE a K X Wx _ g y tk h2
      obtain ⟨pb, tb⟩ := sE b K X Wx _ g y tk h3
      exact ⟨c_ite tc pa pb, t_ite tc ta tb⟩
    · cases h
  | .idx a b, K, X, Wx, e, g, y, tk, h => by
    unfold kE at h
    split at h
    · simp only [Bool.and_eq_true] at h
      obtain ⟨⟨h1, h2⟩, h3⟩ := h
      exact ⟨c_idx g.hK g.un (sE a K X Wx _ g y tk h1).1 (sE b K X Wx _ g y tk h2).1 (pix_of h3), t_of (c_idx g.hK g.un (sE a K X Wx _ g y tk h1).1 (sE b K X Wx _ g y tk h2).1 (pix_of h3)) fun _ => rfl⟩
    · cases h
  | .sli a lo hi, K, X, Wx, e, g, y, tk, h => by
    unfold kE at h
    split at h
    · simp only [Bool.and_eq_true] at h
      obtain ⟨⟨h1, h2⟩, h3⟩ := h
      exact ⟨c_sli g.hK (sE a K X Wx _ g y tk h1).1 (sO lo K X Wx _ g y tk h2) (sO hi K X Wx _ g y tk h3), t_of (c_sli g.hK (sE a K X Wx _ g y tk h1).1 (sO lo K X Wx _ g y tk h2) (sO hi K X Wx _ g y tk h3)) fun _ => rfl⟩
    · cases h
  | .rev a, K, X, Wx, e, g, y, tk, h => by
    unfold kE at h
    split at h
    · exact ⟨c_rev g.hK (sE a K X Wx _ g y tk h).1, t_of (c_rev g.hK (sE a K X Wx _ g y tk h).1) fun _ => rfl⟩
    · cases h
  | .fld a f, K, X, Wx, e, g, y, tk, h => by
    unfold kE at h
    split at h
    · rename_i ea fn ps
      simp only [Bool.and_eq_true, decide_eq_true_eq] at h
      obtain ⟨⟨⟨rfl, h2⟩, h3⟩, h4⟩ := h
      have hv : ∀ i, a = .v i → PE X ea (tVar i) := fun i ha => by
        subst ha
        unfold kE at h4
        split at h4
        · rw [Bool.and_eq_true] at h4
          obtain ⟨v1, v2, v3⟩ := vis_of y h4.2
          exact pe_var (at_of y h4.1) v1 v2 v3
        · cases h4
      exact ⟨c_fld (g.fld f (by simpa using h2)) (plain_of h3) (sE a K X Wx _ g y tk h4).1 g.pins hv, t_of (c_fld (g.fld f (by simpa using h2)) (plain_of h3) (sE a K X Wx _ g y tk h4).1 g.pins hv) fun _ => rfl⟩
    · cases h
  | .call j xs, K, X, Wx, e, g, y, tk, h => by
    unfold kE at h
    split at h
    · simp only [Bool.and_eq_true, decide_eq_true_eq] at h
      obtain ⟨⟨h1, h2⟩, h3⟩ := h
      obtain ⟨g1, g2⟩ := gl_of y h1
      obtain ⟨m1, m2⟩ := g.fns _ _ h2
      have ns := nost_all xs _ h3
      rw [List.all_cons, Bool.and_eq_true] at ns
      exact ⟨c_call m2 tk g1 m1 (sEs xs K X Wx _ g y tk h3).1 g2 (star_one ns.1) (back_one _ ns.2), t_of (c_call m2 tk g1 m1 (sEs xs K X Wx _ g y tk h3).1 g2 (star_one ns.1) (back_one _ ns.2)) fun _ => rfl⟩
    · cases h
  | .cav i xs, K, X, Wx, e, g, y, tk, h => by
    unfold kE at h
    split at h
    · simp only [Bool.and_eq_true] at h
      obtain ⟨⟨h1, h2⟩, h3⟩ := h
      obtain ⟨v1, v2, v3⟩ := vis_of y h2
      have ns := nost_all xs _ h3
      rw [List.all_cons, Bool.and_eq_true] at ns
      exact ⟨c_cav g.fall tk (at_of y h1) v1 v3 (sEs xs K X Wx _ g y tk h3).1 v2 (star_one ns.1) (back_one _ ns.2), t_of (c_cav g.fall tk (at_of y h1) v1 v3 (sEs xs K X Wx _ g y tk h3).1 v2 (star_one ns.1) (back_one _ ns.2)) fun _ => rfl⟩
    · cases h
  | .mk c xs, K, X, Wx, e, g, y, tk, h => by
    unfold kE at h
    split at h
    · simp only [Bool.and_eq_true, decide_eq_true_eq] at h
      obtain ⟨⟨h1, h2⟩, h3⟩ := h
      obtain ⟨g1, g2⟩ := gl_of y h1
      obtain ⟨m1, m2, m3⟩ := g.cls _ _ h2
      have ns := nost_all xs _ h3
      rw [List.all_cons, Bool.and_eq_true] at ns
      exact ⟨c_mk m3 tk g1 m1 (sEs xs K X Wx _ g y tk h3).1 g2 (star_one ns.1) (back_one _ ns.2), t_of (c_mk m3 tk g1 m1 (sEs xs K X Wx _ g y tk h3).1 g2 (star_one ns.1) (back_one _ ns.2)) fun _ => rfl⟩
    · cases h
  | .b1 b a, K, X, Wx, e, g, y, tk, h => by
    unfold kE at h
    split at h
    · simp only [Bool.and_eq_true, Bool.or_eq_true] at h
      obtain ⟨⟨⟨h1, h2⟩, h3⟩, h4⟩ := h
      cases z : b.at with
      | none => rw [z] at h1; cases h1
      | some nf =>
        obtain ⟨n, f⟩ := nf
        rw [z] at h1
        simp only [Bool.and_eq_true, decide_eq_true_eq] at h1
        obtain ⟨rfl, h5⟩ := h1
        obtain ⟨b1, b2⟩ := bl_of y g h5
        exact ⟨c_b1 z g.hK (h2.imp id fun q => g.calm2 (by simpa using q)) b1 b2 (sE a K X Wx _ g y tk h4).1 (star_one h3), t_of (c_b1 z g.hK (h2.imp id fun q => g.calm2 (by simpa using q)) b1 b2 (sE a K X Wx _ g y tk h4).1 (star_one h3)) fun _ => rfl⟩
    · cases h
  | .max2 a b, K, X, Wx, e, g, y, tk, h => by
    unfold kE at h
    split at h
    · simp only [Bool.and_eq_true, decide_eq_true_eq] at h
      obtain ⟨⟨⟨⟨⟨rfl, h2⟩, h3⟩, h4⟩, h5⟩, h6⟩ := h
      obtain ⟨b1, b2⟩ := bl_of y g h2
      exact ⟨c_max2 g.calm b1 b2 (sE a K X Wx _ g y tk h5).1 (sE b K X Wx _ g y tk h6).1 (star_one h3) (star_one h4), t_of (c_max2 g.calm b1 b2 (sE a K X Wx _ g y tk h5).1 (sE b K X Wx _ g y tk h6).1 (star_one h3) (star_one h4)) fun _ => rfl⟩
    · cases h
  | .min2 a b, K, X, Wx, e, g, y, tk, h => by
    unfold kE at h
    split at h
    · simp only [Bool.and_eq_true, decide_eq_true_eq] at h
      obtain ⟨⟨⟨⟨⟨rfl, h2⟩, h3⟩, h4⟩, h5⟩, h6⟩ := h
      obtain ⟨b1, b2⟩ := bl_of y g h2
      exact ⟨c_min2 g.calm b1 b2 (sE a K X Wx _ g y tk h5).1 (sE b K X Wx _ g y tk h6).1 (star_one h3) (star_one h4), t_of (c_min2 g.calm b1 b2 (sE a K X Wx _ g y tk h5).1 (sE b K X Wx _ g y tk h6).1 (star_one h3) (star_one h4)) fun _ => rfl⟩
    · cases h
  | .isa a ts, K, X, Wx, e, g, y, tk, h => by
    unfold kE at h
    split at h
    · simp only [Bool.and_eq_true, decide_eq_true_eq] at h
      obtain ⟨⟨⟨⟨rfl, h2⟩, h3⟩, h4⟩, h5⟩ := h
      obtain ⟨b1, b2⟩ := bl_of y g h2
      have pa := (sE a K X Wx _ g y tk h4).1
      split at h5
      · split at h5
        · obtain ⟨t1, t2⟩ := ty_of y g (p := ‹Pos›) (of_decide_eq_true h5)
          exact ⟨c_isa g.hK g.isa t2 b1 b2 pa t1 (star_one h3) rfl, t_of (c_isa g.hK g.isa t2 b1 b2 pa t1 (star_one h3) rfl) fun _ => rfl⟩
        · cases h5
      · simp only [Bool.and_eq_true, decide_eq_true_eq] at h5
        obtain ⟨⟨h6, h7⟩, h8⟩ := h5
        obtain ⟨t1, t2⟩ := tys_of y g ts _ h6
        exact ⟨c_isaT g.hK g.isa t2 h7 b1 b2 pa t1 (by intro e; subst e; cases h8) (star_one h3) rfl, t_of (c_isaT g.hK g.isa t2 h7 b1 b2 pa t1 (by intro e; subst e; cases h8) (star_one h3) rfl) fun _ => rfl⟩
      · cases h5
    · cases h
  | .lc x gt it c vs, K, X, Wx, e, g, y, tk, h => by
    unfold kE at h
    split at h
    · simp only [Bool.and_eq_true, decide_eq_true_eq] at h
      obtain ⟨⟨⟨⟨⟨⟨⟨h1, h2⟩, h3⟩, h4⟩, h5⟩, h6⟩, h7⟩, h8⟩ := h
      rename_i elt tg iter ifs scope pos
      have ok := blkOk_by h1
      rw [← y.N, ← y.sc] at ok
      have hv : (ownB X.N vs).map (·.2) = vs := by rw [y.N]; exact h2
      have hsl : ∀ i ∈ tgSl gt, i ∈ (ownB X.N vs).map (·.2) := fun i hi => by
        rw [hv]
        have := List.all_eq_true.mp h3 i hi
        simpa using this
      have yb : ∀ (s : Shared) (H : Hp) (Ca : Addr) (cl : List (Str × Addr)) (fp : List Addr), Sy (K.blk scope) (X.blk s H scope (compEnvC scope cl Ca X.env) fp) := fun s H Ca cl fp => y.blk
      have gb : C.hot = false → ∀ (s : Shared) (H : Hp) (Ca : Addr) (cl : List (Str × Addr)) (fp : List Addr), Gd G xf C (K.blk scope) (X.blk s H scope (compEnvC scope cl Ca X.env) fp) := fun hh s H Ca cl fp => g.blk hh
      have p : PE X (.ListComp elt [⟨tg, iter, ifs, 0⟩] scope pos) (TB G xf Wx C (.lc x gt it c ((ownB X.N vs).map (·.2)))) := c_lc g.calm (by rw [y.N]; exact y.nd) (fun _ => sI it K X Wx tg iter g y tk h5) ok hsl
        (fun hh s H Ca cl fp => sTg (K := K.blk scope) (X := X.blk s H scope (compEnvC scope cl Ca X.env) fp) g.hK (g.calm hh) (yb s H Ca cl fp) gt tg h6)
        (fun hh s H Ca cl fp => sC c (K.blk scope) _ ifs (gb hh s H Ca cl fp) (yb s H Ca cl fp) takes0 h7) (fun hh s H Ca cl fp => (sE x (K.blk scope) _ _ elt (gb hh s H Ca cl fp) (yb s H Ca cl fp) takes0 h8).1)
        (fun z => by cases iter <;> first | rfl | cases h4)
      rw [hv] at p
      exact ⟨p, t_of p fun _ => rfl⟩
    · cases h
  | .lenset a, K, X, Wx, e, g, y, tk, h => by
    unfold kE at h
    split at h
    · simp only [Bool.and_eq_true, decide_eq_true_eq] at h
      obtain ⟨⟨⟨⟨⟨rfl, rfl⟩, h3⟩, h4⟩, h5⟩, h6⟩ := h
      obtain ⟨b1, b2⟩ := bl_of y g h3
      obtain ⟨b3, b4⟩ := bl_of y g h4
      exact ⟨c_lenset g.hK g.calm b1 b2 b3 b4 (sE a K X Wx _ g y tk h6).1 (star_one h5), t_of (c_lenset g.hK g.calm b1 b2 b3 b4 (sE a K X Wx _ g y tk h6).1 (star_one h5)) fun _ => rfl⟩
    · cases h
  | .srtset a, K, X, Wx, e, g, y, tk, h => by
    unfold kE at h
    split at h
    · simp only [Bool.and_eq_true, decide_eq_true_eq] at h
      obtain ⟨⟨⟨⟨⟨rfl, rfl⟩, h3⟩, h4⟩, h5⟩, h6⟩ := h
      obtain ⟨b1, b2⟩ := bl_of y g h3
      obtain ⟨b3, b4⟩ := bl_of y g h4
      exact ⟨c_srtset g.hK g.calm b1 b2 b3 b4 (sE a K X Wx _ g y tk h6).1 (star_one h5), t_of (c_srtset g.hK g.calm b1 b2 b3 b4 (sE a K X Wx _ g y tk h6).1 (star_one h5)) fun _ => rfl⟩
    · cases h
  | .rep a, K, X, Wx, e, g, y, tk, h => by
    unfold kE at h
    split at h
    · simp only [Bool.and_eq_true, decide_eq_true_eq] at h
      obtain ⟨⟨⟨⟨h1, rfl⟩, h3⟩, h4⟩, h5⟩ := h
      obtain ⟨b1, b2⟩ := bl_of y g h3
      exact ⟨c_rep g.hK g.calm (g.rpr h1) g.un b1 b2 (sE a K X Wx _ g y tk h5).1 (star_one h4), t_of (c_rep g.hK g.calm (g.rpr h1) g.un b1 b2 (sE a K X Wx _ g y tk h5).1 (star_one h4)) fun _ => rfl⟩
    · cases h
  | .lidx a b, K, X, Wx, e, g, y, tk, h => by
    unfold kE at h
    split at h
    · simp only [Bool.and_eq_true, decide_eq_true_eq] at h
      obtain ⟨⟨⟨⟨⟨rfl, h2⟩, h3⟩, h4⟩, h5⟩, h6⟩ := h
      rename_i ed apos eb cpos
      have e1 := star_one (es := []) (env := X.env) h3
      have p : PE X (.Call (.Attribute ed "index" apos) [eb] [] cpos) (TB G xf Wx C (.lidx a b)) := c_lidx g.hK (sE a K X Wx _ g y tk h5).1 (sE b K X Wx _ g y tk h6).1 (plainB_of h2) (by rw [e1]; rfl) ((Bool.or_eq_true _ _).mp h4) e1
      exact ⟨p, t_of p fun _ => rfl⟩
    · cases h
  | .dict0, K, X, Wx, e, g, y, tk, h => by
    unfold kE at h
    split at h
    · exact ⟨c_dict0, t_of (c_dict0) fun _ => rfl⟩
    · cases h
  | .dic1 a b, K, X, Wx, e, g, y, tk, h => by
    unfold kE at h
    split at h
    · rw [Bool.and_eq_true] at h
      have p := c_dic1 (pos := by assumption) (sE a K X Wx _ g y tk h.1).1 (sE b K X Wx _ g y tk h.2).1
      exact ⟨p, t_of p fun _ => rfl⟩
    · cases h
  | .get d a b, K, X, Wx, e, g, y, tk, h => by
    unfold kE at h
    split at h
    · simp only [Bool.and_eq_true, decide_eq_true_eq] at h
      obtain ⟨⟨⟨⟨⟨⟨⟨rfl, h2⟩, h3⟩, h4⟩, h5⟩, h6⟩, h7⟩, h8⟩ := h
      rename_i ed apos ea eb cpos
      have e1 := star_one (es := [eb]) (env := X.env) h3
      have e2 := star_one (es := []) (env := X.env) h4
      have p : PE X (.Call (.Attribute ed "get" apos) [ea, eb] [] cpos) (TB G xf Wx C (.get d a b)) := c_get g.un (sE d K X Wx _ g y tk h6).1 (sE a K X Wx _ g y tk h7).1 (sE b K X Wx _ g y tk h8).1
        ⟨plain_of h2, by rw [e1, e2]; rfl, h5, by rw [e1, e2]; rfl⟩
      exact ⟨p, t_of p fun _ => rfl⟩
    · cases h
  | .lrng a, K, X, Wx, e, g, y, tk, h => by
    unfold kE at h
    split at h
    · simp only [Bool.and_eq_true, decide_eq_true_eq] at h
      obtain ⟨⟨⟨⟨⟨rfl, rfl⟩, h3⟩, h4⟩, h5⟩, h6⟩ := h
      obtain ⟨b1, b2⟩ := bl_of y g h3
      obtain ⟨b3, b4⟩ := bl_of y g h4
      exact ⟨c_lrng g.calm b1 b2 b3 b4 (sE a K X Wx _ g y tk h6).1 (star_one h5), t_of (c_lrng g.calm b1 b2 b3 b4 (sE a K X Wx _ g y tk h6).1 (star_one h5)) fun _ => rfl⟩
    · cases h
  | .bad, K, X, Wx, e, g, y, tk, h => ⟨c_bad, t_bad⟩
theorem sEs : ∀ (xs : Xs) (K : Ck) (Xc : Cx) (Wx : L2.WX) (es : List Expr), Gd G xf C K Xc → Sy K Xc → Takes Xc Wx → kEs xs K es = true → PA Xc es (TS' G xf Wx C xs) ∧ xs.len = es.length
  | .nil, K, X, Wx, es, g, y, tk, h => by
    unfold kEs at h
    cases es with
    | nil => exact ⟨c_nil, rfl⟩
    | cons e es => cases h
  | .cons x r, K, X, Wx, es, g, y, tk, h => by
    unfold kEs at h
    split at h
    · simp only [Bool.and_eq_true] at h
      obtain ⟨⟨h1, h2⟩, h3⟩ := h
      obtain ⟨q1, q2⟩ := sEs r K X Wx _ g y tk h3
      exact ⟨c_cons (sE x K X Wx _ g y tk h2).1 q1 (star_one h1), by rw [Xs.len, q2]; rfl⟩
    · cases h
theorem sBs : ∀ (xs : Xs) (K : Ck) (Xc : Cx) (Wx : L2.WX) (es : List Expr) (pos : Pos), Gd G xf C K Xc → Sy K Xc → Takes Xc Wx → kBs xs K es = true →
    (PE Xc (.BoolOp .And es pos) (TAnd G xf Wx C xs) ∧ PW Xc (.BoolOp .And es pos) (TAndT G xf Wx C xs)) ∧ (PE Xc (.BoolOp .Or es pos) (TOr G xf Wx C xs) ∧ PW Xc (.BoolOp .Or es pos) (TOrT G xf Wx C xs))
  | .nil, K, X, Wx, es, pos, g, y, tk, h => by unfold kBs at h; cases h
  | .cons x .nil, K, X, Wx, es, pos, g, y, tk, h => by
    unfold kBs at h
    split at h
    · obtain ⟨h1, h2⟩ := sE x K X Wx _ g y tk h
      exact ⟨⟨and_one h1, and_oneT h2⟩, or_one h1, or_oneT h2⟩
    · cases h
  | .cons x (.cons z r), K, X, Wx, es, pos, g, y, tk, h => by
    unfold kBs at h
    split at h
    · rw [Bool.and_eq_true] at h
      obtain ⟨h1, h2⟩ := sE x K X Wx _ g y tk h.1
      obtain ⟨⟨q1, q2⟩, q3, q4⟩ := sBs (.cons z r) K X Wx _ pos g y tk h.2
      exact ⟨⟨and_cons h1 q1, and_consT h2 q2⟩, or_cons h1 q3, or_consT h2 q4⟩
    · cases h
theorem sO : ∀ (x : Xo) (K : Ck) (Xc : Cx) (Wx : L2.WX) (e : Option Expr), Gd G xf C K Xc → Sy K Xc → Takes Xc Wx → kO x K e = true → PO Xc e (TO' G xf Wx C x)
  | .no, K, X, Wx, e, g, y, tk, h => by
    unfold kO at h
    cases e with
    | none => exact po_no
    | some e => cases h
  | .so x, K, X, Wx, e, g, y, tk, h => by
    unfold kO at h
    split at h
    · exact po_so (sE x K X Wx _ g y tk h).1
    · cases h
theorem sC : ∀ (x : Xo) (K : Ck) (Xc : Cx) (es : List Expr), Gd G xf C K Xc → Sy K Xc → Takes Xc (fun _ _ _ _ => False) → kC x K es = true → PTs Xc es (TTc G xf C x)
  | .no, K, X, es, g, y, tk, h => by
    unfold kC at h
    cases es with
    | nil => exact pts_no
    | cons e es => cases h
  | .so x, K, X, es, g, y, tk, h => by
    unfold kC at h
    split at h
    · exact pts_so (sE x K X _ _ g y tk h).2
    · cases h
theorem sI : ∀ (x : It) (K : Ck) (Xc : Cx) (Wx : L2.WX) (tg e : Expr), Gd G xf C K Xc → Sy K Xc → Takes Xc Wx → kI x K tg e = true → PI Xc tg e (TI' G xf Wx C x)
  | .x a, K, X, Wx, tg, e, g, y, tk, h => by
    unfold kI at h
    exact i_x g.hK (sE a K X Wx _ g y tk h).1
  | .rng xs, K, X, Wx, tg, e, g, y, tk, h => by
    unfold kI at h
    split at h
    · simp only [Bool.and_eq_true, decide_eq_true_eq] at h
      obtain ⟨⟨rfl, h2⟩, h3⟩ := h
      obtain ⟨b1, b2⟩ := bl_of y g h2
      obtain ⟨q1, q2⟩ := sEs xs K X Wx _ g y tk h3
      have ns := nost_all xs _ h3
      simp only [List.all_cons, List.all_nil, Bool.and_true] at ns
      exact i_rng1 b1 b2 q1 (star_one ns) q2
    · simp only [Bool.and_eq_true, decide_eq_true_eq] at h
      obtain ⟨⟨rfl, h2⟩, h3⟩ := h
      obtain ⟨b1, b2⟩ := bl_of y g h2
      obtain ⟨q1, q2⟩ := sEs xs K X Wx _ g y tk h3
      have ns := nost_all xs _ h3
      simp only [List.all_cons, List.all_nil, Bool.and_true, Bool.and_eq_true] at ns
      exact i_rng2 b1 b2 q1 (by rw [star_one ns.1, star_one ns.2]; rfl) (by rw [star_one ns.2]; rfl) q2
    · cases h
  | .enum xs, K, X, Wx, tg, e, g, y, tk, h => by
    unfold kI at h
    split at h
    · simp only [Bool.and_eq_true, decide_eq_true_eq] at h
      obtain ⟨⟨rfl, h2⟩, h3⟩ := h
      obtain ⟨b1, b2⟩ := bl_of y g h2
      obtain ⟨q1, q2⟩ := sEs xs K X Wx _ g y tk h3
      have ns := nost_all xs _ h3
      simp only [List.all_cons, List.all_nil, Bool.and_true] at ns
      exact i_enum g.hK b1 b2 q1 (star_one ns) q2
    · cases h
  | .zip xs, K, X, Wx, tg, e, g, y, tk, h => by
    unfold kI at h
    split at h
    · simp only [Bool.and_eq_true, decide_eq_true_eq] at h
      obtain ⟨⟨rfl, h2⟩, h3⟩ := h
      obtain ⟨b1, b2⟩ := bl_of y g h2
      obtain ⟨q1, q2⟩ := sEs xs K X Wx _ g y tk h3
      have ns := nost_all xs _ h3
      have ns2 := ns
      simp only [List.all_cons, List.all_nil, Bool.and_true, Bool.and_eq_true] at ns
      exact i_zip g.hK b1 b2 q1 (star_one ns.1) (back_one _ (by simp [ns.2])) q2
    · cases h
end
end
end Ev

set_option maxRecDepth 100000
set_option maxHeartbeats 4000000
namespace Ev
open PySem PySem.Spec PyProof.Rows L2

/-- a term that makes a new container -/
def freshB : B1 → Bool
  | .list => true | _ => false
def freshO : Bo → Bool
  | .add => true | .mul => true | _ => false
def freshX : X → Bool
  | .lst _ => true | .dict0 => true | .b1 b _ => freshB b | .bin o _ _ => freshO o | .lc _ _ _ _ _ => true | .lrng _ => true | _ => false
def isLC : Expr → Bool
  | .ListComp _ _ _ _ => true | .SetComp _ _ _ _ => true | .DictComp _ _ _ _ _ => true | _ => false
section
variable {G : GG} {xf : Nat → Option Str} {C : Cfg}
/-- the parts of a comprehension -/
structure LcP (G : GG) (xf : Nat → Option Str) (C : Cfg) (X : Cx) (Wx : L2.WX) (x : Ev.X) (gt : Tg) (it : Ev.It) (c : Xo) (vs : List Nat) (elt tg iter : Expr) (ifs : List Expr) (scope : Scope) : Prop where
  ok : ∃ own : List (Str × Nat), own.map (·.2) = vs ∧ BlkOk X.N X.env.scope scope own
  nd : X.N.Nodup
  hi : PI X tg iter (TI' G xf Wx C it)
  hsl : ∀ i ∈ tgSl gt, i ∈ vs
  hg : C.hot = false → ∀ (s : Shared) (H : Hp) (Ca : Addr) (cl : List (Str × Addr)) (fp : List Addr), PG (X.blk s H scope (compEnvC scope cl Ca X.env) fp) tg (TGt G gt)
  ht : C.hot = false → ∀ (s : Shared) (H : Hp) (Ca : Addr) (cl : List (Str × Addr)) (fp : List Addr), PTs (X.blk s H scope (compEnvC scope cl Ca X.env) fp) ifs (TTc G xf C c)
  he : C.hot = false → ∀ (s : Shared) (H : Hp) (Ca : Addr) (cl : List (Str × Addr)) (fp : List Addr), PE (X.blk s H scope (compEnvC scope cl Ca X.env) fp) elt (TB G xf (fun _ _ _ _ => False) C x)
  hs : ∀ z, foldedSetIterable iter X.env z = pure z
theorem lc_parts {x : Ev.X} {gt : Tg} {it : Ev.It} {c : Xo} {vs : List Nat} {K : Ck} {X : Cx} {Wx : L2.WX} {e : Expr} (g : Gd G xf C K X) (y : Sy K X) (tk : Takes X Wx) (h : kE (.lc x gt it c vs) K e = true) :
    ∃ elt tg iter ifs scope pos, e = .ListComp elt [⟨tg, iter, ifs, 0⟩] scope pos ∧ LcP G xf C X Wx x gt it c vs elt tg iter ifs scope := by
  unfold kE at h
  split at h
  · simp only [Bool.and_eq_true, decide_eq_true_eq] at h
    obtain ⟨⟨⟨⟨⟨⟨⟨h1, h2⟩, h3⟩, h4⟩, h5⟩, h6⟩, h7⟩, h8⟩ := h
    rename_i elt tg iter ifs scope pos
    have ok := blkOk_by h1
    rw [← y.N, ← y.sc] at ok
    have hv : (ownB X.N vs).map (·.2) = vs := by rw [y.N]; exact h2
    refine ⟨elt, tg, iter, ifs, scope, pos, rfl, ⟨⟨_, hv, ok⟩, by rw [y.N]; exact y.nd, sI it K X Wx tg iter g y tk h5, fun i hi => by simpa using List.all_eq_true.mp h3 i hi, fun hh s H Ca cl fp => ?_, fun hh s H Ca cl fp => ?_, fun hh s H Ca cl fp => ?_, fun z => ?_⟩⟩
    · exact sTg (K := K.blk scope) (X := X.blk s H scope (compEnvC scope cl Ca X.env) fp) g.hK (g.calm hh) y.blk gt tg h6
    · exact sC c (K.blk scope) _ ifs (g.blk hh) y.blk takes0 h7
    · exact (sE x (K.blk scope) _ _ elt (g.blk hh) y.blk takes0 h8).1
    · cases iter <;> first | rfl | cases h4
  · cases h
theorem f_lc {x : Ev.X} {gt : Tg} {it : Ev.It} {c : Xo} {vs : List Nat} {X : Cx} {Wx : L2.WX} {elt tg iter : Expr} {ifs : List Expr} {scope : Scope} {pos : Pos} (hh : C.hot = false) (hc : X.calm = true) (P : LcP G xf C X Wx x gt it c vs elt tg iter ifs scope) :
    PE X (.ListComp elt [⟨tg, iter, ifs, 0⟩] scope pos) (TF G xf Wx C (.lc x gt it c vs)) := by
  obtain ⟨own, rfl, ok⟩ := P.ok
  exact pe_weak (pe_lc hc P.nd P.hi ok (P.hg hh) (P.ht hh) (fun s H Ca cl fp => tn_of (P.he hh s H Ca cl fp)) P.hs) fun σ H Q h => lc_weakF hh P.hsl h
theorem sF (x : X) (K : Ck) (Xc : Cx) (Wx : L2.WX) (e : Expr) (hh : C.hot = false) (g : Gd G xf C K Xc) (y : Sy K Xc) (tk : Takes Xc Wx) (hf : freshX x = true) (h : kE x K e = true) : PE Xc e (TF G xf Wx C x) := by
  cases x
  case lst xs =>
    unfold kE at h
    split at h
    · exact f_lst (sEs xs K Xc Wx _ g y tk h).1
    · cases h
  case dict0 =>
    unfold kE at h
    split at h
    · exact f_dict0
    · cases h
  case b1 b a =>
    cases b
    case list =>
      unfold kE at h
      split at h
      · simp only [Bool.and_eq_true, Bool.or_eq_true] at h
        obtain ⟨⟨⟨h1, h2⟩, h3⟩, h4⟩ := h
        simp only [B1.at, Bool.and_eq_true, decide_eq_true_eq] at h1
        obtain ⟨rfl, h5⟩ := h1
        obtain ⟨b1, b2⟩ := bl_of y g h5
        exact f_list g.hK b1 b2 (sE a K Xc Wx _ g y tk h4).1 (star_one h3)
      · cases h
    all_goals exact absurd hf (by simp [freshX, freshB])
  case bin o a b =>
    unfold kE at h
    split at h
    · simp only [Bool.and_eq_true, decide_eq_true_eq] at h
      obtain ⟨⟨rfl, h2⟩, h3⟩ := h
      have pa := (sE a K Xc Wx _ g y tk h2).1
      have pb := (sE b K Xc Wx _ g y tk h3).1
      cases o
      case add => exact f_add g.hK pa pb
      case mul => exact f_mul g.hK pa pb
      all_goals exact absurd hf (by simp [freshX, freshO])
    · cases h
  case lc x gt it c vs =>
    obtain ⟨elt, tg, iter, ifs, scope, pos, rfl, P⟩ := lc_parts g y tk h
    exact f_lc hh (g.calm hh) P
  case lrng a =>
    unfold kE at h
    split at h
    · simp only [Bool.and_eq_true, decide_eq_true_eq] at h
      obtain ⟨⟨⟨⟨⟨rfl, rfl⟩, h3⟩, h4⟩, h5⟩, h6⟩ := h
      obtain ⟨b1, b2⟩ := bl_of y g h3
      obtain ⟨b3, b4⟩ := bl_of y g h4
      exact f_lrng g.calm b1 b2 b3 b4 (sE a K Xc Wx _ g y tk h6).1 (star_one h5)
    · cases h
  all_goals exact absurd hf (by simp [freshX])
end
end Ev

set_option maxRecDepth 100000
set_option maxHeartbeats 4000000
namespace Ev
open PySem PySem.Spec PyProof.Rows L2

/-- two or three names stored at once -/
def swNames (K : Ck) (ts vs : List Expr) : Option (List Str) :=
  if ts.length == vs.length && vs.all noSt && !(vs.all (foldedForSure 8)) && !(vs.all (constantsAlone 8)) then
    (match ts with
    | [.Name x p, .Name y q] => if p.line == q.line && decide (K.sc.names.lookup x = some .local) && decide (K.sc.names.lookup y = some .local) && !(x == y) then some [x, y] else none
    | [.Name x p, .Name y q, .Name z r] => if p.line == q.line && p.line == r.line && decide (K.sc.names.lookup x = some .local) && decide (K.sc.names.lookup y = some .local) && decide (K.sc.names.lookup z = some .local) && !(x == y) && !(x == z) && !(y == z) then some [x, y, z] else none
    | _ => none)
  else none
def kNames (K : Ck) : List Nat → List Expr → Bool
  | [], es => es.isEmpty
  | i :: r, es => (match es with | .Name x _ :: es => atN K i x && locB K x && kNames K r es | _ => false)
/-- a name among them that is not plainly local: no swap -/
def anyCell (K : Ck) (es : List Expr) : Bool := es.any fun e => match e with | .Name x _ => !decide (K.sc.names.lookup x = some .local) | _ => true
def kM : List Bool → Xs → Ck → List Expr → Bool
  | [], .nil, _, [] => true
  | o :: os, .cons x r, K, e :: es => noSt e && kE x K e && (!o || (freshX x && !K.hot)) && kM os r K es
  | _, _, _, _ => false
def lcX : X → Bool
  | .lc _ _ _ _ _ => true | _ => false
def isMeth (K : Ck) (i : Nat) (m : Str) (e : Expr) : Option (List Expr) := match e with
  | .Call (.Attribute (.Name x _) n apos) as [] cpos => if decide (n = m) && atN K i x && visB K x && (apos.endLine == cpos.line) then some as else none
  | _ => none
def kS0 (K : Ck) : S → Stmt → Bool
  | .set i x o, st => (match st with | .Assign [.Name y _] e _ => atN K i y && locB K y && kE x K e && (!o || (freshX x && !K.hot)) && (!isLC e || (lcX x && !K.hot)) | _ => false)
  | .setG t x, st => (match st with | .Assign [.Tuple es k p] e _ => kTg K t (.Tuple es k p) && kE x K e && (match e with | .Tuple vs _ _ => decide (4 ≤ es.length) || vs.all (foldedForSure 8) | _ => true) | _ => false)
  | .par ts xs, st => (match st with | .Assign [.Tuple es _ _] (.Tuple vs _ _) _ => (match swNames K es vs with | some ns => decide (ts.length = ns.length) && (List.range ns.length).all (fun n => match ts[n]?, ns[n]? with | some (i, _), some x => atN K i x | _, _ => false) && decide ((ts.map (·.1)).Nodup) && kM (ts.map (·.2)) xs K vs && !K.hot | none => kNames K (ts.map (·.1)) es && anyCell K es && decide (ts.length ≤ 10) && kM (ts.map (·.2)) xs K vs && !K.hot) | _ => false)
  | .stx i k x, st => (match st with | .Assign [.Subscript (.Name y _) ek _] e _ => atN K i y && visB K y && kE k K ek && kE x K e | _ => false)
  | .stf i f x, st => (match st with | .Assign [.Attribute (.Name y _) g _] e _ => atN K i y && visB K y && decide (g = f) && K.fds.contains f && kE x K e | _ => false)
  | .app i xs, st => (match st with | .Expr e _ => (match isMeth K i "append" e with | some as => kEs xs K as && decide (as.length = 1) | none => false) | _ => false)
  | .ext i xs, st => (match st with | .Expr e _ => (match isMeth K i "extend" e with | some as => kEs xs K as && decide (as.length = 1) | none => false) | _ => false)
  | .popx i xs, st => (match st with | .Expr e _ => (match isMeth K i "pop" e with | some as => kEs xs K as && decide (as.length = 1) | none => false) | _ => false)
  | .pop j i, st => (match st with | .Assign [.Name y _] e _ => atN K j y && locB K y && (match isMeth K i "pop" e with | some as => as.isEmpty | none => false) | _ => false)
  | .popat j i xs, st => (match st with | .Assign [.Name y _] e _ => atN K j y && locB K y && (match isMeth K i "pop" e with | some as => kEs xs K as && decide (as.length = 1) | none => false) | _ => false)
  | .apppop l i xs, st => (match st with | .Expr e _ => (match isMeth K l "append" e with | some [a] => (match isMeth K i "pop" a with | some as => kEs xs K as && decide (as.length = 1) | none => false) | _ => false) | _ => false)
  | .ex x, st => (match st with | .Expr e _ => kE x K e && !isLC e | _ => false)
  | .ret x, st => (match st with | .Return (some e) _ => kE x K e | .Return none _ => (match x with | .k .non => true | _ => false) | _ => false)
  | .retc x, st => (match st with | .Return (some e) _ => kE x K e && freshX x && !K.hot | _ => false)
  | .brk, st => (match st with | .Break _ => true | _ => false)
  | .cnt, st => (match st with | .Continue _ => true | _ => false)
  | .pas, st => (match st with | .Pass _ => true | .Expr (.Constant (.str _) _ _) _ => true | _ => false)
  | .bad, _ => true
  | .rse c .no, st => (match st with | .Raise (some (.Call (.Name y _) [] [] _)) none _ => isG K y && decide (K.exT.lookup y = some (c, false)) | _ => false)
  | .rse c (.so x), st => (match st with | .Raise (some (.Call (.Name y _) [e] [] _)) none _ => isG K y && decide (K.exT.lookup y = some (c, true)) && noSt e && kE x K e | _ => false)
  | _, _ => false
mutual
def kS : S → Ck → Stmt → Bool
  | .iff c a b, K, st => (match st with | .If ec sa sb _ => kE c K ec && kSs a K sa && kSs b K sb | _ => false)
  | .whl c b, K, st => (match st with | .While ec sb [] _ => kE c K ec && kSs b K sb | _ => false)
  | .for t it b, K, st => (match st with | .For tg iter sb [] _ => noSet iter && kTg K t tg && kI it K tg iter && kSs b K sb | _ => false)
  | .frz _ s, K, st => kS s K st
  | .tri b hs, K, st => (match st with | .Try sb hds [] [] _ => !hds.isEmpty && kSs b K sb && kHs hs K hds | _ => false)
  | s, K, st => kS0 K s st
def kSs : Ss → Ck → List Stmt → Bool
  | .nil, _, sts => sts.isEmpty
  | .cons s r, K, sts => (match sts with | st :: sts => kS s K st && kSs r K sts | _ => false)
def kHs : Hs → Ck → List ExceptHandler → Bool
  | .nil, _, hds => hds.isEmpty
  | .cons c i s r, K, hds => (match i, hds with
    | some i, [.ExceptHandler (some (.Name x _)) (some n) (b0 :: sb) _] => (match r with | .nil => true | _ => false) && isG K x && decide ((K.exT.lookup x).map (·.1) = some c) && atN K i n && decide (K.sc.names.lookup n = some .local) && kSs s K.hotK (b0 :: sb)
    | none, .ExceptHandler (some (.Name x _)) none (b0 :: sb) _ :: hds => isG K x && decide ((K.exT.lookup x).map (·.1) = some c) && noNames r && kSs s K.hotK (b0 :: sb) && kHs r K hds
    | _, _ => false)
end
section
variable {G : GG} {xf : Nat → Option Str} {C : Cfg}
theorem swaps_no {e : Expr} {t : Option Expr} {n : Nat} {env : PySem.Env} (h : isLC e = false) : swapsWith e t n env = pure false := by
  cases e <;> first | rfl | cases h
/-- name = value, the value any term -/
theorem set_any {x : Ev.X} {K : Ck} {X : Cx} {Wx : L2.WX} {e : Expr} {i : Nat} {z : Str} {py spos : Pos} (g : Gd G xf C K X) (y : Sy K X) (tk : Takes X Wx) (hi : atN K i z = true) (hl : locB K z = true) (h : kE x K e = true) (hh : isLC e = false ∨ (lcX x = true ∧ K.hot = false)) :
    PS X (.Assign [.Name z py] e spos) (TSt G xf Wx C (.set i x false)) ∧ (freshX x = true → K.hot = false → PS X (.Assign [.Name z py] e spos) (TSt G xf Wx C (.set i x true))) := by
  obtain ⟨l1, l2⟩ := loc_of y hl
  have hN := at_of y hi
  have nd : X.N.Nodup := by rw [y.N]; exact y.nd
  by_cases hc : isLC e = false
  · exact ⟨s_set (ps_set nd hN l1 (tn_of (sE x K X Wx e g y tk h).1) (swaps_no hc) l2), fun hf hk => s_own (ps_set nd hN l1 (sF x K X Wx e (g.hot2 hk) g y tk hf h) (swaps_no hc) l2)⟩
  · obtain ⟨hlx, hk⟩ := hh.resolve_left hc
    have hot := g.hot2 hk
    have hx : ∃ a b c d f, x = .lc a b c d f := by
      cases x <;> first | exact ⟨_, _, _, _, _, rfl⟩ | cases hlx
    obtain ⟨a, b, c, d, f, rfl⟩ := hx
    obtain ⟨elt, tg, iter, ifs, scope, pos, rfl, P⟩ := lc_parts g y tk h
    obtain ⟨own, rfl, ok⟩ := P.ok
    have sw : swapsWith (.ListComp elt [⟨tg, iter, ifs, 0⟩] scope pos) (some (.Name z py)) spos.line X.env = pure (X.env.blockKind == .function && X.env.kindOf z == some .local && py.line == (Expr.ListComp elt [⟨tg, iter, ifs, 0⟩] scope pos).pos.line && !(scope.names.any fun (n, k) => n == z && (k == .local || k == .cell))) := rfl
    cases hb : (X.env.blockKind == .function && X.env.kindOf z == some .local && py.line == (Expr.ListComp elt [⟨tg, iter, ifs, 0⟩] scope pos).pos.line && !(scope.names.any fun (n, k) => n == z && (k == .local || k == .cell))) with
    | false =>
      rw [hb] at sw
      exact ⟨s_set (ps_set nd hN l1 (tn_of (sE _ K X Wx _ g y tk h).1) sw l2), fun hf hk => s_own (ps_set nd hN l1 (sF _ K X Wx _ hot g y tk hf h) sw l2)⟩
    | true =>
      rw [hb] at sw
      simp only [Bool.and_eq_true] at hb
      have hy : X.env.scope.names.lookup z = some .local := by
        have := hb.1.1.2
        exact eq_of_beq this
      have base := ps_setLc (i := i) (py := py) (spos := spos) (pos := pos) (g.calm hot) nd hN hy sw P.hi ok (P.hg hot) (P.ht hot) (fun s H Ca cl fp => tn_of (P.he hot s H Ca cl fp)) P.hs
      refine ⟨s_set (ps_weak base fun D σ H q => ?_), fun _ _ => s_own (ps_weak base fun D σ H q => ?_)⟩
      · refine lc_weak hot P.hsl (Q := fun x H1 => gName i x σ H1 D.nx) ?_
        obtain ⟨m, e, w, r, q⟩ := q
        exact ⟨m, e, w, r, (PostE.rx rfl).mpr q⟩
      · exact lc_weakF hot P.hsl (Q := fun x H1 => gName i x σ H1 D.nx) q
end
end Ev

set_option maxRecDepth 100000
set_option maxHeartbeats 4000000
namespace Ev
open PySem PySem.Spec PyProof.Rows L2

section
variable {G : GG} {xf : Nat → Option Str} {C : Cfg} {K : Ck} {X : Cx} {Wx : L2.WX}
theorem kM_sound (g : Gd G xf C K X) (y : Sy K X) (tk : Takes X Wx) : ∀ (os : List Bool) (xs : Xs) (es : List Expr), kM os xs K es = true → PA X es (TM G xf Wx C os xs)
  | [], xs, es, h => by
    cases xs with
    | nil =>
      cases es with
      | nil => exact m_nil
      | cons e es => cases h
    | cons x r => cases h
  | o :: os, xs, es, h => by
    cases xs with
    | nil => cases h
    | cons x r =>
      cases es with
      | nil => cases h
      | cons e es =>
        simp only [kM, Bool.and_eq_true, Bool.or_eq_true] at h
        obtain ⟨⟨⟨h1, h2⟩, h3⟩, h4⟩ := h
        have ih := kM_sound g y tk os r es h4
        cases o with
        | false => exact m_val (sE x K X Wx e g y tk h2).1 ih (star_one h1)
        | true =>
          have h5 : freshX x = true ∧ (!K.hot) = true := by simpa using h3
          exact m_own (sF x K X Wx e (g.hot2 (by simpa using h5.2)) g y tk h5.1 h2) ih (star_one h1)
theorem noStar_any : ∀ {vs : List Expr}, vs.all noSt = true → (vs.any fun | .Starred .. => true | _ => false) = false
  | [], _ => rfl
  | v :: vs, h => by
    rw [List.all_cons, Bool.and_eq_true] at h
    rw [List.any_cons, noStar_any h.2]
    cases v <;> first | rfl | cases h.1
theorem ne_of_beq0 {x y : Str} (h : (x == y) = false) : x ≠ y := by simpa using h
theorem sw2 {x z : Str} {p q : Pos} {vs : List Expr} {k k2 : Nat} {pt pt2 : Pos} {env : PySem.Env} (hk : env.blockKind = .function) (hl : vs.length = 2) (h1 : vs.all noSt = true) (h2 : vs.all (foldedForSure 8) = false) (h3 : vs.all (constantsAlone 8) = false)
    (hp : (p.line == q.line) = true) (hx : env.kindOf x = some .local) (hz : env.kindOf z = some .local) (hne : x ≠ z) : swappedStores [.Tuple [.Name x p, .Name z q] k pt] (.Tuple vs k2 pt2) env = pure (some [x, z]) := by
  have hp' : q.line = p.line := (eq_of_beq hp).symm
  unfold swappedStores
  have hd : ([x, z] : List Str).eraseDups = [x, z] := by
    simp [List.eraseDups_cons, Ne.symm hne]
  simp [hk, hl, h2, h3, hx, hz, hp', hd, Expr.pos]
  intro a ha hm
  have := List.all_eq_true.mp h1 a ha
  cases a <;> first | (simp [noSt] at this; done) | (simp at hm; done)
theorem sw3 {x z u : Str} {p q r : Pos} {vs : List Expr} {k k2 : Nat} {pt pt2 : Pos} {env : PySem.Env} (hk : env.blockKind = .function) (hl : vs.length = 3) (h1 : vs.all noSt = true) (h2 : vs.all (foldedForSure 8) = false) (h3 : vs.all (constantsAlone 8) = false)
    (hp : (p.line == q.line) = true) (hp2 : (p.line == r.line) = true) (hx : env.kindOf x = some .local) (hz : env.kindOf z = some .local) (hu : env.kindOf u = some .local) (hne : x ≠ z) (hne2 : x ≠ u) (hne3 : z ≠ u) : swappedStores [.Tuple [.Name x p, .Name z q, .Name u r] k pt] (.Tuple vs k2 pt2) env = pure (some [x, z, u]) := by
  have hp' : q.line = p.line := (eq_of_beq hp).symm
  have hp2' : r.line = p.line := (eq_of_beq hp2).symm
  unfold swappedStores
  have hd : ([x, z, u] : List Str).eraseDups = [x, z, u] := by
    simp [List.eraseDups_cons, Ne.symm hne, Ne.symm hne2, Ne.symm hne3]
  simp [hk, hl, h2, h3, hx, hz, hu, hp', hp2', hd, Expr.pos]
  intro a ha hm
  have := List.all_eq_true.mp h1 a ha
  cases a <;> first | (simp [noSt] at this; done) | (simp at hm; done)
theorem meth_of (y : Sy K X) {i : Nat} {m : Str} {e : Expr} {as : List Expr} (h : isMeth K i m e = some as) : ∃ x px apos cpos, e = .Call (.Attribute (.Name x px) m apos) as [] cpos ∧ X.N[i]? = some x ∧ Vis X.env.scope x ∧ (x == ("__debug__" : Str)) = false ∧ (x == ("__classdict__" : Str)) = false ∧ (apos.endLine == cpos.line) = true := by
  unfold isMeth at h
  split at h
  · split at h
    · rename_i hh
      simp only [Bool.and_eq_true, decide_eq_true_eq] at hh
      obtain ⟨⟨⟨rfl, h2⟩, h3⟩, h4⟩ := hh
      cases h
      obtain ⟨v1, v2, v3⟩ := vis_of y h3
      exact ⟨_, _, _, _, rfl, at_of y h2, v1, v2, v3, h4⟩
    · cases h
  · cases h
theorem meth_c {i : Nat} {x m : Str} {ea : Expr} {px apos cpos : Pos} (h1 : X.N[i]? = some x) (h2 : Vis X.env.scope x) (h3 : (x == ("__debug__" : Str)) = false) (h4 : (x == ("__classdict__" : Str)) = false) (h5 : (apos.endLine == cpos.line) = true) (ns : noSt ea = true) : MethC X i x px m ea apos cpos :=
  ⟨h1, h2, h3, h4, rfl, by rw [star_one ns]; rfl, h5, star_one ns⟩
theorem one_of {as : List Expr} (h : as.length = 1) : ∃ a, as = [a] := by
  match as, h with
  | [a], _ => exact ⟨a, rfl⟩
theorem nost1 {xs : Xs} {a : Expr} (h : kEs xs K [a] = true) : noSt a = true := by
  have := nost_all xs _ h
  simpa using this
theorem kNames_sound {K : Ck} {X : Cx} (y : Sy K X) : ∀ (is : List Nat) (es : List Expr), kNames K is es = true → PGs X es (gNames is) ∧ (assignEach es X.env).length = is.length ∧ (assignEach es X.env).findIdx? (·.1) = none
  | [], es, h => by
    unfold kNames at h
    cases es with
    | nil => exact ⟨pgs_nil, rfl, rfl⟩
    | cons e es => cases h
  | i :: is, es, h => by
    unfold kNames at h
    split at h
    · simp only [Bool.and_eq_true] at h
      obtain ⟨n1, n2, n3⟩ := kNames_sound y is _ h.2
      obtain ⟨l1, l2⟩ := loc_of y h.1.2
      rename_i x p es'
      have e1 := asg_one (ea := .Name x p) (es := es') (env := X.env) rfl
      refine ⟨pgs_cons (pg_name (by rw [y.N]; exact y.nd) (at_of y h.1.1) l1 l2) n1 (by rw [e1]; rfl), by rw [e1, List.length_cons, n2]; rfl, ?_⟩
      rw [e1, List.findIdx?_cons, n3]
      rfl
    · cases h
theorem swap_none {K : Ck} {X : Cx} (y : Sy K X) {es vs : List Expr} {k k2 : Nat} {p p2 : Pos} (h : anyCell K es = true) : swappedStores [.Tuple es k p] (.Tuple vs k2 p2) X.env = pure none := by
  unfold anyCell at h
  obtain ⟨e, he, hc⟩ := List.any_eq_true.mp h
  have short : ∀ line : Nat, (es.filterMap fun | .Name id pos => if X.env.kindOf id == some .local && pos.line == line then some id else none | _ => none).length ≠ es.length := fun line z => by
    have q := List.filterMap_length_eq_length.mp z e he
    cases e with
    | Name x pos =>
      dsimp only at hc q
      have k : X.env.kindOf x = K.sc.names.lookup x := by unfold PySem.Env.kindOf; rw [y.sc]
      rw [k] at q
      simp only [Bool.not_eq_true', decide_eq_false_iff_not] at hc
      have : (K.sc.names.lookup x == some NameKind.local) = false := by simpa using hc
      rw [this] at q
      simp at q
    | _ => simp at q
  unfold swappedStores
  dsimp only
  split
  · rfl
  · split
    · rfl
    · split
      · rfl
      · rename_i z
        exact (z (by rw [Bool.or_eq_true]; exact .inl (bne_iff_ne.mpr (short _)))).elim
theorem sS0 (hfk : X.env.blockKind = .function) (g : Gd G xf C K X) (y : Sy K X) (tk : Takes X Wx) : ∀ (s : S) (st : Stmt), kS0 K s st = true → PS X st (TSt G xf Wx C s) := by
  intro s st h
  have nd : X.N.Nodup := by rw [y.N]; exact y.nd
  cases s
  case set i x o =>
    simp only [kS0] at h
    split at h
    · simp only [Bool.and_eq_true, Bool.or_eq_true] at h
      obtain ⟨⟨⟨⟨h1, h2⟩, h3⟩, h4⟩, h5⟩ := h
      obtain ⟨q1, q2⟩ := set_any g y tk h1 h2 h3 (h5.imp (fun q => by simpa using q) (fun q => by simpa using q))
      cases o with
      | false => exact q1
      | true =>
        have h6 : freshX x = true ∧ K.hot = false := by simpa using h4
        exact q2 h6.1 h6.2
    · cases h
  case setG t x =>
    simp only [kS0] at h
    split at h
    · rename_i es k p e pos
      simp only [Bool.and_eq_true] at h
      obtain ⟨⟨h1, h2⟩, h3⟩ := h
      refine s_setG (fun hh => sTg g.hK (g.calm hh) y t _ h1) (sE x K X Wx _ g y tk h2).1 (by cases e <;> rfl) ?_ rfl
      cases e <;> first | rfl | skip
      rename_i vs k2 p2
      simp only [Bool.or_eq_true, decide_eq_true_eq] at h3
      unfold swappedStores
      rcases h3 with h3 | h3
      · have e2 : (es.length == 2) = false := by simp; omega
        have e3 : (es.length == 3) = false := by simp; omega
        simp [e2, e3]
      · dsimp only
        repeat' split
        all_goals first | rfl | (simp [h3]; done) | skip
    · cases h
  case par ts xs =>
    simp only [kS0] at h
    split at h
    · rename_i es k p vs k2 p2 pos
      cases hn : swNames K es vs with
      | none =>
        rw [hn] at h
        simp only [Bool.and_eq_true, decide_eq_true_eq] at h
        obtain ⟨⟨⟨⟨h1, h2⟩, h3⟩, h4⟩, h5⟩ := h
        have hh := g.calm2 (by simpa using h5)
        have pm := kM_sound g y tk _ xs vs h4
        obtain ⟨n1, n2, n3⟩ := kNames_sound y _ _ h1
        exact s_parT (fun _ => hh) n1 (by rw [n2, List.length_map]) n3 h3 pm (swap_none y h2)
      | some ns =>
        rw [hn] at h
        simp only [Bool.and_eq_true, decide_eq_true_eq] at h
        obtain ⟨⟨⟨⟨h1, h2⟩, h3⟩, h4⟩, h5⟩ := h
        have hh := g.calm2 (by simpa using h5)
        have pm := kM_sound g y tk _ xs vs h4
        unfold swNames at hn
        split at hn
        · rename_i hc
          simp only [Bool.and_eq_true, Bool.not_eq_true'] at hc
          obtain ⟨⟨⟨c1, c2⟩, c3⟩, c4⟩ := hc
          have c1 := eq_of_beq c1
          split at hn
          · split at hn
            · rename_i hd
              simp only [Bool.and_eq_true, decide_eq_true_eq, Bool.not_eq_true'] at hd
              obtain ⟨⟨⟨d1, d2⟩, d3⟩, d4⟩ := hd
              cases hn
              match ts, h1, pm, h2, h3 with
              | [(i, oi), (j, oj)], _, pm, h2, h3 =>
                match vs, c1, c2, c3, c4, pm with
                | [va, vb], c1, c2, c3, c4, pm =>
                  have a1 := List.all_eq_true.mp h2 0 (by simp)
                  have a2 := List.all_eq_true.mp h2 1 (by simp)
                  have hne := ne_of_beq0 d4
                  rw [← y.sc] at d2 d3
                  exact s_par2 (fun _ => hh) nd (at_of y a1) (at_of y a2) (by simpa using h3) d2 d3 pm (sw2 hfk rfl c2 c3 c4 d1 d2 d3 hne)
            · cases hn
          · split at hn
            · rename_i hd
              simp only [Bool.and_eq_true, decide_eq_true_eq, Bool.not_eq_true'] at hd
              obtain ⟨⟨⟨⟨⟨⟨⟨d1, d1'⟩, d2⟩, d3⟩, d4⟩, d5⟩, d6⟩, d7⟩ := hd
              cases hn
              match ts, h1, pm, h2, h3 with
              | [(i, oi), (j, oj), (l, ol)], _, pm, h2, h3 =>
                match vs, c1, c2, c3, c4, pm with
                | [va, vb, vc], c1, c2, c3, c4, pm =>
                  have a1 := List.all_eq_true.mp h2 0 (by simp)
                  have a2 := List.all_eq_true.mp h2 1 (by simp)
                  have a3 := List.all_eq_true.mp h2 2 (by simp)
                  have n1 := ne_of_beq0 d5
                  have n2 := ne_of_beq0 d6
                  have n3 := ne_of_beq0 d7
                  have h3' : (i ≠ j ∧ i ≠ l) ∧ j ≠ l := by simpa using h3
                  rw [← y.sc] at d2 d3 d4
                  exact s_par3 (fun _ => hh) nd (at_of y a1) (at_of y a2) (at_of y a3) h3'.1.1 h3'.1.2 h3'.2 d2 d3 d4 pm (sw3 hfk rfl c2 c3 c4 d1 d1' d2 d3 d4 n1 n2 n3)
            · cases hn
          · cases hn
        · cases hn
    · cases h
  case stx i k x =>
    simp only [kS0] at h
    split at h
    · simp only [Bool.and_eq_true] at h
      obtain ⟨⟨⟨h1, h2⟩, h3⟩, h4⟩ := h
      obtain ⟨v1, v2, v3⟩ := vis_of y h2
      exact s_stx (by have := g.un; omega) (at_of y h1) v1 v2 v3 (sE k K X Wx _ g y tk h3).1 (sE x K X Wx _ g y tk h4).1
    · cases h
  case stf i f x =>
    simp only [kS0] at h
    split at h
    · simp only [Bool.and_eq_true, decide_eq_true_eq] at h
      obtain ⟨⟨⟨⟨h1, h2⟩, rfl⟩, h4⟩, h5⟩ := h
      obtain ⟨v1, v2, v3⟩ := vis_of y h2
      exact s_stf (g.fld _ (by simpa using h4)) (at_of y h1) v1 v2 v3 (sE x K X Wx _ g y tk h5).1
    · cases h
  case app i xs =>
    simp only [kS0] at h
    split at h
    · split at h
      · rename_i hm
        simp only [Bool.and_eq_true, decide_eq_true_eq] at h
        obtain ⟨a, rfl⟩ := one_of h.2
        obtain ⟨x, px, apos, cpos, rfl, m1, m2, m3, m4, m5⟩ := meth_of y hm
        obtain ⟨q1, q2⟩ := sEs xs K X Wx _ g y tk h.1
        exact s_app (meth_c m1 m2 m3 m4 m5 (nost1 h.1)) q1 q2
      · cases h
    · cases h
  case ext i xs =>
    simp only [kS0] at h
    split at h
    · split at h
      · rename_i hm
        simp only [Bool.and_eq_true, decide_eq_true_eq] at h
        obtain ⟨a, rfl⟩ := one_of h.2
        obtain ⟨x, px, apos, cpos, rfl, m1, m2, m3, m4, m5⟩ := meth_of y hm
        obtain ⟨q1, q2⟩ := sEs xs K X Wx _ g y tk h.1
        exact s_ext g.hK (meth_c m1 m2 m3 m4 m5 (nost1 h.1)) q1 q2
      · cases h
    · cases h
  case popx i xs =>
    simp only [kS0] at h
    split at h
    · split at h
      · rename_i hm
        simp only [Bool.and_eq_true, decide_eq_true_eq] at h
        obtain ⟨a, rfl⟩ := one_of h.2
        obtain ⟨x, px, apos, cpos, rfl, m1, m2, m3, m4, m5⟩ := meth_of y hm
        obtain ⟨q1, q2⟩ := sEs xs K X Wx _ g y tk h.1
        exact s_popx (meth_c m1 m2 m3 m4 m5 (nost1 h.1)) q1 q2
      · cases h
    · cases h
  case pop j i =>
    simp only [kS0] at h
    split at h
    · simp only [Bool.and_eq_true] at h
      obtain ⟨⟨h1, h2⟩, h3⟩ := h
      obtain ⟨l1, l2⟩ := loc_of y h2
      split at h3
      · rename_i as hm
        cases as with
        | nil =>
          obtain ⟨x, px, apos, cpos, rfl, m1, m2, m3, m4, m5⟩ := meth_of y hm
          exact s_pop m1 m2 m3 m4 rfl m5 nd (at_of y h1) l1 l2
        | cons a as => cases h3
      · cases h3
    · cases h
  case popat j i xs =>
    simp only [kS0] at h
    split at h
    · simp only [Bool.and_eq_true] at h
      obtain ⟨⟨h1, h2⟩, h3⟩ := h
      obtain ⟨l1, l2⟩ := loc_of y h2
      split at h3
      · rename_i hm
        simp only [Bool.and_eq_true, decide_eq_true_eq] at h3
        obtain ⟨a, rfl⟩ := one_of h3.2
        obtain ⟨x, px, apos, cpos, rfl, m1, m2, m3, m4, m5⟩ := meth_of y hm
        obtain ⟨q1, q2⟩ := sEs xs K X Wx _ g y tk h3.1
        exact s_popat (meth_c m1 m2 m3 m4 m5 (nost1 h3.1)) q1 q2 nd (at_of y h1) l1 l2
      · cases h3
    · cases h
  case apppop l i xs =>
    simp only [kS0] at h
    split at h
    · split at h
      · rename_i hm
        split at h
        · rename_i hm2
          simp only [Bool.and_eq_true, decide_eq_true_eq] at h
          obtain ⟨a, rfl⟩ := one_of h.2
          obtain ⟨x, px, apos, cpos, rfl, m1, m2, m3, m4, m5⟩ := meth_of y hm2
          obtain ⟨x', px', apos', cpos', rfl, n1, n2, n3, n4, n5⟩ := meth_of y hm
          obtain ⟨q1, q2⟩ := sEs xs K X Wx _ g y tk h.1
          exact s_apppop (meth_c m1 m2 m3 m4 m5 (nost1 h.1)) (meth_c n1 n2 n3 n4 n5 rfl) q1 q2
        · cases h
      · cases h
    · cases h
  case ex x =>
    simp only [kS0] at h
    split at h
    · simp only [Bool.and_eq_true] at h
      exact s_ex (sE x K X Wx _ g y tk h.1).1 (swaps_no (by simpa using h.2))
    · cases h
  case ret x =>
    simp only [kS0] at h
    split at h
    · exact s_ret (sE x K X Wx _ g y tk h).1
    · split at h
      · exact s_retN
      · cases h
    · cases h
  case retc x =>
    simp only [kS0] at h
    split at h
    · simp only [Bool.and_eq_true] at h
      obtain ⟨⟨h1, h2⟩, h3⟩ := h
      exact s_retc (sF x K X Wx _ (g.hot2 (by simpa using h3)) g y tk h2 h1)
    · cases h
  case brk =>
    simp only [kS0] at h
    split at h
    · exact s_brk
    · cases h
  case cnt =>
    simp only [kS0] at h
    split at h
    · exact s_cnt
    · cases h
  case pas =>
    simp only [kS0] at h
    split at h
    · exact s_pas
    · exact s_doc
    · cases h
  case bad => exact s_bad
  case rse c x =>
    cases x with
    | no =>
      simp only [kS0] at h
      split at h
      · simp only [Bool.and_eq_true, decide_eq_true_eq] at h
        obtain ⟨h1, h2⟩ := h
        obtain ⟨g1, g2⟩ := gl_of y h1
        obtain ⟨m1, _, _, m4⟩ := g.exs _ _ _ h2
        exact s_rse0 g.calm (m4 rfl) tk g1 m1 g2
      · cases h
    | so x =>
      simp only [kS0] at h
      split at h
      · simp only [Bool.and_eq_true, decide_eq_true_eq] at h
        obtain ⟨⟨⟨h1, h2⟩, h3⟩, h4⟩ := h
        obtain ⟨g1, g2⟩ := gl_of y h1
        obtain ⟨m1, m2, m3, _⟩ := g.exs _ _ _ h2
        exact s_rse1 g.calm m3 (fun _ => m2 rfl) tk g1 m1 (c_cons (sE x K X Wx _ g y tk h4).1 c_nil (star_one h3)) g2 (star_one h3)
      · cases h
  all_goals (simp only [kS0] at h; cases h)
end
end Ev

set_option maxRecDepth 100000
set_option maxHeartbeats 4000000
namespace Ev
open PySem PySem.Spec PyProof.Rows L2

section
variable {xf : Nat → Option Str}
mutual
theorem sS : ∀ (G : GG) (C : Cfg) (s : S) (K : Ck) (X : Cx) (Wx : L2.WX) (st : Stmt), (X.stack = X.env :: X.outer ∧ X.env.frame = some X.env.locals) → X.env.blockKind = .function → PassesOwn (model X.prog X.w) X.A X.env X.xe → Gd G xf C K X → Sy K X → Takes X Wx → kS s K st = true → PS X st (TSt G xf Wx C s)
  | G, C, .iff c a b, K, X, Wx, st, hst, hf, hp, g, y, tk, h => by
    unfold kS at h
    split at h
    · simp only [Bool.and_eq_true] at h
      exact s_iff (sE c K X Wx _ g y tk h.1.1).2 (sSs G C a K X Wx _ hst hf hp g y tk h.1.2) (sSs G C b K X Wx _ hst hf hp g y tk h.2)
    · cases h
  | G, C, .whl c b, K, X, Wx, st, hst, hf, hp, g, y, tk, h => by
    unfold kS at h
    split at h
    · simp only [Bool.and_eq_true] at h
      exact s_whl hp (sE c K X Wx _ g y tk h.1).2 (sSs G C b K X Wx _ hst hf hp g y tk h.2)
    · cases h
  | G, C, .for t it b, K, X, Wx, st, hst, hf, hp, g, y, tk, h => by
    unfold kS at h
    split at h
    · rename_i tg iter sb pos
      simp only [Bool.and_eq_true] at h
      exact s_for hp g.calm (fun _ => sI it K X Wx tg iter g y tk h.1.2) (fun hh => sTg g.hK (g.calm hh) y t tg h.1.1.2) (fun _ => sSs G C b K X Wx sb hst hf hp g y tk h.2) fun z => by
        have h4 := h.1.1.1
        cases iter <;> first | rfl | cases h4
    · cases h
  | G, C, .frz is s, K, X, Wx, st, hst, hf, hp, g, y, tk, h => by
    unfold kS at h
    exact s_frz (sS G C s K X Wx st hst hf hp g y tk h)
  | G, C, .tri b hs, K, X, Wx, st, hst, hf, hp, g, y, tk, h => by
    by_cases hot : C.hot = true
    · refine ⟨fun pins s σ H D I ⟨m, e, w, r, q⟩ => ?_⟩
      rw [ex, calm_hot hot] at q
      exact q.elim
    · have hot : C.hot = false := by simpa using hot
      unfold kS at h
      split at h
      · rename_i sb hds pos
        simp only [Bool.and_eq_true] at h
        obtain ⟨⟨h1, h2⟩, h3⟩ := h
        have body : ∀ (W : L2.WX) (pn : List (Addr × Obj)) (xe : Value → Shared → Prop), Takes (X.tr pn xe) W → PassesOwn (model X.prog X.w) X.A X.env xe → PSs (X.tr pn xe) sb (TSs G xf W C b) := fun W pn xe tk' hp' => sSs G C b K (X.tr pn xe) W sb hst hf hp' (g.tr hot) y.tr tk' h2
        obtain ⟨q1, q2⟩ := sHs G C hs K X hds hst hf g y hot h3
        cases hn : noNames hs with
        | true =>
          obtain ⟨z1, z2⟩ := q1 hn
          cases hds with
          | nil => cases h1
          | cons h0 hds => exact s_tri_many hst.1 hst.2 tk hn z2 body z1
        | false =>
          obtain ⟨c, i, s, x, np, n, b0, suite, pos', rfl, rfl, z1, z2, z3, z4⟩ := q2 hn
          exact s_tri_as hst.1 hst.2 (by rw [y.N]; exact y.nd) z2 z3 z1 tk g.zp0 (fun c' r hr => g.sub c' c r hr) body z4
      · cases h
  | G, C, .set i x o, K, X, Wx, st, hst, hf, hp, g, y, tk, h => sS0 hf g y tk _ st (by unfold kS at h; exact h)
  | G, C, .setG i x, K, X, Wx, st, hst, hf, hp, g, y, tk, h => sS0 hf g y tk _ st (by unfold kS at h; exact h)
  | G, C, .par i x, K, X, Wx, st, hst, hf, hp, g, y, tk, h => sS0 hf g y tk _ st (by unfold kS at h; exact h)
  | G, C, .stx i x z, K, X, Wx, st, hst, hf, hp, g, y, tk, h => sS0 hf g y tk _ st (by unfold kS at h; exact h)
  | G, C, .stf i x z, K, X, Wx, st, hst, hf, hp, g, y, tk, h => sS0 hf g y tk _ st (by unfold kS at h; exact h)
  | G, C, .augx i x o z, K, X, Wx, st, hst, hf, hp, g, y, tk, h => sS0 hf g y tk _ st (by unfold kS at h; exact h)
  | G, C, .app i x, K, X, Wx, st, hst, hf, hp, g, y, tk, h => sS0 hf g y tk _ st (by unfold kS at h; exact h)
  | G, C, .ext i x, K, X, Wx, st, hst, hf, hp, g, y, tk, h => sS0 hf g y tk _ st (by unfold kS at h; exact h)
  | G, C, .pop i x, K, X, Wx, st, hst, hf, hp, g, y, tk, h => sS0 hf g y tk _ st (by unfold kS at h; exact h)
  | G, C, .popat i x z, K, X, Wx, st, hst, hf, hp, g, y, tk, h => sS0 hf g y tk _ st (by unfold kS at h; exact h)
  | G, C, .popx i x, K, X, Wx, st, hst, hf, hp, g, y, tk, h => sS0 hf g y tk _ st (by unfold kS at h; exact h)
  | G, C, .apppop i x z, K, X, Wx, st, hst, hf, hp, g, y, tk, h => sS0 hf g y tk _ st (by unfold kS at h; exact h)
  | G, C, .ex x, K, X, Wx, st, hst, hf, hp, g, y, tk, h => sS0 hf g y tk _ st (by unfold kS at h; exact h)
  | G, C, .ret x, K, X, Wx, st, hst, hf, hp, g, y, tk, h => sS0 hf g y tk _ st (by unfold kS at h; exact h)
  | G, C, .retc x, K, X, Wx, st, hst, hf, hp, g, y, tk, h => sS0 hf g y tk _ st (by unfold kS at h; exact h)
  | G, C, .brk, K, X, Wx, st, hst, hf, hp, g, y, tk, h => sS0 hf g y tk _ st (by unfold kS at h; exact h)
  | G, C, .cnt, K, X, Wx, st, hst, hf, hp, g, y, tk, h => sS0 hf g y tk _ st (by unfold kS at h; exact h)
  | G, C, .pas, K, X, Wx, st, hst, hf, hp, g, y, tk, h => sS0 hf g y tk _ st (by unfold kS at h; exact h)
  | G, C, .rse c x, K, X, Wx, st, hst, hf, hp, g, y, tk, h => sS0 hf g y tk _ st (by unfold kS at h; exact h)
  | G, C, .bad, K, X, Wx, st, hst, hf, hp, g, y, tk, h => s_bad
theorem sSs : ∀ (G : GG) (C : Cfg) (s : Ss) (K : Ck) (X : Cx) (Wx : L2.WX) (st : List Stmt), (X.stack = X.env :: X.outer ∧ X.env.frame = some X.env.locals) → X.env.blockKind = .function → PassesOwn (model X.prog X.w) X.A X.env X.xe → Gd G xf C K X → Sy K X → Takes X Wx → kSs s K st = true → PSs X st (TSs G xf Wx C s)
  | G, C, .nil, K, X, Wx, st, hst, hf, hp, g, y, tk, h => by
    unfold kSs at h
    cases st with
    | nil => exact ss_nil
    | cons a b => cases h
  | G, C, .cons s r, K, X, Wx, st, hst, hf, hp, g, y, tk, h => by
    unfold kSs at h
    split at h
    · rw [Bool.and_eq_true] at h
      exact ss_cons (sS G C s K X Wx _ hst hf hp g y tk h.1) (sSs G C r K X Wx _ hst hf hp g y tk h.2)
    · cases h
theorem sHs : ∀ (G : GG) (C : Cfg) (hs : Hs) (K : Ck) (X : Cx) (hds : List ExceptHandler), (X.stack = X.env :: X.outer ∧ X.env.frame = some X.env.locals) → X.env.blockKind = .function → Gd G xf C K X → Sy K X → C.hot = false → kHs hs K hds = true →
    (noNames hs = true → HdsOk X hds (hsL G xf C hs) ∧ hsSub X.K G C hs) ∧ (noNames hs = false → ∃ c i s x np n b₀ suite pos', hs = .cons c (some i) s .nil ∧ hds = [.ExceptHandler (some (.Name x np)) (some n) (b₀ :: suite) pos'] ∧ Names X x (.ref (G.cl c)) ∧ X.N[i]? = some n ∧ X.env.kindOf n = some .local ∧
      ∀ (a : Addr) (oe : Obj) (cls : Value) (d : Option Addr) (pn : List (Addr × Obj)), Zc cls d oe → (∃ vs, oe.data = .fields vs) → PSs (X.suite a ((a, oe) :: pn)) (b₀ :: suite) (TSs (G.put (fun a' c' p' => a' = a ∧ cls = .ref (G.cl c') ∧ p' = d) xf) xf (fun _ _ _ _ => False) { C with hot := true } s))
  | G, C, .nil, K, X, hds, hst, hf, g, y, hot, h => by
    unfold kHs at h
    refine ⟨fun _ => ?_, fun z => by cases z⟩
    cases hds with
    | nil => exact ⟨.nil, trivial⟩
    | cons a b => cases h
  | G, C, .cons c i s r, K, X, hds, hst, hf, g, y, hot, h => by
    unfold kHs at h
    split at h
    · rename_i i x np n b0 sb pos'
      simp only [Bool.and_eq_true, decide_eq_true_eq] at h
      obtain ⟨⟨⟨⟨⟨h0, h1⟩, h2⟩, h3⟩, h4⟩, h5⟩ := h
      refine ⟨fun z => by (unfold noNames at z; cases z), fun _ => ?_⟩
      have hr : r = .nil := by
        cases r with
        | nil => rfl
        | cons a b c d => cases h0
      subst hr
      obtain ⟨g1, g2⟩ := gl_of y h1
      obtain ⟨⟨c0, b⟩, hl, hc⟩ := Option.map_eq_some_iff.mp h2
      cases hc
      obtain ⟨m1, _, _⟩ := g.exs _ _ _ hl
      refine ⟨c0, i, s, x, np, n, b0, sb, pos', rfl, rfl, ⟨g1, g2, .inl m1⟩, at_of y h3, by unfold PySem.Env.kindOf; rw [y.sc]; exact h4, fun a oe cls d pn hz hv => ?_⟩
      exact sSs _ _ s K.hotK (X.suite a ((a, oe) :: pn)) _ _ hst hf PassesOwn.never (g.suite fun a' c' p z => by
        obtain ⟨rfl, rfl, rfl⟩ := z
        exact ⟨oe, List.mem_cons_self, hz, hv⟩) y.suite takes_none5 h5
    · rename_i x np b0 sb pos' hds'
      simp only [Bool.and_eq_true, decide_eq_true_eq] at h
      obtain ⟨⟨⟨⟨h1, h2⟩, h3⟩, h4⟩, h5⟩ := h
      obtain ⟨g1, g2⟩ := gl_of y h1
      obtain ⟨⟨c0, b⟩, hl, hc⟩ := Option.map_eq_some_iff.mp h2
      cases hc
      obtain ⟨m1, _, _⟩ := g.exs _ _ _ hl
      obtain ⟨q1, _⟩ := sHs G C r K X hds' hst hf g y hot h5
      obtain ⟨z1, z2⟩ := q1 h3
      refine ⟨fun _ => ⟨.cons ⟨g1, g2, .inl m1⟩ (fun a oe cls d pn hz hv => ?_) z1, fun c' r hr => g.sub c' _ r hr, z2⟩, fun z => by (unfold noNames at z; rw [h3] at z; cases z)⟩
      exact sSs _ _ s K.hotK (X.suite a ((a, oe) :: pn)) _ _ hst hf PassesOwn.never (g.suite0 hot) y.suite takes_none5 h4
    · cases h
end
end
/-! ### plain parameters -/
def plainP (a : Arguments) (ps : List Str) : Bool := a.posonlyargs.isEmpty && a.vararg.isNone && a.kwonlyargs.isEmpty && a.kwarg.isNone && decide (a.args.map (·.arg) = ps)
theorem zip_get : ∀ (ps : List Str) (us : List Value), us.length = ps.length → ∀ n ∈ ps, ∃ u, (ps.zip us).lookup n = some u
  | [], _, _, _, h => by cases h
  | p :: ps, [], hl, _, _ => by cases hl
  | p :: ps, u :: us, hl, n, h => by
    rw [List.zip_cons_cons, List.lookup_cons]
    cases hb : n == p with
    | true => exact ⟨u, rfl⟩
    | false =>
      rcases List.mem_cons.mp h with e | h
      · subst e; simp at hb
      · exact zip_get ps us (by simpa using hl) n h
theorem zip_some (ps : List Str) (us : List Value) (hl : us.length = ps.length) (qs : List Str) (hq : ∀ n ∈ qs, n ∈ ps) : (qs.filter fun n => ((ps.zip us).lookup n).isNone) = [] := by
  rw [List.filter_eq_nil_iff]
  intro n hn
  obtain ⟨u, h⟩ := zip_get ps us hl n (hq n hn)
  rw [h]
  simp
theorem fm_congr {α β : Type} {f g : α → Option β} : ∀ l : List α, (∀ a ∈ l, f a = g a) → l.filterMap f = l.filterMap g
  | [], _ => rfl
  | a :: l, h => by
    rw [List.filterMap_cons, List.filterMap_cons, h a List.mem_cons_self, fm_congr l fun b hb => h b (List.mem_cons_of_mem _ hb)]
theorem zip_look : ∀ (ps : List Str) (us : List Value), ps.Nodup → us.length = ps.length → (ps.filterMap fun n => ((ps.zip us).lookup n).map (n, ·)) = ps.zip us
  | [], _, _, _ => by simp
  | p :: ps, [], _, hl => by cases hl
  | p :: ps, u :: us, nd, hl => by
    rw [List.nodup_cons] at nd
    have ih := zip_look ps us nd.2 (by simpa using hl)
    rw [List.zip_cons_cons, List.filterMap_cons]
    have e1 : (((p, u) :: ps.zip us).lookup p).map (p, ·) = some (p, u) := by rw [List.lookup_cons, beq_self_eq_true]; rfl
    rw [e1]
    dsimp only
    congr 1
    rw [← ih]
    refine fm_congr _ fun n hn => ?_
    have hne : (n == p) = false := by
      cases hb : n == p with
      | false => rfl
      | true => exact absurd (eq_of_beq hb ▸ hn) nd.1
    rw [List.lookup_cons, hne, ih]
theorem plain_binds {x qual : Str} {a : Arguments} {body : List Stmt} {scope : Scope} {kV doc pm : Value} {an : Option Addr} {cdv ct : Value} {ps : List Str} {us : List Value} (h : plainP a ps = true) (nd : ps.Nodup) (hl : us.length = ps.length) :
    bindArgs (PySem.W.fnOf x qual a body scope .none kV doc pm an cdv ct) ⟨us, []⟩ = pure (ps.zip us) := by
  obtain ⟨po, as, va, ko, kd, kw, df⟩ := a
  unfold plainP at h
  simp only [Bool.and_eq_true, List.isEmpty_iff, Option.isNone_iff_eq_none, decide_eq_true_eq] at h
  obtain ⟨⟨⟨⟨rfl, rfl⟩, rfl⟩, rfl⟩, rfl⟩ := h
  have e1 := zip_look (as.map (·.arg)) us nd hl
  have e2 := zip_some (as.map (·.arg)) us hl (as.map (·.arg)) fun _ h => h
  have hl2 : us.length = as.length := by simpa using hl
  unfold bindArgs PySem.W.fnOf seqItems?
  simp [hl2, e1, e2]
  have en : notAStandIn Value.none = pure () := rfl
  have e4 : (List.take ((List.map (fun x : Arg => x.arg) [] ++ List.map (fun x : Arg => x.arg) as).length - (List.drop ((#[] : Array Value).size - (List.map (fun x : Arg => x.arg) [] ++ List.map (fun x : Arg => x.arg) as).length) ([] : List Value)).length) (List.map (fun x : Arg => x.arg) ([] : List Arg) ++ List.map (fun x : Arg => x.arg) as)) = as.map (·.arg) := by
    simp only [List.map_nil, List.nil_append, List.drop_nil, List.length_nil, Nat.sub_zero]
    exact List.take_of_length_le (Nat.le_refl _)
  have e5 : (as.filterMap ((fun n => Option.map (fun x => (n, x)) (List.lookup n ((List.map (fun x => x.arg) as).zip us))) ∘ fun x : Arg => x.arg)) = (as.map (·.arg)).zip us := by
    have e6 := e1
    rw [List.filterMap_map] at e6
    exact e6
  rw [en]
  simp only [e4, e2, e5]
  rfl
end Ev

set_option maxRecDepth 100000
set_option maxHeartbeats 4000000
/-! All defs of a program keep what the machine says. -/
namespace Ev
open PySem PySem.Spec PyProof.Rows L2

/-- a def's text, its names -/
structure AF where
  name : Str
  qual : Str
  params : Arguments
  body : List Stmt
  scope : Scope
  N : List Str
def Tabs.ck (T : Tabs) (a : AF) : Ck := { N := a.N, sc := a.scope, fnc := fun _ => true, fnT := T.fnT, clT := T.clT, glT := T.glT, bl := T.bl, hot := false, fds := T.fds, exT := T.exT, rp := decide (T.rq = some a.qual) }
def chkFn (T : Tabs) (a : AF) (f : Fn) : Bool :=
  plainP a.params (a.N.take f.np) && decide (f.np ≤ a.N.length) && decide (a.N.length = f.ns) && decide a.N.Nodup &&
  (match a.scope.kind with | .function => true | _ => false) && !a.scope.isCoroutine && !a.scope.isGenerator &&
  ((a.N.take f.np).all fun x => decide (a.scope.names.lookup x = some .local) || decide (a.scope.names.lookup x = some .cell)) && (a.scope.names.all fun y => decide (y.2 ≠ .free)) &&
  kSs f.body (T.ck a) a.body
/-- an error's __init__(self, x): self.f = x -/
def xiB (a : AF) (np : Nat) (f : Str) : Bool := match a.N, a.body with
  | [s, v], [.Assign [.Attribute (.Name s' _) g _] (.Name v' _) _] => decide (s' = s) && decide (v' = v) && decide (g = f) && decide (np = 2) && decide (a.scope.names.lookup s = some .local) && decide (a.scope.names.lookup v = some .local) &&
      !(s == ("__debug__" : Str)) && !(s == ("__classdict__" : Str)) && !(v == ("__debug__" : Str)) && !(v == ("__classdict__" : Str))
  | _, _ => false
structure PF (P : Prog) (G : GG) (prog : Program) (w : World) (mg : Str → Option Value) (AS : List AF) (T : Tabs) : Prop where
  len : AS.length = P.fns.length
  fn : ∀ (j : Nat) (a : AF), AS[j]? = some a → ∃ fd, FunD G.K a.name a.qual a.params a.body a.scope [] [] (G.fa j) fd
  chk : ∀ (j : Nat) (a : AF) (f : Fn), AS[j]? = some a → P.fns[j]? = some f → chkFn T a f = true
  fnT : ∀ (x : Str) (j : Nat), T.fnT.lookup x = some j → mg x = some (.ref (G.fa j)) ∧ j < P.fns.length
  clT : ∀ (x : Str) (c : Nat), T.clT.lookup x = some c → mg x = some (.ref (G.cl c)) ∧ c < P.nc
  cl : ∀ c, c < P.nc → ∃ k : Cl, P.cls c = some k ∧ k.ini < P.fns.length ∧ Mk G.K (G.cl c) (G.fa k.ini)
  gl : ∀ (x : Str) (j : Nat), T.glT.lookup x = some j → ∃ v u d, mg x = some u ∧ RelV v u ∧ P.gs[j]? = some d ∧ ∀ F rho n H, R G F rho n H v d
  blt : ∀ n ∈ T.bl, mg n = none
  fld : ∀ f ∈ T.fds, ∀ c, c < P.nc → Cls G.K (G.cl c) ∧ NoAttr G.K (G.cl c) f
  eq : ∀ (c : Nat) (k : Cl) (j : Nat), P.cls c = some k → k.eqf = some j → j < P.fns.length ∧ PySem.W.findIn G.K (.ref (G.cl c)) "__eq__" = some (some (.ref (G.fa j))) ∧ PySem.W.isFn G.K (.ref (G.fa j)) = true ∧ PySem.W.notFirst G.K (G.cl c) (.type "tuple") = true
  isa : ∀ X : Cx, X.K = G.K → IsaUse G X P.nc
  exT : ∀ (x : Str) (c : Nat) (b : Bool), T.exT.lookup x = some (c, b) → mg x = some (.ref (G.cl c)) ∧ b = (P.xf c).isSome ∧ (b = false → BareC G.K (G.cl c))
  exF : ∀ (c : Nat) (f : Str), P.xf c = some f → ∃ (j : Nat) (a : AF) (f0 : Fn), AS[j]? = some a ∧ P.fns[j]? = some f0 ∧ xiB a f0.np f = true ∧ OexC G.K (G.cl c) ∧ XfC G.K (G.cl c) ∧ PySem.W.findIn G.K (.ref (G.cl c)) f = some none ∧
    PySem.W.findIn G.K (.ref (G.cl c)) "__init__" = some (some (.ref (G.fa j))) ∧ PySem.W.typeIn G.K (.ref (G.fa j)) = some (.type "function")
  sub : ∀ (c' c : Nat) (b : Bool), P.sub.lookup (c', c) = some b → PySem.W.exmOne G.K (.ref (G.cl c')) (.ref (G.cl c)) = some b
  zp0 : ∀ a c p, ¬ G.zp a c p
  rl : ∀ (j : Nat) (a : AF), AS[j]? = some a → T.rq = some a.qual → P.rl = some j
section
variable {P : Prog} {G : GG} {xf : Nat → Option Str} {prog : Program} {w : World} {mg : Str → Option Value} {base : Heap} {AS : List AF} {T : Tabs}
def okFn (G : GG) (xf : Nat → Option Str) (prog : Program) (w : World) (mg : Str → Option Value) (base : Heap) (AS : List AF) (P : Prog) (k : Nat) (j : Nat) (sp : Sp) : Prop :=
  ∃ (a : AF) (f : Fn) (fd : FuncData), AS[j]? = some a ∧ P.fns[j]? = some f ∧ FunD G.K a.name a.qual a.params a.body a.scope [] [] (G.fa j) fd ∧ Binds G.K fd (a.N.take f.np) [] ∧ FnOk prog w G.K mg base (L2.CX prog w) k (G.fa j) fd (a.N.take f.np) sp
theorem fnScope_of {a : AF} {f : Fn} (h : chkFn T a f = true) : FnScope a.N (a.N.take f.np) a.scope ∧ plainP a.params (a.N.take f.np) = true ∧ f.np ≤ a.N.length ∧ a.N.length = f.ns ∧ a.N.Nodup ∧ kSs f.body (T.ck a) a.body = true := by
  unfold chkFn at h
  simp only [Bool.and_eq_true, decide_eq_true_eq, Bool.not_eq_true'] at h
  obtain ⟨⟨⟨⟨⟨⟨⟨⟨⟨h1, h2⟩, h3⟩, h4⟩, h5⟩, h6⟩, h7⟩, h8⟩, h9⟩, h10⟩ := h
  refine ⟨⟨?_, h6, h7, h4, ?_, fun x hx => ?_, fun y hy => ?_⟩, h1, h2, h3, h4, h10⟩
  · split at h5
    · assumption
    · cases h5
  · rw [List.length_take, Nat.min_eq_left h2]
  · have := List.all_eq_true.mp h8 x hx
    simpa using this
  · have := List.all_eq_true.mp h9 y hy
    simpa using this
theorem binds_of (F : PF P G prog w mg AS T) {j : Nat} {a : AF} {f : Fn} {fd : FuncData} (ha : AS[j]? = some a) (hf : P.fns[j]? = some f) (D : FunD G.K a.name a.qual a.params a.body a.scope [] [] (G.fa j) fd) : Binds G.K fd (a.N.take f.np) [] := by
  obtain ⟨_, h1, h2, h3, h4, _⟩ := fnScope_of (F.chk j a f ha hf)
  exact D.bindsN fun kV doc pm an cdv ct us hl => plain_binds h1 (h4.sublist (List.take_sublist _ _)) hl
theorem start_rel {m : Fm} {wd : Wd} {H : Hp} {vs : List V} {ds : List D} {N : List Str} {f : Fn} (r : RelW G m wd H) (ra : RA G m.F m.rho wd.length H vs ds) (hl : N.length = f.ns) (hn : ds.length = f.np) (hle : f.np ≤ N.length) : Rel G m (start f ds) wd (L2.start N vs) H := by
  have hv := ra.length
  refine ⟨r, ?_, fun i s h => ?_, fun i j d d' h1 h2 => ?_⟩
  · unfold Ev.start L2.start
    simp only [List.length_append, List.length_map, List.length_replicate]
    omega
  · unfold Ev.start at h
    unfold L2.start
    by_cases hi : i < ds.length
    · rw [List.getElem?_append_left (by simpa using hi), List.getElem?_map] at h
      rw [List.getElem?_eq_getElem hi] at h
      simp only [Option.map_some, Option.some.injEq] at h
      subst h
      obtain ⟨v, h1, h2⟩ := ra.get (List.getElem?_eq_getElem hi)
      refine ⟨v, ?_, h2⟩
      rw [List.getElem?_append_left (by simpa [hv] using hi), List.getElem?_map, h1]
      rfl
    · rw [List.getElem?_append_right (by simpa using hi)] at h
      rw [List.getElem?_replicate] at h
      split at h
      · cases h; trivial
      · cases h
  · unfold Ev.start at h1
    by_cases hi : i < ds.length
    · rw [List.getElem?_append_left (by simpa using hi), List.getElem?_map, List.getElem?_eq_getElem hi] at h1
      cases h1
    · rw [List.getElem?_append_right (by simpa using hi), List.getElem?_replicate] at h1
      split at h1 <;> cases h1
/-- an error's __init__ -/
theorem ok_xini (F : PF P G prog w mg AS T) {c : Nat} {f : Str} (hf : P.xf c = some f) (k : Nat) : ∃ fI fd ps, OexC G.K (G.cl c) ∧ PySem.W.findIn G.K (.ref (G.cl c)) "__init__" = some (some (.ref fI)) ∧ PySem.W.typeIn G.K (.ref fI) = some (.type "function") ∧
    FnOk prog w G.K mg base (L2.CX prog w) (k + 1) fI fd ps (spEx G c f) ∧ Binds G.K fd ps [] := by
  obtain ⟨j, a, f0, ha, hf0, hx, o1, _, o3, o4, o5⟩ := F.exF c f hf
  obtain ⟨fd, D⟩ := F.fn j a ha
  obtain ⟨S, h1, h2, h3, h4, _⟩ := fnScope_of (F.chk j a f0 ha hf0)
  refine ⟨_, fd, a.N.take f0.np, o1, o4, o5, ?_, binds_of F ha hf0 D⟩
  obtain ⟨nm, qual, params, body, scope, N⟩ := a
  unfold xiB at hx
  dsimp only at hx
  split at hx
  · rename_i s v s' p1 g p2 v' p3 p4 e2
    simp only [Bool.and_eq_true, decide_eq_true_eq, Bool.not_eq_true'] at hx
    obtain ⟨⟨⟨⟨⟨⟨⟨⟨⟨rfl, rfl⟩, rfl⟩, hn⟩, l1⟩, l2⟩, d1⟩, d2⟩, d3⟩, d4⟩ := hx
    refine D.ok S (fun vs H Q E h => ?_) fun cdv A outer sh H vs Q E hr hsp => ?_
    · obtain ⟨a, y, rfl, _⟩ := h
      rw [hn]
      rfl
    · have es : PE (cxOf (L2.CX prog w) prog w G.K mg base [s', v'] qual scope (G.fa j) cdv A outer sh H E) (.Name s' p1) (tVar 0) := pe_var rfl (.inl l1) d1 d2
      have ev : PE (cxOf (L2.CX prog w) prog w G.K mg base [s', v'] qual scope (G.fa j) cdv A outer sh H E) (.Name v' p3) (tVar 1) := pe_var rfl (.inl l2) d3 d4
      refine ⟨_, pss_one (ps_ost es ev rfl), ?_⟩
      obtain ⟨a, y, rfl, hH, hq⟩ := hsp
      exact ⟨y, rfl, .ref a, rfl, a, G.cl c, rfl, o1, o3, .inl ⟨hH, fun dx hd hne => hq dx hd hne⟩⟩
  · cases hx
/-- a def's context is good -/
theorem gd_of (F : PF P G prog w mg AS T) {a : AF} {qual : Str} {f : Addr} {cdv : Value} {A : Around} {outer : List PySem.Env} {s : Shared} {H : Hp} {E : XK} {k : Nat} {cf cm : Nat → List D → M D}
    (hxf : P.xf = xf) (hcf : ∀ j, j < P.fns.length → okFn G xf prog w mg base AS P (k + 2) j (spOf G xf (cf j)))
    (hcm : ∀ c kk, P.cls c = some kk → c < P.nc → okFn G xf prog w mg base AS P (k + 1) kk.ini (spIni G xf c (cm c)))
    (hr : Room (k + 2) (A.deeper (envOfC qual a.scope s.heap.objs.size f cdv))) (hrp : T.rq = some a.qual → A.guards = some []) : Gd G xf (cfgOf P cf cm) (T.ck a) (cxOf (L2.CX prog w) prog w G.K mg base a.N qual a.scope f cdv A outer s H E) := by
  have use : ∀ j, j < P.fns.length → FnUse G xf (cxOf (L2.CX prog w) prog w G.K mg base a.N qual a.scope f cdv A outer s H E) j (cf j) := fun j hj => by
    obtain ⟨a', f', fd, h1, h2, h3, h4, h5⟩ := hcf j hj
    exact ⟨k + 2, fd, _, h5, hr, h4, h3.kp⟩
  refine ⟨rfl, ?_, fun _ => rfl, fun _ => rfl, fun _ => rfl, fun x j h => ⟨(F.fnT x j h).1, fun _ => use j (F.fnT x j h).2⟩, fun _ j hj => use j hj, fun x c h => ⟨(F.clT x c h).1, (F.clT x c h).2, fun _ => ?_⟩, F.gl, F.blt, F.fld, fun c j _ h => ?_, F.isa _ rfl,
    fun x c b h => ⟨(F.exT x c b h).1, fun hb => ?_, fun _ => ⟨fun f hf => ?_⟩, (F.exT x c b h).2.2⟩, F.sub, fun _ => F.zp0, fun a c p z => absurd z (F.zp0 a c p), fun c => by rw [← hxf]; rfl, fun c f hf => ?_, fun hp => hrp (of_decide_eq_true hp)⟩
  · have := hr.un
    show (A.deeper _).units + 200 < cLine
    omega
  · obtain ⟨kk, h1, h2, h3⟩ := F.cl c (F.clT x c h).2
    obtain ⟨a', f', fd, h4, h5, h6, h7, h8⟩ := hcm c kk h1 (F.clT x c h).2
    exact ⟨k + 1, _, fd, _, h3, h8, hr, h7⟩
  · have h' : (P.cls c).bind (·.eqf) = some j := h
    cases z : P.cls c with
    | none => rw [z] at h'; cases h'
    | some kk =>
      rw [z] at h'
      obtain ⟨e1, e2, e3, e4⟩ := F.eq c kk j z h'
      exact ⟨⟨e2, e3, e4⟩, use j e1⟩
  · have := (F.exT x c b h).2.1
    rw [hb] at this
    rw [← hxf]
    exact Option.isSome_iff_exists.mp this.symm
  · rw [← hxf] at hf
    obtain ⟨fI, fd, ps, h1, h2, h3, h4, h5⟩ := ok_xini (base := base) F hf k
    exact ⟨k + 1, fI, fd, ps, h1, h2, h3, h4, hr, h5⟩
  · rw [← hxf] at hf
    obtain ⟨_, _, _, _, _, _, _, h5, h6, _⟩ := F.exF c f hf
    exact ⟨h5, h6⟩
theorem sy_of {a : AF} {qual : Str} {f : Addr} {cdv : Value} {A : Around} {outer : List PySem.Env} {s : Shared} {H : Hp} {E : XK} {base : Heap} (nd : a.N.Nodup) : Sy (T.ck a) (cxOf (L2.CX prog w) prog w G.K mg base a.N qual a.scope f cdv A outer s H E) :=
  ⟨rfl, nd, rfl, fun _ _ => rfl⟩
theorem sp_stk (j : Nat) (vs : List V) (H : Hp) (Q : VK) (E : XK) : ¬ spOf G xf (fun _ => stk) vs H Q E := fun ⟨_, _, _, _, _, q⟩ => q
theorem ok_run1 (F : PF P G prog w mg AS T) (hxf : P.xf = xf) {k : Nat} {cf cm : Nat → List D → M D} (hcf : ∀ j, j < P.fns.length → okFn G xf prog w mg base AS P (k + 2) j (spOf G xf (cf j)))
    (hcm : ∀ c kk, P.cls c = some kk → c < P.nc → okFn G xf prog w mg base AS P (k + 1) kk.ini (spIni G xf c (cm c))) (j : Nat) (hj : j < P.fns.length) : okFn G xf prog w mg base AS P (k + 3) j (spOf G xf (run1 P cf cm j)) := by
  obtain ⟨a, ha⟩ : ∃ a, AS[j]? = some a := ⟨AS[j]'(by rw [F.len]; exact hj), List.getElem?_eq_getElem _⟩
  obtain ⟨f, hf⟩ : ∃ f, P.fns[j]? = some f := ⟨P.fns[j], List.getElem?_eq_getElem _⟩
  obtain ⟨fd, D⟩ := F.fn j a ha
  obtain ⟨S, h1, h2, h3, h4, h5⟩ := fnScope_of (F.chk j a f ha hf)
  by_cases hrl : P.rl = some j
  · have e : run1 P cf cm j = fun _ => stk := funext fun ds => by unfold run1; rw [if_pos hrl]
    rw [e]
    exact ⟨a, f, fd, ha, hf, D, binds_of F ha hf D, ⟨fun vs H Q E q => absurd q (sp_stk j vs H Q E), fun A outer s H args us vs Q E _ _ _ _ q => absurd q (sp_stk j vs H Q E)⟩⟩
  have hnr : T.rq ≠ some a.qual := fun z => hrl (F.rl j a ha z)
  refine ⟨a, f, fd, ha, hf, D, binds_of F ha hf D, ?_⟩
  refine D.ok S (fun vs H Q E h => ?_) fun cdv A outer s H vs Q E hr hsp => ?_
  · obtain ⟨m, wd, ds, r, ra, q⟩ := h
    unfold run1 at q
    rw [if_neg hrl, hf] at q
    dsimp only at q
    split at q
    · rename_i hd
      rw [ra.length, hd, List.length_take, Nat.min_eq_left h2]
    · exact q.elim
  · have X : Cx := cxOf (L2.CX prog w) prog w G.K mg base a.N a.qual a.scope (G.fa j) cdv A outer s H E
    have tk : Takes (cxOf (L2.CX prog w) prog w G.K mg base a.N a.qual a.scope (G.fa j) cdv A outer s H E) (fun cls d _ H => E cls d H) := takes_of rfl rfl rfl rfl
    have hp : PassesOwn (model prog w) (A.deeper (envOfC a.qual a.scope s.heap.objs.size (G.fa j) cdv)) (envOfC a.qual a.scope s.heap.objs.size (G.fa j) cdv) (cxOf (L2.CX prog w) prog w G.K mg base a.N a.qual a.scope (G.fa j) cdv A outer s H E).xe := passes_of (X := cxOf (L2.CX prog w) prog w G.K mg base a.N a.qual a.scope (G.fa j) cdv A outer s H E) rfl
    have hb : (envOfC a.qual a.scope s.heap.objs.size (G.fa j) cdv).blockKind = .function := by
      show (if a.scope.kind.isAnnotationScope then ScopeKind.function else a.scope.kind) = .function
      rw [S.kind]
      rfl
    refine ⟨TSs G xf (fun cls d _ H => E cls d H) (cfgOf P cf cm) f.body, sSs _ _ f.body (T.ck a) _ _ a.body ⟨rfl, rfl⟩ hb hp (gd_of F hxf hcf hcm hr fun z => absurd z hnr) (sy_of h4) tk h5, ?_⟩
    obtain ⟨m, wd, ds, r, ra, q⟩ := hsp
    unfold run1 at q
    rw [if_neg hrl, hf] at q
    dsimp only at q
    split at q
    · rename_i hd
      refine ⟨m, _, wd, start_rel r ra h3 hd h2, ?_⟩
      unfold endF at q
      cases z : exs (cfgOf P cf cm) f.body (Ev.start f ds) wd with
      | ok fl w' =>
        rw [z] at q
        cases fl with
        | nx e => exact fun m' σ' H' x r => q .non m' H' x r.toRelW .non
        | rt d => exact fun m' v H' x r y => q v m' H' x r y
        | bk e => exact q.elim
        | ct e => exact q.elim
        | xc c x e => exact fun pn m' σ' H' x r y => q pn m' H' x r.toRelW y
      | exc c x w' => rw [z] at q; exact q.elim
      | stk => rw [z] at q; exact q.elim
    · exact q.elim
end
end Ev

set_option maxRecDepth 100000
set_option maxHeartbeats 4000000
namespace Ev
open PySem PySem.Spec PyProof.Rows L2

section
variable {P : Prog} {G : GG} {xf : Nat → Option Str} {prog : Program} {w : World} {mg : Str → Option Value} {base : Heap} {AS : List AF} {T : Tabs}
theorem RelW.seto {m : Fm} {wd : Wd} {H : Hp} (r : RelW G m wd H) (oa : Nat → Addr) : RelW G { m with oa := oa } wd H := ⟨r.cell, r.inj, r.allF, r.allP, r.FP⟩
/-- an __init__'s start -/
theorem startI_rel {m : Fm} {wd : Wd} {H : Hp} {x dx : Addr} {c : Nat} {vs : List V} {ds : List D} {N : List Str} {f : Fn} (r : RelW G m wd H) (ra : RA G m.F m.rho wd.length H vs ds) (hx : H x = some (.ins (G.cl c) dx [])) (nF : ¬ m.F x) (nP : ¬ m.P x) (nr : ∀ k, k < wd.length → m.rho k ≠ x)
    (hl : N.length = f.ns) (hn : ds.length + 1 = f.np) (hle : f.np ≤ N.length) : Rel G (m.seto 0 x) (Slot.own (.ins c []) :: (ds.map .val ++ List.replicate (f.ns - f.np) .un)) wd (L2.start N (.ref x :: vs)) H := by
  have hv := ra.length
  have e0 : (m.seto 0 x).oa 0 = x := by simp [Fm.seto]
  refine ⟨r.seto _, ?_, fun i s h => ?_, fun i j d d' h1 h2 _ => ?_⟩
  · unfold L2.start
    simp only [List.length_append, List.length_map, List.length_replicate, List.length_cons]
    omega
  · cases i with
    | zero =>
      rw [List.getElem?_cons_zero] at h
      cases h
      refine ⟨by rw [e0]; rfl, by rw [e0]; exact ⟨dx, [], hx, .nil⟩, by rw [e0]; exact nF, by rw [e0]; exact nP, fun k hk z => nr k hk (by rw [e0] at z; exact z.symm)⟩
    | succ i =>
      rw [List.getElem?_cons_succ] at h
      by_cases hi : i < ds.length
      · rw [List.getElem?_append_left (by simpa using hi), List.getElem?_map, List.getElem?_eq_getElem hi] at h
        simp only [Option.map_some, Option.some.injEq] at h
        subst h
        obtain ⟨v, h1, h2⟩ := ra.get (List.getElem?_eq_getElem hi)
        refine ⟨v, ?_, h2⟩
        unfold L2.start
        rw [List.map_cons, List.cons_append, List.getElem?_cons_succ, List.getElem?_append_left (by simpa [hv] using hi), List.getElem?_map, h1]
        rfl
      · rw [List.getElem?_append_right (by simpa using hi), List.getElem?_replicate] at h
        split at h
        · cases h; trivial
        · cases h
  · have zero : ∀ {i : Nat} {d : D}, (Slot.own (.ins c []) :: (ds.map .val ++ List.replicate (f.ns - f.np) .un))[i]? = some (.own d) → i = 0 := fun {i d} h => by
      cases i with
      | zero => rfl
      | succ i =>
        rw [List.getElem?_cons_succ] at h
        by_cases hi : i < ds.length
        · rw [List.getElem?_append_left (by simpa using hi), List.getElem?_map, List.getElem?_eq_getElem hi] at h
          cases h
        · rw [List.getElem?_append_right (by simpa using hi), List.getElem?_replicate] at h
          split at h <;> cases h
    rw [zero h1, zero h2]
theorem spI_stk (c : Nat) (vs : List V) (H : Hp) (Q : VK) (E : XK) : ¬ spIni G xf c (fun _ => stk) vs H Q E := fun ⟨_, _, _, _, _, _, _, _, _, _, _, _, _, q⟩ => q
theorem ok_runI (F : PF P G prog w mg AS T) (hxf : P.xf = xf) {k : Nat} {cf cm : Nat → List D → M D} (hcf : ∀ j, j < P.fns.length → okFn G xf prog w mg base AS P (k + 2) j (spOf G xf (cf j)))
    (hcm : ∀ c kk, P.cls c = some kk → c < P.nc → okFn G xf prog w mg base AS P (k + 1) kk.ini (spIni G xf c (cm c))) (c : Nat) (kk : Cl) (hk : P.cls c = some kk) (hc : c < P.nc) : okFn G xf prog w mg base AS P (k + 3) kk.ini (spIni G xf c (runI P cf cm c)) := by
  have hj : kk.ini < P.fns.length := by
    obtain ⟨k2, h1, h2, _⟩ := F.cl c hc
    rw [hk] at h1
    cases h1
    exact h2
  obtain ⟨a, ha⟩ : ∃ a, AS[kk.ini]? = some a := ⟨AS[kk.ini]'(by rw [F.len]; exact hj), List.getElem?_eq_getElem _⟩
  obtain ⟨f, hf⟩ : ∃ f, P.fns[kk.ini]? = some f := ⟨P.fns[kk.ini], List.getElem?_eq_getElem _⟩
  obtain ⟨fd, D⟩ := F.fn _ a ha
  obtain ⟨S, h1, h2, h3, h4, h5⟩ := fnScope_of (F.chk _ a f ha hf)
  by_cases hrl : P.rl = some kk.ini
  · have e : runI P cf cm c = fun _ => stk := funext fun ds => by unfold runI; rw [hk]; dsimp only; rw [if_pos hrl]
    rw [e]
    exact ⟨a, f, fd, ha, hf, D, binds_of F ha hf D, ⟨fun vs H Q E q => absurd q (spI_stk c vs H Q E), fun A outer s H args us vs Q E _ _ _ _ q => absurd q (spI_stk c vs H Q E)⟩⟩
  have hnr : T.rq ≠ some a.qual := fun z => hrl (F.rl _ a ha z)
  refine ⟨a, f, fd, ha, hf, D, binds_of F ha hf D, ?_⟩
  refine D.ok S (fun vs H Q E h => ?_) fun cdv A outer s H vs Q E hr hsp => ?_
  · obtain ⟨m, wd, ds, x, dx, vs', rfl, r, ra, _, _, _, _, q⟩ := h
    unfold runI at q
    rw [hk] at q
    dsimp only at q
    rw [if_neg hrl, hf] at q
    dsimp only at q
    split at q
    · rename_i hd
      rw [List.length_cons, ra.length, hd, List.length_take, Nat.min_eq_left h2]
    · exact q.elim
  · have tk : Takes (cxOf (L2.CX prog w) prog w G.K mg base a.N a.qual a.scope (G.fa kk.ini) cdv A outer s H E) (fun cls d _ H => E cls d H) := takes_of rfl rfl rfl rfl
    have hp : PassesOwn (model prog w) (A.deeper (envOfC a.qual a.scope s.heap.objs.size (G.fa kk.ini) cdv)) (envOfC a.qual a.scope s.heap.objs.size (G.fa kk.ini) cdv) (cxOf (L2.CX prog w) prog w G.K mg base a.N a.qual a.scope (G.fa kk.ini) cdv A outer s H E).xe := passes_of (X := cxOf (L2.CX prog w) prog w G.K mg base a.N a.qual a.scope (G.fa kk.ini) cdv A outer s H E) rfl
    have hb : (envOfC a.qual a.scope s.heap.objs.size (G.fa kk.ini) cdv).blockKind = .function := by
      show (if a.scope.kind.isAnnotationScope then ScopeKind.function else a.scope.kind) = .function
      rw [S.kind]
      rfl
    refine ⟨TSs G xf (fun cls d _ H => E cls d H) (cfgOf P cf cm) f.body, sSs _ _ f.body (T.ck a) _ _ a.body ⟨rfl, rfl⟩ hb hp (gd_of F hxf hcf hcm hr fun z => absurd z hnr) (sy_of h4) tk h5, ?_⟩
    obtain ⟨m, wd, ds, x, dx, vs', rfl, r, ra, hx, nF, nP, nr, q⟩ := hsp
    unfold runI at q
    rw [hk] at q
    dsimp only at q
    rw [if_neg hrl, hf] at q
    dsimp only at q
    split at q
    · rename_i hd
      have rl := startI_rel r ra hx nF nP nr h3 hd h2
      refine ⟨_, _, wd, rl, ?_⟩
      have bk : ∀ {m' : Fm} {w' : Wd} {H' : Hp}, Ext (m.seto 0 x) wd H m' w' H' → Ext m wd H { m' with oa := m.oa } w' H' := fun x => ⟨x.P, x.F, x.aF, x.aP, x.wl, x.rho, rfl⟩
      have e0 : (m.seto 0 x).oa 0 = x := by simp [Fm.seto]
      unfold endI at q
      cases z : exs (cfgOf P cf cm) f.body (Slot.own (.ins c []) :: (ds.map .val ++ List.replicate (f.ns - f.np) .un)) wd with
      | ok fl w' =>
        rw [z] at q
        cases fl with
        | nx e =>
          intro m' σ' H' x2 r2
          dsimp only at q
          cases z0 : e[0]? with
          | none => rw [z0] at q; exact q.elim
          | some s0 =>
            rw [z0] at q
            cases s0 with
            | own d =>
              obtain ⟨o1, o2, o3, o4, o5⟩ := r2.sl 0 _ z0
              have ea : m'.oa 0 = x := x2.oa0.trans e0
              rw [ea] at o2 o3 o4 o5
              exact (q : PostI G xf m wd H x Q E (.ok d w')) { m' with oa := m.oa } H' (bk x2) (r2.toRelW.seto _) o2 o3 o4 fun k hk z => o5 k hk z.symm
            | _ => exact q.elim
        | rt d => exact q.elim
        | bk e => exact q.elim
        | ct e => exact q.elim
        | xc c' x' e => exact fun pn m' σ' H' x2 r2 y => (q : PostI G xf m wd H x Q E (.exc c' x' w')) pn { m' with oa := m.oa } H' (bk x2) (r2.toRelW.seto _) y
      | exc c x w' => rw [z] at q; exact q.elim
      | stk => rw [z] at q; exact q.elim
    · exact q.elim
theorem ok_stk (F : PF P G prog w mg AS T) (k : Nat) (j : Nat) (hj : j < P.fns.length) (sp : Sp) (h : ∀ vs H Q E, ¬ sp vs H Q E) : okFn G xf prog w mg base AS P k j sp := by
  obtain ⟨a, ha⟩ : ∃ a, AS[j]? = some a := ⟨AS[j]'(by rw [F.len]; exact hj), List.getElem?_eq_getElem _⟩
  obtain ⟨f, hf⟩ : ∃ f, P.fns[j]? = some f := ⟨P.fns[j], List.getElem?_eq_getElem _⟩
  obtain ⟨fd, D⟩ := F.fn j a ha
  exact ⟨a, f, fd, ha, hf, D, binds_of F ha hf D, ⟨fun vs H Q E q => absurd q (h vs H Q E), fun A outer s H args us vs Q E _ _ _ _ q => absurd q (h vs H Q E)⟩⟩
/-- THE THEOREM: at each depth -/
theorem ok_deep (F : PF P G prog w mg AS T) (hxf : P.xf = xf) : ∀ n, (∀ j, j < P.fns.length → okFn G xf prog w mg base AS P (n + 2) j (spOf G xf ((deep P n).1 j))) ∧ (∀ c kk, P.cls c = some kk → c < P.nc → okFn G xf prog w mg base AS P (n + 2) kk.ini (spIni G xf c ((deep P n).2.1 c))) ∧
    ∀ c kk, P.cls c = some kk → c < P.nc → okFn G xf prog w mg base AS P (n + 1) kk.ini (spIni G xf c ((deep P n).2.2 c))
  | 0 => by
    have hj : ∀ c kk, P.cls c = some kk → c < P.nc → kk.ini < P.fns.length := fun c kk h1 h2 => by
      obtain ⟨k2, h3, h4, _⟩ := F.cl c h2
      rw [h1] at h3
      cases h3
      exact h4
    exact ⟨fun j hj => ok_stk F _ j hj _ (sp_stk j), fun c kk h1 h2 => ok_stk F _ _ (hj c kk h1 h2) _ (spI_stk c), fun c kk h1 h2 => ok_stk F _ _ (hj c kk h1 h2) _ (spI_stk c)⟩
  | n + 1 => by
    obtain ⟨h1, h2, h3⟩ := ok_deep F hxf n
    exact ⟨fun j hj => ok_run1 F hxf h1 h3 j hj, fun c kk a b => ok_runI F hxf h1 h3 c kk a b, fun c kk a b => h2 c kk a b⟩
/-- a def of the program, by callF -/
theorem ok_call (F : PF P G prog w mg AS T) (hxf : P.xf = xf) (n j : Nat) (hj : j < P.fns.length) : okFn G xf prog w mg base AS P (n + 2) j (spOf G xf (callF P n j)) := (ok_deep F hxf n).1 j hj
end
end Ev

set_option maxRecDepth 100000
set_option maxHeartbeats 4000000
/-! The facts of a program as one test of what its top leaves. -/
namespace Ev
open PySem PySem.Spec PyProof.Rows L2

mutual
theorem relD_ok {d : Dt} {K : PySem.W.Frag} : ∀ (x : D) (u : Value), relD d K x u = true → ∃ v, RelV v u ∧ ∀ F rho n H, R (d.G K) F rho n H v x
  | .non, u, h => by
    unfold relD at h
    split at h
    · exact ⟨.non, rfl, fun _ _ _ _ => .non⟩
    · cases h
  | .bl b, u, h => by
    unfold relD at h
    split at h
    · have e := eq_of_beq h
      subst e
      exact ⟨.bl _, rfl, fun _ _ _ _ => .bl _⟩
    · cases h
  | .int i, u, h => by
    unfold relD at h
    split at h
    · have e := of_decide_eq_true h
      subst e
      exact ⟨.int _, ⟨_, rfl⟩, fun _ _ _ _ => .int _⟩
    · cases h
  | .str i, u, h => by
    unfold relD at h
    split at h
    · have e := of_decide_eq_true h
      subst e
      exact ⟨.str _, ⟨_, rfl⟩, fun _ _ _ _ => .str _⟩
    · cases h
  | .tup ds, u, h => by
    unfold relD at h
    split at h
    · rename_i a
      cases z : K.lookup a with
      | none => rw [z] at h; cases h
      | some o =>
        rw [z] at h
        simp only [Bool.and_eq_true, decide_eq_true_eq] at h
        obtain ⟨h1, h2⟩ := h
        split at h2
        · rename_i its n hd
          simp only [Bool.and_eq_true, decide_eq_true_eq] at h2
          obtain ⟨vs, r1, r2⟩ := relDs_ok ds _ h2.2
          have hl : vs.length = its.size := by rw [r1.length]; simp
          exact ⟨.ref a, rfl, fun F rho n' H => .tup (.inr ⟨o, its, n, z, h1, hd, by rw [← SZ_eq]; exact h2.1, r1⟩) (by rw [hl]; exact h2.1) (r2 F rho n' H)⟩
        · cases h2
    · cases h
  | .fn j, u, h => by
    unfold relD at h
    split at h
    · have e := of_decide_eq_true h
      subst e
      exact ⟨.ref _, rfl, fun _ _ _ _ => .fn⟩
    · cases h
  | .lst _, u, h => by unfold relD at h; cases h
  | .dic _, u, h => by unfold relD at h; cases h
  | .ins _ _, u, h => by unfold relD at h; cases h
  | .cel _, u, h => by unfold relD at h; cases h
  | .scr _, u, h => by unfold relD at h; cases h
theorem relDs_ok {d : Dt} {K : PySem.W.Frag} : ∀ (xs : List D) (us : List Value), relDs d K xs us = true → ∃ vs, Vals vs us ∧ ∀ F rho n H, RA (d.G K) F rho n H vs xs
  | [], us, h => by
    unfold relDs at h
    cases us with
    | nil => exact ⟨[], .nil, fun _ _ _ _ => .nil⟩
    | cons a b => cases h
  | x :: xs, us, h => by
    unfold relDs at h
    split at h
    · rw [Bool.and_eq_true] at h
      obtain ⟨v, h1, h2⟩ := relD_ok x _ h.1
      obtain ⟨vs, h3, h4⟩ := relDs_ok xs _ h.2
      exact ⟨v :: vs, .cons h1 h3, fun F rho n H => .cons (h2 F rho n H) (h4 F rho n H)⟩
    · cases h
end
theorem look_mem {α : Type} : ∀ {l : List (Str × α)} {x : Str} {a : α}, l.lookup x = some a → (x, a) ∈ l
  | [], _, _, h => by cases h
  | (y, b) :: l, x, a, h => by
    rw [List.lookup_cons] at h
    cases hb : x == y with
    | true =>
      rw [hb] at h
      cases h
      rw [eq_of_beq hb]
      exact List.mem_cons_self
    | false =>
      rw [hb] at h
      exact List.mem_cons_of_mem _ (look_mem h)
theorem getD_of {α : Type} {l : List α} {i : Nat} {a b : α} (h : l[i]? = some a) : l.getD i b = a := by
  rw [List.getD_eq_getElem?_getD, h]
  rfl
theorem mem_range {n c : Nat} (h : c < n) : c ∈ List.range n := List.mem_range.mpr h
structure ClsOk (d : Dt) (P : Prog) (K : PySem.W.Frag) (c : Nat) (x : Str) (k : Cl) : Prop where
  nx : d.cls[c]? = some x
  kx : P.cls c = some k
  cls : Cls K (He.ga K x)
  mkr : Mk K (He.ga K x) (He.ma K (He.ga K x) "__init__")
  ini : k.ini < P.fns.length
  at_ : d.at_[k.ini]? = some (x, some ("__init__" : Str))
  no : ∀ f ∈ d.T.fds, NoAttr K (He.ga K x) f
  eq : ∀ j, k.eqf = some j → j < P.fns.length ∧ d.at_[j]? = some (x, some ("__eq__" : Str)) ∧ PySem.W.findIn K (.ref (He.ga K x)) "__eq__" = some (some (.ref (He.ma K (He.ga K x) "__eq__"))) ∧ PySem.W.isFn K (.ref (He.ma K (He.ga K x) "__eq__")) = true ∧ PySem.W.notFirst K (He.ga K x) (.type "tuple") = true
  c1 : PySem.W.findIn K (.ref (He.ga K x)) "__class__" = some (some (.builtin "object.__class__"))
  c2 : PySem.W.specialIn K (.builtin "object.__class__") "__get__" = some (some (.builtin "getset_descriptor.__get__"))
  c3 : PySem.W.takesIn K (.builtin "object.__class__") = some true
  c4 : PySem.W.mroIn K (He.ga K x) (.type "object") = some true
  c5 : ∀ n ∈ tyNs, PySem.W.kitOne K (.type n) (.ref (He.ga K x)) = some false
  c6 : ∀ n ∈ tyNs2, PySem.W.kitOne K (.ref (He.ga K x)) (.type n) = some false
  c7 : ∀ c', c' < P.nc → PySem.W.kitOne K (.ref (He.ga K x)) (.ref ((d.G K).cl c')) = some (c == c')
theorem clsB_ok {d : Dt} {P : Prog} {K : PySem.W.Frag} {c : Nat} (h : clsB d P K c = true) : ∃ x k, ClsOk d P K c x k := by
  unfold clsB at h
  cases h1 : d.cls[c]? with
  | none => rw [h1] at h; cases h
  | some x =>
  cases h2 : P.cls c with
  | none => rw [h1, h2] at h; cases h
  | some k =>
    rw [h1, h2] at h
    dsimp only at h
    unfold clsB1 at h
    simp only [Bool.and_eq_true, decide_eq_true_eq] at h
    obtain ⟨⟨⟨⟨⟨⟨⟨⟨⟨⟨⟨⟨a1, a2⟩, a3⟩, a4⟩, a5⟩, a6⟩, a7⟩, a8⟩, a9⟩, a10⟩, a11⟩, a12⟩, a13⟩ := h
    refine ⟨x, k, h1, h2, He.cls_ok a1, He.mkr_ok a2, a3, a4, fun f hf => He.noat_ok (List.all_eq_true.mp a5 f hf), fun j hj => ?_, a7, a8, a9, a10, fun n hn => by simpa using List.all_eq_true.mp a11 n hn, fun n hn => by simpa using List.all_eq_true.mp a12 n hn, fun c' hc => by simpa using List.all_eq_true.mp a13 c' (mem_range hc)⟩
    rw [hj] at a6
    simp only [Bool.and_eq_true, decide_eq_true_eq] at a6
    obtain ⟨⟨⟨⟨b1, b2⟩, b3⟩, b4⟩, b5⟩ := a6
    exact ⟨b1, b2, b3, b4, b5⟩
theorem oexB_ok {K : PySem.W.Frag} {C : Addr} (h : oexB K C = true) (h1 : PySem.W.findIn K (.ref C) "__setattr__" = some (some (.builtin "object.__setattr__"))) (h2 : PySem.W.subIn K (.ref C) (.type "BaseException") = some true) (h3 : PySem.W.typeIn K (.ref C) = some (.type "type")) (h4 : PySem.W.keepIn K (.ref C) = true) : OexC K C := by
  refine ⟨?_, h1, h2, h3, h4⟩
  unfold oexB at h
  split at h
  · rename_i dd cd sl ho
    split at h
    · rename_i C' bm k0 k1 k2 k3 n k5 hm hs
      simp only [Bool.and_eq_true, beq_iff_eq, Bool.not_eq_true'] at h
      obtain ⟨⟨⟨⟨rfl, rfl⟩, hdel⟩, hdict⟩, ht⟩ := h
      obtain ⟨nm, bs, mro, ns, qn, hd, sn, sub, ab, col, del⟩ := cd
      dsimp only at hm hdel hdict
      subst hm hdel hdict
      have hsl : sl = #[k0, k1, k2, k3, some (.builtin "ValueError.__new__"), k5] := by
        obtain ⟨l⟩ := sl
        simp only at hs
        rw [hs]
      subst hsl
      exact ⟨nm, qn, ns, bs, bm, sn, sub, ab, col, dd, k0, k1, k2, k3, k5, ho, ht⟩
    · cases h
  · cases h
theorem look_mem2 {α β : Type} [BEq α] [LawfulBEq α] : ∀ {l : List (α × β)} {x : α} {a : β}, l.lookup x = some a → (x, a) ∈ l
  | [], _, _, h => by cases h
  | (y, b) :: l, x, a, h => by
    rw [List.lookup_cons] at h
    cases hb : x == y with
    | true =>
      rw [hb] at h
      cases h
      rw [eq_of_beq hb]
      exact List.mem_cons_self
    | false =>
      rw [hb] at h
      exact List.mem_cons_of_mem _ (look_mem2 h)
theorem pf_of {d : Dt} {P : Prog} {K : PySem.W.Frag} {h : Heap} {mg : Str → Option Value} {prog : Program} {w : World} {AS : List AF} (X : K.In h) (N : h.Ns mainGlobals mg) (hb : factsB d P K = true) (hl : AS.length = d.at_.length) (hcl : ∀ c k, P.cls c = some k → c < P.nc)
    (hfn : ∀ (j : Nat) (a : AF), AS[j]? = some a → ∃ fd, FunD K a.name a.qual a.params a.body a.scope [] [] ((d.G K).fa j) fd) (hchk : ∀ (j : Nat) (a : AF) (f : Fn), AS[j]? = some a → P.fns[j]? = some f → chkFn d.T a f = true)
    (hxi : ∀ c j f, (c, some (j, f)) ∈ P.xc → ∃ a f0, AS[j]? = some a ∧ P.fns[j]? = some f0 ∧ xiB a f0.np f = true)
    (hrl : ∀ (j : Nat) (a : AF), AS[j]? = some a → d.T.rq = some a.qual → P.rl = some j) : PF P (d.G K) prog w mg AS d.T := by
  unfold factsB at hb
  simp only [Bool.and_eq_true, decide_eq_true_eq] at hb
  obtain ⟨⟨⟨⟨⟨⟨⟨⟨b1, b2⟩, b3⟩, b4⟩, b5⟩, b6⟩, b7⟩, b8⟩, b9⟩ := hb
  have cl : ∀ c, c < P.nc → ∃ x k, ClsOk d P K c x k ∧ (d.G K).cl c = He.ga K x := fun c hc => by
    obtain ⟨x, k, q⟩ := clsB_ok (List.all_eq_true.mp b4 c (mem_range hc))
    exact ⟨x, k, q, by show He.ga K (d.cls.getD c Str.empty) = _; rw [getD_of q.nx]⟩
  have fa : ∀ j p, d.at_[j]? = some p → (d.G K).fa j = He.fAd K p := fun j p hp => by
    show He.fAd K (d.at_.getD j (Str.empty, none)) = _
    rw [getD_of hp]
  refine ⟨by rw [hl, b1], hfn, hchk, fun x j hx => ?_, fun x c hx => ?_, fun c hc => ?_, fun x j hx => ?_, fun n hn => He.free_ok X N (List.all_eq_true.mp b6 n hn), fun f hf c hc => ?_, fun c k j hk hj => ?_, fun Y hY => ⟨fun c hc => ?_, fun n hn c hc => ?_, fun c hc n hn => ?_, fun c c' hc hc' => ?_⟩, fun x c b hx => ?_, fun c f hx => ?_, fun c' c b hx => ?_, fun _ _ _ z => z, hrl⟩
  · have q := List.all_eq_true.mp b2 _ (look_mem hx)
    simp only [Bool.and_eq_true, decide_eq_true_eq] at q
    rw [fa j _ q.2]
    exact ⟨He.glo_ok X N q.1, by rw [← b1]; exact (List.getElem?_eq_some_iff.mp q.2).1⟩
  · have q := List.all_eq_true.mp b3 _ (look_mem hx)
    simp only [Bool.and_eq_true, decide_eq_true_eq] at q
    refine ⟨?_, q.2⟩
    show mg x = some (.ref (He.ga K (d.cls.getD c Str.empty)))
    rw [getD_of q.1.2]
    exact He.glo_ok X N q.1.1
  · obtain ⟨x, k, q, e⟩ := cl c hc
    refine ⟨k, q.kx, q.ini, ?_⟩
    rw [e, fa _ _ q.at_]
    exact q.mkr
  · have q := List.all_eq_true.mp b5 _ (look_mem hx)
    unfold glB at q
    split at q
    · rename_i u dd h1 h2
      obtain ⟨v, r1, r2⟩ := relD_ok dd u q
      refine ⟨v, u, dd, ?_, r1, h2, r2⟩
      exact PySem.W.mg_of X N h1
    · cases q
  · obtain ⟨x, k, q, e⟩ := cl c hc
    rw [e]
    exact ⟨q.cls, q.no f hf⟩
  · obtain ⟨x, k2, q, e⟩ := cl c (hcl c k hk)
    have hq := q.kx
    rw [hk] at hq
    cases hq
    obtain ⟨e1, e2, e3, e4, e5⟩ := q.eq j hj
    have ef : (d.G K).fa j = He.ma K (He.ga K x) "__eq__" := fa j _ e2
    rw [ef, e]
    exact ⟨e1, e3, e4, e5⟩
  · obtain ⟨x, k, q, e⟩ := cl c hc
    rw [hY, e]
    exact ⟨q.cls, q.c1, q.c2, q.c3, q.c4⟩
  · obtain ⟨x, k, q, e⟩ := cl c hc
    rw [hY, e]
    exact q.c5 n hn
  · obtain ⟨x, k, q, e⟩ := cl c hc
    rw [hY, e]
    exact q.c6 n hn
  · obtain ⟨x, k, q, e⟩ := cl c hc
    rw [hY, e]
    exact q.c7 c' hc'
  · have q := List.all_eq_true.mp b7 _ (look_mem hx)
    unfold exB at q
    simp only [Bool.and_eq_true, decide_eq_true_eq] at q
    obtain ⟨⟨⟨q1, q2⟩, q3⟩, q4⟩ := q
    have ec : (d.G K).cl c = He.ga K x := by
      show He.ga K (d.cls.getD c Str.empty) = _
      rw [getD_of q2]
    refine ⟨?_, by simpa using q3, fun hb => ?_⟩
    · rw [ec]
      exact He.glo_ok X N q1
    · rw [ec]
      rw [hb] at q4
      have q5 : bareB K (He.ga K x) = true := by simpa using q4
      exact bareB_ok q5
  · unfold Prog.xf at hx
    split at hx
    · rename_i p hp
      cases hx
      obtain ⟨j, f⟩ := p
      have hm := look_mem2 hp
      have q := List.all_eq_true.mp b8 _ hm
      obtain ⟨a, f0, h1, h2, h3⟩ := hxi _ _ _ hm
      unfold exC at q
      dsimp only at q
      cases hcx : d.cls[c]? with
      | none => rw [hcx] at q; cases q
      | some x =>
        rw [hcx] at q
        dsimp only at q
        unfold exB1 at q
        simp only [Bool.and_eq_true, decide_eq_true_eq] at q
        obtain ⟨⟨⟨⟨⟨⟨⟨⟨⟨q1, q2⟩, q3⟩, q4⟩, q5⟩, q6⟩, q7⟩, q8⟩, q9⟩, q10⟩ := q
        have ec : (d.G K).cl c = He.ga K x := by
          show He.ga K (d.cls.getD c Str.empty) = _
          rw [getD_of hcx]
        have ef : (d.G K).fa j = He.ma K (He.ga K x) "__init__" := fa j _ q10
        rw [← ec] at q1 q2 q3 q4 q5 q6 q7 q8 q9
        rw [← ec] at ef
        refine ⟨j, a, f0, h1, h2, h3, oexB_ok q1 q6 q7 q8 q9, xfB_ok q2, q3, ?_, ?_⟩
        · rw [ef]; exact q4
        · rw [ef]; exact q5
    · cases hx
  · have q := List.all_eq_true.mp b9 _ (look_mem2 hx)
    unfold subB at q
    exact of_decide_eq_true q
end Ev

set_option maxRecDepth 100000
set_option maxHeartbeats 4000000
/-! The head: the top's run tells the facts; the law's def is asked. -/
namespace Ev
open PySem PySem.Spec PyProof.Rows L2

def afOf (d : He.DefD) (N : List Str) : AF := ⟨d.name, d.qual, d.params, d.body, d.scope, N⟩
theorem says_pf {d : Dt} {P : Prog} {fn : List He.DefD} {Ns : List (List Str)} {K : PySem.W.Frag} {h : Heap} {mg : Str → Option Value} {prog : Program} {w : World} (X : K.In h) (N : h.Ns mainGlobals mg) (c : obsM d P fn K = valM fn) (hat : fn.map (·.at_) = d.at_) (hl : Ns.length = fn.length)
    (hd : fn.all (fun d => d.dfl.isEmpty && d.kwd.isEmpty) = true) (hcl : ∀ c k, P.cls c = some k → c < P.nc) (hchk : ((fn.zip Ns).zip P.fns).all (fun p => chkFn d.T (afOf p.1.1 p.1.2) p.2) = true)
    (hxi : P.xc.all (fun q => match q.2 with | some p => (match (fn.zip Ns)[p.1]?, P.fns[p.1]? with | some z, some f0 => xiB (afOf z.1 z.2) f0.np p.2 | _, _ => false) | none => true) = true)
    (hrl : (fn.zip Ns).zipIdx.all (fun p => !decide (d.T.rq = some (afOf p.1.1 p.1.2).qual) || decide (P.rl = some p.2)) = true) : PF P (d.G K) prog w mg ((fn.zip Ns).map fun p => afOf p.1 p.2) d.T := by
  have c1 : (factsB d P K && fn.all fun d => d.ok K) = true := congrArg (fun z : AlM => z.1) c
  have c2 : fn.map (fun d => He.fnW K d.at_) = fn.map He.DefD.val := congrArg (fun z : AlM => z.2) c
  rw [Bool.and_eq_true] at c1
  have rlx : ∀ (j : Nat) (a : AF), ((fn.zip Ns).map fun p => afOf p.1 p.2)[j]? = some a → d.T.rq = some a.qual → P.rl = some j := fun j a ha hq => by
    rw [List.getElem?_map] at ha
    obtain ⟨p, hp, rfl⟩ := Option.map_eq_some_iff.mp ha
    have q := List.all_eq_true.mp hrl (p, j) (List.mem_zipIdx_iff_getElem?.mpr hp)
    rw [Bool.or_eq_true, Bool.not_eq_true', decide_eq_false_iff_not, decide_eq_true_eq] at q
    exact q.resolve_left fun z => z hq
  refine pf_of X N c1.1 ?_ hcl (fun j a ha => ?_) (fun j a f ha hf => ?_) (fun c j f hm => ?_) rlx
  · rw [← hat]
    simp [hl]
  · rw [List.getElem?_map] at ha
    obtain ⟨p, hp, rfl⟩ := Option.map_eq_some_iff.mp ha
    obtain ⟨h1, h2⟩ := List.getElem?_zip_eq_some.mp hp
    have e2 : (fn.map fun d => He.fnW K d.at_)[j]? = (fn.map He.DefD.val)[j]? := by rw [c2]
    rw [List.getElem?_map, List.getElem?_map, h1] at e2
    obtain ⟨fd, F⟩ := He.DefD.funD (Option.some.inj e2) (List.all_eq_true.mp c1.2 _ (List.mem_of_getElem? h1))
    have hk := List.all_eq_true.mp hd _ (List.mem_of_getElem? h1)
    simp only [Bool.and_eq_true, List.isEmpty_iff] at hk
    have e3 : d.at_[j]? = some p.1.at_ := by rw [← hat, List.getElem?_map, h1]; rfl
    have e4 : (d.G K).fa j = He.fAd K p.1.at_ := by
      show He.fAd K (d.at_.getD j (Str.empty, none)) = _
      rw [getD_of e3]
    rw [e4]
    have e5 : p.1.dvs K = [] := by unfold He.DefD.dvs; rw [hk.1]; rfl
    have e6 : p.1.kws K = [] := by unfold He.DefD.kws; rw [hk.2]; rfl
    rw [e5, e6] at F
    exact ⟨fd, F⟩
  · rw [List.getElem?_map] at ha
    obtain ⟨p, hp, rfl⟩ := Option.map_eq_some_iff.mp ha
    have hz : ((fn.zip Ns).zip P.fns)[j]? = some (p, f) := List.getElem?_zip_eq_some.mpr ⟨hp, hf⟩
    have q := List.all_eq_true.mp hchk (p, f) (List.mem_of_getElem? hz)
    dsimp only at q
    exact q
  · have q := List.all_eq_true.mp hxi _ hm
    dsimp only at q
    split at q
    · rename_i z f0 h1 h2
      exact ⟨afOf z.1 z.2, f0, by rw [List.getElem?_map, h1]; rfl, h2, q⟩
    · cases q
/-- the law's def, asked of a script -/
theorem law_sp {G : GG} {xf : Nat → Option Str} {H : Hp} {a : Addr} {ns : List Int} {r : List D → M D} (hl : ns.length ≤ SZ) (hO : Only H) (hS : SqL G.K H a (ns.map V.int)) (hr : ∃ w, r [.scr ns] [] = .ok (.bl true) w) : spOf G xf r [.ref a] H (fun v _ => v = .bl true) fun _ _ _ => False := by
  obtain ⟨w', hr⟩ := hr
  have fin : ∀ F : Pr, (∀ b, F b → H b ≠ none) → R G F (fun _ => 0) 0 H (.ref a) (.scr ns) → spOf G xf r [.ref a] H (fun v _ => v = .bl true) fun _ _ _ => False := fun F hF y =>
    ⟨⟨F, fun _ => False, fun _ => 0, fun _ => 0⟩, [], [.scr ns], ⟨fun k d h => by simp at h, fun j k hj => by simp at hj, hF, fun _ h => h.elim, fun _ h => h.elim⟩, .cons y .nil, by
      rw [hr]
      intro v m' H' x r' y'
      cases y'
      rfl⟩
  rcases hS with hS | hS
  · rcases hO a with z | ⟨o, xs, z⟩
    · exfalso
      rcases hS with hS | ⟨o, hS⟩
      · rw [z] at hS; cases hS
      · rw [z] at hS; cases hS
    · have hx : H a = some (.frz o (.lst (ns.map V.int))) := by
        rcases hS with hS | ⟨o', hS⟩
        · rw [z] at hS; cases hS
        · rw [z] at hS; cases hS; exact z
      exact fin (fun b => b = a) (fun b hb => by rw [hb, hx]; simp) (.scr rfl hx hl)
  · exact fin (fun _ => False) (fun _ h => h.elim) (.scrK hS hl)
end Ev

set_option maxRecDepth 100000
set_option maxHeartbeats 4000000
/-! The law's own def, where it asks repr: it is run once, from outside. -/
namespace Ev
open PySem PySem.Spec PyProof.Rows L2
section
variable {P : Prog} {G : GG} {xf : Nat → Option Str} {prog : Program} {w : World} {mg : Str → Option Value} {base : Heap} {AS : List AF} {T : Tabs}
/-- it keeps what lawF says, called where no repr goes on -/
theorem law_run (F : PF P G prog w mg AS T) (hxf : P.xf = xf) {j : Nat} {a : AF} {f : Fn} {fd : FuncData} (hrl : P.rl = some j) (ha : AS[j]? = some a) (hf : P.fns[j]? = some f) (D : FunD G.K a.name a.qual a.params a.body a.scope [] [] (G.fa j) fd) (n : Nat) {A : Around} (hr : Room (n + 3) A) (hg : A.guards = some [])
    {outer : List PySem.Env} {s : Shared} {H : Hp} {args : Args} {us : List Value} {vs : List V} {Q : VK} {E : XK} (e0 : Env0 prog w G.K mg base A outer s H) (hb : BindsTo s fd args ((a.N.take f.np).zip us)) (r : Vals vs us) (hsp : spOf G xf (lawF P n) vs H Q E) :
    codeAny (model prog w) A (.call (.ref (G.fa j)) args) (CR (L2.CX prog w) outer prog w H s Q E) s := by
  obtain ⟨S, h1, h2, h3, h4, h5⟩ := fnScope_of (F.chk j a f ha hf)
  obtain ⟨oc, od, dV, kV, doc, pm, an, cdv, ct, osl, rfl, lk, hcd, _, _⟩ := D.ex
  obtain ⟨hcf, _, hcm⟩ := ok_deep (base := base) F hxf n
  obtain ⟨m, wd, ds, rw', ra, q⟩ := hsp
  unfold lawF at q
  rw [hrl] at q
  dsimp only at q
  rw [hf] at q
  dsimp only at q
  split at q
  case isFalse => exact q.elim
  rename_i hd
  have hl : us.length = (a.N.take f.np).length := by
    rw [← r.length, ra.length, hd, List.length_take, Nat.min_eq_left h2]
  have KX : G.K.In s.heap := e0.mod.kin.keeps fun b o e => (e0.bs b o e).1
  have hkind : ∀ y ∈ (a.N.take f.np).zip us, a.scope.names.lookup y.1 = some .local ∨ (a.scope.names.lookup y.1 = some .cell ∧ ((cellsFrom (s.heap.objs.size + 1) a.scope.names []).lookup y.1).isSome = true) := fun ⟨x, v⟩ hy => by
    rcases S.par x (List.of_mem_zip hy).1 with z | z
    · exact .inl z
    · exact .inr ⟨z, PySem.W.cellsFrom_some _ _ _ (.inl z)⟩
  refine codeAny_call_function hr.depth (KX _ _ lk) rfl S.co S.gen rfl (PySem.W.codeRec_of KX hcd) (hb _ _ _ _ (wpAny_newFunctionEnv_cells S.kind hkind fun env he s1 x => ?_))
  subst he
  refine ⟨(e0.mod.nolimit.keeps fun b o e => (e0.bs b o e).1).keeps x.toInCall.keep, codeAny_func ?_⟩
  have hr2 := hr.deeper (envOfC a.qual a.scope s.heap.objs.size (G.fa j) cdv)
  have tk : Takes (cxOf (L2.CX prog w) prog w G.K mg base a.N a.qual a.scope (G.fa j) cdv A outer s H E) (fun cls d _ H => E cls d H) := takes_of rfl rfl rfl rfl
  have hp : PassesOwn (model prog w) (A.deeper (envOfC a.qual a.scope s.heap.objs.size (G.fa j) cdv)) (envOfC a.qual a.scope s.heap.objs.size (G.fa j) cdv) (cxOf (L2.CX prog w) prog w G.K mg base a.N a.qual a.scope (G.fa j) cdv A outer s H E).xe := passes_of (X := cxOf (L2.CX prog w) prog w G.K mg base a.N a.qual a.scope (G.fa j) cdv A outer s H E) rfl
  have hbk : (envOfC a.qual a.scope s.heap.objs.size (G.fa j) cdv).blockKind = .function := by
    show (if a.scope.kind.isAnnotationScope then ScopeKind.function else a.scope.kind) = .function
    rw [S.kind]
    rfl
  have body := sSs G (cfgOf P (deep P n).1 (deep P n).2.2) f.body (T.ck a) (cxOf (L2.CX prog w) prog w G.K mg base a.N a.qual a.scope (G.fa j) cdv A outer s H E) (fun cls d _ H => E cls d H) a.body ⟨rfl, rfl⟩ hbk hp (gd_of F hxf hcf hcm hr2 fun _ => hg) (sy_of h4) tk h5
  have I : Inv (cxOf (L2.CX prog w) prog w G.K mg base a.N a.qual a.scope (G.fa j) cdv A outer s H E) [] (L2.start a.N vs) H s1 := inv_start S hr.hd e0 (by rw [r.length]; exact hl) r x
  have post : TSs G xf (fun cls d _ H => E cls d H) (cfgOf P (deep P n).1 (deep P n).2.2) f.body { nx := fun _ H' => Q .non H', rt := Q } (L2.start a.N vs) H := by
    refine ⟨m, _, wd, start_rel rw' ra h3 hd h2, ?_⟩
    unfold endF at q
    cases z : exs (cfgOf P (deep P n).1 (deep P n).2.2) f.body (Ev.start f ds) wd with
    | ok fl w' =>
      rw [z] at q
      cases fl with
      | nx e => exact fun m' σ' H' x r => q .non m' H' x r.toRelW .non
      | rt d => exact fun m' v H' x r y => q v m' H' x r y
      | bk e => exact q.elim
      | ct e => exact q.elim
      | xc c x e => exact fun pn m' σ' H' x r y => q pn m' H' x r.toRelW y
    | exc c x w' => rw [z] at q; exact q.elim
    | stk => rw [z] at q; exact q.elim
  refine wpAny_mono (body.run [] s1 (L2.start a.N vs) H _ I post) (fun fl s' hs => ?_) fun e s' hs => hs
  have fin : ∀ {σ' : L2.St} {H' : Hp} {v : V} {u : Value}, Inv (cxOf (L2.CX prog w) prog w G.K mg base a.N a.qual a.scope (G.fa j) cdv A outer s H E) [] σ' H' s' → RelV v u → Q v H' → CE outer prog w H s Q u s' :=
    fun {σ' H' v u} J rv q => ⟨v, H', J.os, J.bare, J.base, J.hok, rv, q⟩
  cases fl with
  | ret u =>
    obtain ⟨v, σ', H', J, rv, q⟩ := hs
    exact fin J rv q
  | next =>
    obtain ⟨σ', H', J, q⟩ := hs
    exact fin (v := V.non) (u := Value.none) J rfl q
  | brk =>
    obtain ⟨_, _, _, q⟩ := hs
    exact False.elim q
  | cont =>
    obtain ⟨_, _, _, q⟩ := hs
    exact False.elim q
end
/-- the law's answer, from a promise at the outermost call alone -/
theorem law_out {P : Program} {w : World} {K : PySem.W.Frag} {mg mb : Str → Option Value} {CX : CXT} {fa a : Addr} {s : Shared} {vs : List Value} {ns : List Int}
    (KX : K.In s.heap) (hns : s.heap.Ns mainGlobals mg) (hb : s.heap.Ns builtinsNs mb) (hbb : ∀ x : Str, x ≠ "__name__" → mb x = bootBuiltins x) (hlim : s.heap.NoLimit) (hg : s.gens = #[])
    (ha : s.heap.get? a = some { cls := .type "list", data := .seq vs.toArray }) (hi : IntsAre vs ns) (hl : ns.length ≤ sizeLine)
    (run : ∀ (base : Heap) (H : Hp), Env0 P w K mg base callerA [] s H → Only H → SqL K H a (ns.map V.int) → codeAny (model P w) callerA (.call (.ref fa) ⟨[.ref a], []⟩) (CR CX [] P w H s (fun v _ => v = .bl true) fun _ _ _ => False) s)
    (hCX : ∀ H e s', CX [] H s (fun _ _ _ => False) e s' → False) :
    codeAny (model P w) callerA (.call (.ref fa) ⟨[.ref a], []⟩) (fun r s' => r = .ok (.ret (.bool true)) ∧ OldK s.heap s'.heap ∧ s'.os = s.os ∧ AllBare s'.gens) s := by
  have rv := vals_ints hi
  have go : ∀ H : Hp, Only H → SqL K H a (ns.map V.int) → HOk P w H s.heap → (∀ b u, H b = some u → b = a ∧ K.lookup a = none) →
      codeAny (model P w) callerA (.call (.ref fa) ⟨[.ref a], []⟩) (fun r s' => r = .ok (.ret (.bool true)) ∧ OldK s.heap s'.heap ∧ s'.os = s.os ∧ AllBare s'.gens) s := fun H hO hS hok hA => by
    have keep : ∀ {b : Addr} {o : Obj}, s.heap.get? b = some o → (∀ u, H b = some u → False) → (hidT s.heap H).get? b = some o := fun {b o} e n => hidT_get e (by
      cases q : H b with
      | none => rfl
      | some u => exact (n u q).elim)
    have nsK : ∀ {b : Addr} {m : Str → Option Value}, s.heap.Ns b m → (hidT s.heap H).Ns b m := fun {b m} ⟨o, es, ep, e, d, r⟩ => ⟨o, es, ep, keep e (fun u q => by
      obtain ⟨rfl, _⟩ := hA b u q
      rw [ha] at e
      cases e
      have d' : Data.seq vs.toArray _ = Data.dict es ep := d
      cases d'), d, r⟩
    have hKb : K.In (hidT s.heap H) := fun b o e => keep (KX b o e) fun u q => by
      obtain ⟨rfl, z⟩ := hA b u q
      rw [e] at z
      cases z
    have hM : Mod K mg (hidT s.heap H) := ⟨hKb, nsK hns, ⟨mb, nsK hb, hbb⟩, let ⟨mc, h1, h2⟩ := hlim; ⟨mc, nsK h1, h2⟩⟩
    have e0 : Env0 P w K mg (hidT s.heap H) callerA [] s H := ⟨rfl, hM, fun b o e => of_hidT e, Nat.le_of_eq (hidT_size _ _), trivial, fun b hb => absurd (show b ∈ ([] : List Addr) from hb) (by simp), hok, .of_eq hg⟩
    refine codeAny_mono (run _ H e0 hO hS) fun r s' h => ?_
    cases r with
    | error e => exact (hCX H e s' h).elim
    | ok fl =>
      cases fl with
      | next => exact False.elim h
      | brk => exact False.elim h
      | cont => exact False.elim h
      | ret u =>
        obtain ⟨v, H', os, bare, un, hok', r', q⟩ := h
        cases (show v = .bl true from q)
        obtain rfl : u = Value.bool true := r'
        refine ⟨rfl, OldK.of_keep fun b o e => ?_, os, bare⟩
        cases q : H b with
        | none => exact un.keep b o e q (by intro z; exact absurd (show b ∈ ([] : List Addr) from z) (by simp)) (by simp)
        | some u =>
          rcases hO b with z | ⟨ob, xs, z⟩
          · rw [q] at z; cases z
          · obtain ⟨e1, _⟩ := hok b _ z
            obtain ⟨e2, _⟩ := hok' b _ (un.frzs b ob _ z)
            rw [e] at e1
            cases e1
            exact e2
  cases hk : K.lookup a with
  | some o =>
    have e := KX a o hk
    rw [ha] at e
    cases e
    exact go (fun _ => none) (fun _ => .inl rfl) (.inr ⟨_, vs.toArray, _, hk, rfl, rfl, rfl, by rw [List.size_toArray, hi.length]; exact hl, by simpa using rv⟩) (fun b u z => by cases (show (none : Option HO) = some u from z)) (fun b u z => by cases (show (none : Option HO) = some u from z))
  | none =>
    have only : ∀ b, (if b = a then some (HO.frz { cls := .type "list", data := .seq vs.toArray } (.lst (ns.map V.int))) else none) = none ∨ b = a := fun b => by
      by_cases e : b = a
      · exact .inr e
      · exact .inl (if_neg e)
    refine go (fun b => if b = a then some (.frz { cls := .type "list", data := .seq vs.toArray } (.lst (ns.map V.int))) else none) (fun b => ?_) (.inl (.inr ⟨{ cls := .type "list", data := .seq vs.toArray }, if_pos rfl⟩)) (fun b u z => ?_) (fun b u z => ?_)
    · rcases only b with e | rfl
      · exact .inl e
      · exact .inr ⟨_, _, if_pos rfl⟩
    · rcases only b with e | rfl
      · cases e.symm.trans z
      · cases (if_pos rfl).symm.trans z
        exact ⟨ha, by rw [List.length_map]; exact hl, vs, _, rv, ha⟩
    · rcases only b with e | rfl
      · cases e.symm.trans z
      · exact ⟨rfl, hk⟩
end Ev

set_option maxRecDepth 100000
set_option maxHeartbeats 0
namespace K02
open PySem PySem.Spec PyProof.Rows L2 Ev
theorem chk : ((fn.zip names).zip prg.fns).all (fun p => chkFn dt.T (afOf p.1.1 p.1.2) p.2) = true := by kernel_rfl
theorem chkx : prg.xc.all (fun q => match q.2 with | some p => (match (fn.zip names)[p.1]?, prg.fns[p.1]? with | some z, some f0 => xiB (afOf z.1 z.2) f0.np p.2 | _, _ => false) | none => true) = true := by kernel_rfl
theorem chkr : (fn.zip names).zipIdx.all (fun p => !decide (dt.T.rq = some (afOf p.1.1 p.1.2).qual) || decide (prg.rl = some p.2)) = true := by kernel_rfl
end K02

set_option maxRecDepth 100000
set_option maxHeartbeats 4000000
/-! What a run gives: weakest preconditions. -/
namespace Ev
open PySem

abbrev EK : Type := Nat → Option D → Wd → Prop
def NoE : EK := fun _ _ _ => False
def wp {α : Type} (m : M α) (w : Wd) (Q : α → Wd → Prop) (E : EK) : Prop := match m w with
  | .ok a w' => Q a w'
  | .exc c x w' => E c x w'
  | .stk => False
theorem wp_mono {α : Type} {m : M α} {w : Wd} {Q Q' : α → Wd → Prop} {E E' : EK} (h : wp m w Q E) (hq : ∀ a w', Q a w' → Q' a w') (he : ∀ c x w', E c x w' → E' c x w') : wp m w Q' E' := by
  unfold wp at *
  cases z : m w with
  | ok a w' => rw [z] at h; exact hq _ _ h
  | exc c x w' => rw [z] at h; exact he _ _ _ h
  | stk => rw [z] at h; exact h
theorem wp_mq {α : Type} {m : M α} {w : Wd} {Q Q' : α → Wd → Prop} {E : EK} (h : wp m w Q NoE) (hq : ∀ a w', Q a w' → Q' a w') : wp m w Q' E := wp_mono h hq fun _ _ _ h => h.elim
theorem wp_pure {α : Type} {a : α} {w : Wd} {Q : α → Wd → Prop} {E : EK} : wp (pure a) w Q E = Q a w := id rfl
theorem wp_bind {α β : Type} {m : M α} {f : α → M β} {w : Wd} {Q : β → Wd → Prop} {E : EK} : wp (m >>= f) w Q E = wp m w (fun a w' => wp (f a) w' Q E) E := by
  unfold wp
  rw [bind_def]
  cases m w <;> rfl
theorem wp_stk {α : Type} {w : Wd} {Q : α → Wd → Prop} {E : EK} : wp stk w Q E = False := id rfl
theorem wp_rse {α : Type} {c : Nat} {x : Option D} {w : Wd} {Q : α → Wd → Prop} {E : EK} : wp (rse c x) w Q E = E c x w := id rfl
theorem wp_grd {p : Prop} [Decidable p] {m : M D} {w : Wd} {Q : D → Wd → Prop} {E : EK} : wp (grd p m) w Q E = (p ∧ wp m w Q E) := by
  rw [grd_if]
  by_cases h : p
  · rw [if_pos h]; simp [h]
  · rw [if_neg h]; simp [h, wp_stk]
theorem wp_if {α : Type} {p : Prop} [Decidable p] {a b : M α} {w : Wd} {Q : α → Wd → Prop} {E : EK} : wp (if p then a else b) w Q E = if p then wp a w Q E else wp b w Q E := by
  by_cases h : p
  · simp [h]
  · simp [h]
theorem wp_ifs {α : Type} {p : Prop} [Decidable p] {a : M α} {w : Wd} {Q : α → Wd → Prop} {E : EK} : wp (if p then a else stk) w Q E = (p ∧ wp a w Q E) := by
  by_cases h : p
  · simp [h]
  · simp [h, wp_stk]
theorem wp_cat {e : Env} {m : M Fl} {w : Wd} {Q : Fl → Wd → Prop} {E : EK} : wp (cat e m) w Q E = wp m w Q (fun c x w' => Q (.xc c x e) w') := by
  unfold wp cat
  cases m w <;> rfl
/-- a value that must be a flag -/
def onB (Q : Bool → Wd → Prop) : D → Wd → Prop
  | .bl b, w => Q b w
  | _, _ => False
theorem onB_bl {Q : Bool → Wd → Prop} {b : Bool} {w : Wd} : onB Q (.bl b) w = Q b w := id rfl
theorem wp_tst {m : M D} {w : Wd} {Q : Bool → Wd → Prop} {E : EK} : wp (tst m) w Q E = wp m w (onB Q) E := by
  unfold tst
  rw [wp_bind]
  unfold wp
  cases m w with
  | ok a w' => cases a <;> rfl
  | exc c x w' => rfl
  | stk => rfl
def endK (Q : D → Wd → Prop) (E : EK) : Fl → Wd → Prop
  | .nx _, w => Q .non w
  | .rt d, w => Q d w
  | .xc c x _, w => E c x w
  | _, _ => False
theorem endK_nx {Q : D → Wd → Prop} {E : EK} {e : Env} {w : Wd} : endK Q E (.nx e) w = Q .non w := id rfl
theorem endK_rt {Q : D → Wd → Prop} {E : EK} {d : D} {w : Wd} : endK Q E (.rt d) w = Q d w := id rfl
theorem endK_xc {Q : D → Wd → Prop} {E : EK} {c : Nat} {x : Option D} {e : Env} {w : Wd} : endK Q E (.xc c x e) w = E c x w := id rfl
theorem wp_endF {m : M Fl} {w : Wd} {Q : D → Wd → Prop} {E : EK} : wp (endF m) w Q E = wp m w (endK Q E) NoE := by
  unfold wp endF
  cases m w with
  | ok a w' => cases a <;> rfl
  | exc c x w' => rfl
  | stk => rfl
def endKI (Q : D → Wd → Prop) (E : EK) : Fl → Wd → Prop
  | .nx (.own d :: _), w => Q d w
  | .xc c x _, w => E c x w
  | _, _ => False
theorem endKI_nx {Q : D → Wd → Prop} {E : EK} {d : D} {e : Env} {w : Wd} : endKI Q E (.nx (.own d :: e)) w = Q d w := id rfl
theorem endKI_xc {Q : D → Wd → Prop} {E : EK} {c : Nat} {x : Option D} {e : Env} {w : Wd} : endKI Q E (.xc c x e) w = E c x w := id rfl
theorem wp_endI {m : M Fl} {w : Wd} {Q : D → Wd → Prop} {E : EK} : wp (endI m) w Q E = wp m w (endKI Q E) NoE := by
  unfold wp endI
  cases m w with
  | ok a w' =>
    cases a with
    | nx e => cases e with
      | nil => rfl
      | cons s e => cases s <;> rfl
    | _ => rfl
  | exc c x w' => rfl
  | stk => rfl
theorem wp_noX {α : Type} {m : M α} {w : Wd} {Q : α → Wd → Prop} {E : EK} : wp (noX m) w Q E = wp m w Q NoE := by
  unfold wp noX
  cases m w <;> rfl
theorem eq_pure {α : Type} {m : M α} {d : α} (h : ∀ w, wp m w (fun a w' => a = d ∧ w' = w) NoE) : m = pure d := by
  funext w
  have q := h w
  unfold wp at q
  cases z : m w with
  | ok a w' => rw [z] at q; obtain ⟨rfl, rfl⟩ := q; rfl
  | exc c x w' => rw [z] at q; exact q.elim
  | stk => rw [z] at q; exact q.elim
theorem eq_rse {α : Type} {m : M α} {c : Nat} {x : Option D} (h : ∀ w, wp m w (fun _ _ => False) (fun c' x' w' => c' = c ∧ x' = x ∧ w' = w)) : m = rse c x := by
  funext w
  have q := h w
  unfold wp at q
  cases z : m w with
  | ok a w' => rw [z] at q; exact q.elim
  | exc c x w' => rw [z] at q; obtain ⟨rfl, rfl, rfl⟩ := q; rfl
  | stk => rw [z] at q; exact q.elim

/-! ### statements -/
/-- what stands behind a statement -/
def kont (C : Cfg) (r : Ss) (Q : Fl → Wd → Prop) (E : EK) : Fl → Wd → Prop
  | .nx e, w => wp (exs C r e) w Q E
  | f, w => Q f w
theorem kont_nx {C : Cfg} {r : Ss} {Q : Fl → Wd → Prop} {E : EK} {e : Env} {w : Wd} : kont C r Q E (.nx e) w = wp (exs C r e) w Q E := id rfl
theorem kont_rt {C : Cfg} {r : Ss} {Q : Fl → Wd → Prop} {E : EK} {d : D} {w : Wd} : kont C r Q E (.rt d) w = Q (.rt d) w := id rfl
theorem kont_bk {C : Cfg} {r : Ss} {Q : Fl → Wd → Prop} {E : EK} {e : Env} {w : Wd} : kont C r Q E (.bk e) w = Q (.bk e) w := id rfl
theorem kont_ct {C : Cfg} {r : Ss} {Q : Fl → Wd → Prop} {E : EK} {e : Env} {w : Wd} : kont C r Q E (.ct e) w = Q (.ct e) w := id rfl
theorem kont_xc {C : Cfg} {r : Ss} {Q : Fl → Wd → Prop} {E : EK} {c : Nat} {x : Option D} {e : Env} {w : Wd} : kont C r Q E (.xc c x e) w = Q (.xc c x e) w := id rfl
theorem kont_nil {C : Cfg} {Q : Fl → Wd → Prop} {E : EK} : kont C .nil Q E = Q := by
  funext f w
  cases f with
  | nx e => show wp (exs C .nil e) w Q E = _; rw [exs]; rfl
  | _ => rfl
theorem wp_nil {C : Cfg} {e : Env} {w : Wd} {Q : Fl → Wd → Prop} {E : EK} : wp (exs C .nil e) w Q E = Q (.nx e) w := by rw [exs]; rfl
theorem wp_cons {C : Cfg} {s : S} {r : Ss} {e : Env} {w : Wd} {Q : Fl → Wd → Prop} {E : EK} : wp (exs C (.cons s r) e) w Q E = wp (ex C s e) w (kont C r Q E) E := by
  rw [exs, wp_bind]
  unfold wp
  cases ex C s e w with
  | ok a w' => cases a <;> rfl
  | exc c x w' => rfl
  | stk => rfl
def kif (C : Cfg) (a b : Ss) (e : Env) (Q : Fl → Wd → Prop) (E : EK) : Bool → Wd → Prop
  | true, w => wp (exs C a e) w Q E
  | false, w => wp (exs C b e) w Q E
theorem kif_t {C : Cfg} {a b : Ss} {e : Env} {Q : Fl → Wd → Prop} {E : EK} {w : Wd} : kif C a b e Q E true w = wp (exs C a e) w Q E := id rfl
theorem kif_f {C : Cfg} {a b : Ss} {e : Env} {Q : Fl → Wd → Prop} {E : EK} {w : Wd} : kif C a b e Q E false w = wp (exs C b e) w Q E := id rfl
/-- what a term of a statement raises -/
def kx (Q : Fl → Wd → Prop) (e : Env) : EK := fun c x w => Q (.xc c x e) w
theorem wp_iff {C : Cfg} {c : X} {a b : Ss} {e : Env} {w : Wd} {Q : Fl → Wd → Prop} {E : EK} : wp (ex C (.iff c a b) e) w Q E = wp (ev C c e) w (onB (kif C a b e Q E)) (kx Q e) := by
  rw [ex, ← wp_tst]
  unfold wp
  dsimp only
  cases tst (ev C c e) w with
  | ok a w' => cases a <;> rfl
  | exc c x w' => rfl
  | stk => rfl
theorem wp_set {C : Cfg} {i : Nat} {x : X} {e : Env} {w : Wd} {Q : Fl → Wd → Prop} {E : EK} : wp (ex C (.set i x false) e) w Q E = wp (nb e x (ev C x e)) w (fun d w' => wp (setS e i (.val d)) w' Q (kx Q e)) (kx Q e) := by
  rw [ex, wp_cat, wp_bind]; rfl
theorem wp_seto {C : Cfg} {i : Nat} {x : X} {e : Env} {w : Wd} {Q : Fl → Wd → Prop} {E : EK} : wp (ex C (.set i x true) e) w Q E = wp (ev C x e) w (fun d w' => (contD d = true ∧ i ≠ 0) ∧ wp (setS e i (.own d)) w' Q (kx Q e)) (kx Q e) := by
  rw [ex, wp_cat]
  simp only [wp_bind, wp_ifs]; rfl
theorem wp_setG {C : Cfg} (hh : C.hot = false) {t : Tg} {x : X} {e : Env} {w : Wd} {Q : Fl → Wd → Prop} {E : EK} : wp (ex C (.setG t x) e) w Q E = wp (nb e x (ev C x e)) w (fun d w' => ∃ e', bindTg t d e = some e' ∧ Q (.nx e') w') (kx Q e) := by
  rw [ex, wp_cat]
  unfold calm
  rw [hh]
  simp only [Bool.false_eq_true, if_false, wp_bind]
  show wp (nb e x (ev C x e)) w _ (kx Q e) = _
  refine congrArg (fun q => wp (nb e x (ev C x e)) w q (kx Q e)) ?_
  funext d w'
  cases bindTg t d e with
  | none => simp [wp_stk]
  | some e' => simp [wp_pure]
theorem wp_par {C : Cfg} (hh : C.hot = false) {ts : List (Nat × Bool)} {es : Xs} {e : Env} {w : Wd} {Q : Fl → Wd → Prop} {E : EK} : wp (ex C (.par ts es) e) w Q E = wp (evs C es e) w (fun d w' => ∃ e', parE ts d e = some e' ∧ Q (.nx e') w') (kx Q e) := by
  rw [ex, wp_cat]
  unfold calm
  rw [hh]
  simp only [Bool.false_eq_true, if_false, wp_bind]
  show wp (evs C es e) w _ (kx Q e) = _
  refine congrArg (fun q => wp (evs C es e) w q (kx Q e)) ?_
  funext d w'
  cases parE ts d e with
  | none => simp [wp_stk]
  | some e' => simp [wp_pure]
theorem wp_ret {C : Cfg} {x : X} {e : Env} {w : Wd} {Q : Fl → Wd → Prop} {E : EK} : wp (ex C (.ret x) e) w Q E = wp (nb e x (ev C x e)) w (fun d w' => Q (.rt d) w') (kx Q e) := by
  rw [ex, wp_cat, wp_bind]; rfl
theorem wp_retc {C : Cfg} {x : X} {e : Env} {w : Wd} {Q : Fl → Wd → Prop} {E : EK} : wp (ex C (.retc x) e) w Q E = wp (ev C x e) w (fun d w' => contD d = true ∧ Q (.rt (.cel w'.length)) (w' ++ [d])) (kx Q e) := by
  rw [ex, wp_cat, wp_bind]
  refine congrArg (fun q => wp (ev C x e) w q (kx Q e)) ?_
  funext d w'
  rw [wp_ifs]; rfl
theorem wp_ex {C : Cfg} {x : X} {e : Env} {w : Wd} {Q : Fl → Wd → Prop} {E : EK} : wp (ex C (.ex x) e) w Q E = wp (ev C x e) w (fun d w' => Q (.nx e) w') (kx Q e) := by
  rw [ex, wp_cat, wp_bind]; rfl
theorem wp_stx {C : Cfg} {i : Nat} {k x : X} {e : Env} {w : Wd} {Q : Fl → Wd → Prop} {E : EK} : wp (ex C (.stx i k x) e) w Q E = wp (nb e x (ev C x e)) w (fun d w' => wp (isS e i) w' (fun _ w' => wp (ev C k e) w' (fun k w' => wp (putAt e i k d) w' Q (kx Q e)) (kx Q e)) (kx Q e)) (kx Q e) := by
  rw [ex, wp_cat]
  simp only [wp_bind]; rfl
theorem wp_stf {C : Cfg} {i : Nat} {f : Str} {x : X} {e : Env} {w : Wd} {Q : Fl → Wd → Prop} {E : EK} : wp (ex C (.stf i f x) e) w Q E = wp (nb e x (ev C x e)) w (fun d w' => wp (putFld C e i f d) w' Q (kx Q e)) (kx Q e) := by
  rw [ex, wp_cat]
  simp only [wp_bind]; rfl
def app1 (e : Env) (i : Nat) (Q : Fl → Wd → Prop) (E : EK) : List D → Wd → Prop
  | [d], w => wp (toL e i fun xs => if xs.length < SZ then some (xs ++ [d]) else none) w Q E
  | _, _ => False
theorem app1_one {e : Env} {i : Nat} {Q : Fl → Wd → Prop} {E : EK} {d : D} {w : Wd} : app1 e i Q E [d] w = wp (toL e i fun xs => if xs.length < SZ then some (xs ++ [d]) else none) w Q E := id rfl
theorem wp_app {C : Cfg} {i : Nat} {es : Xs} {e : Env} {w : Wd} {Q : Fl → Wd → Prop} {E : EK} : wp (ex C (.app i es) e) w Q E = wp (isL e i) w (fun _ w' => wp (evs C es e) w' (app1 e i Q (kx Q e)) (kx Q e)) (kx Q e) := by
  rw [ex, wp_cat]
  simp only [wp_bind]
  refine congrArg (fun q => wp (isL e i) w q (kx Q e)) ?_
  funext _ w'
  refine congrArg (fun q => wp (evs C es e) w' q (kx Q e)) ?_
  funext d w'
  match d with
  | [] => rfl
  | [d] => rfl
  | _ :: _ :: _ => rfl
def ext1 (e : Env) (i : Nat) (Q : Fl → Wd → Prop) (E : EK) : List D → Wd → Prop
  | [.lst ys], w => wp (toL e i fun xs => if xs.length + ys.length ≤ SZ then some (xs ++ ys) else none) w Q E
  | [.tup ys], w => wp (toL e i fun xs => if xs.length + ys.length ≤ SZ then some (xs ++ ys) else none) w Q E
  | _, _ => False
theorem ext1_l {e : Env} {i : Nat} {Q : Fl → Wd → Prop} {E : EK} {ys : List D} {w : Wd} : ext1 e i Q E [.lst ys] w = wp (toL e i fun xs => if xs.length + ys.length ≤ SZ then some (xs ++ ys) else none) w Q E := id rfl
theorem ext1_t {e : Env} {i : Nat} {Q : Fl → Wd → Prop} {E : EK} {ys : List D} {w : Wd} : ext1 e i Q E [.tup ys] w = wp (toL e i fun xs => if xs.length + ys.length ≤ SZ then some (xs ++ ys) else none) w Q E := id rfl
theorem wp_ext {C : Cfg} {i : Nat} {es : Xs} {e : Env} {w : Wd} {Q : Fl → Wd → Prop} {E : EK} : wp (ex C (.ext i es) e) w Q E = wp (isL e i) w (fun _ w' => wp (evs C es e) w' (ext1 e i Q (kx Q e)) (kx Q e)) (kx Q e) := by
  rw [ex, wp_cat]
  simp only [wp_bind]
  refine congrArg (fun q => wp (isL e i) w q (kx Q e)) ?_
  funext _ w'
  refine congrArg (fun q => wp (evs C es e) w' q (kx Q e)) ?_
  funext d w'
  match d with
  | [] => rfl
  | [d] => cases d <;> rfl
  | d :: _ :: _ => cases d <;> rfl
theorem wp_for {C : Cfg} (hh : C.hot = false) {tg : Tg} {it : It} {b : Ss} {e : Env} {w : Wd} {Q : Fl → Wd → Prop} {E : EK} : wp (ex C (.for tg it b) e) w Q E = wp (evI C it e) w (fun ds w' => wp (forGo tg (fun e => exs C b e) ds e) w' Q E) (kx Q e) := by
  rw [ex]
  unfold calm
  rw [hh]
  show wp (onL e (evI C it e) fun ds => forGo tg (fun e => exs C b e) ds e) w Q E = _
  unfold wp onL
  cases evI C it e w <;> rfl
theorem wp_brk {C : Cfg} {e : Env} {w : Wd} {Q : Fl → Wd → Prop} {E : EK} : wp (ex C .brk e) w Q E = Q (.bk e) w := by rw [ex]; rfl
theorem wp_cnt {C : Cfg} {e : Env} {w : Wd} {Q : Fl → Wd → Prop} {E : EK} : wp (ex C .cnt e) w Q E = Q (.ct e) w := by rw [ex]; rfl
theorem wp_pas {C : Cfg} {e : Env} {w : Wd} {Q : Fl → Wd → Prop} {E : EK} : wp (ex C .pas e) w Q E = Q (.nx e) w := by rw [ex]; rfl
theorem wp_frz {C : Cfg} {is : List Nat} {s : S} {e : Env} {w : Wd} {Q : Fl → Wd → Prop} {E : EK} : wp (ex C (.frz is s) e) w Q E = wp (ex C s (frzE e is)) w Q E := by rw [ex]
theorem wp_rse1 {C : Cfg} (hh : C.hot = false) {c : Nat} {x : X} {e : Env} {w : Wd} {Q : Fl → Wd → Prop} {E : EK} : wp (ex C (.rse c (.so x)) e) w Q E = wp (nb e x (ev C x e)) w (fun d w' => Q (.xc c (some d) e) w') (kx Q e) := by
  rw [ex]
  unfold calm
  rw [hh]
  rw [if_neg (by simp), wp_cat, wp_bind]; rfl
theorem wp_rse0 {C : Cfg} (hh : C.hot = false) {c : Nat} {e : Env} {w : Wd} {Q : Fl → Wd → Prop} {E : EK} : wp (ex C (.rse c .no) e) w Q E = Q (.xc c none e) w := by
  rw [ex]
  unfold calm
  rw [hh]; rfl
/-! ### slots -/
theorem wp_setS {e : Env} {i : Nat} {s : Slot} {w : Wd} {Q : Fl → Wd → Prop} {E : EK} : wp (setS e i s) w Q E = (i < e.length ∧ Q (.nx (e.set i s)) w) := by
  unfold setS
  rw [wp_ifs]; rfl
/-! ### loops -/
/-- a for: before turn i stands I i -/
theorem wp_forGo {tg : Tg} {b : Env → M Fl} {Q : Fl → Wd → Prop} {E : EK} (I : Nat → Env → Wd → Prop) : ∀ (ds : List D) (k : Nat) (e : Env) (w : Wd), I k e w →
    (∀ i d e w, ds[i]? = some d → I (k + i) e w → ∃ e', bindTg tg d e = some e' ∧ wp (b e') w (fun f w' => match f with
      | .nx e2 => I (k + i + 1) e2 w'
      | .ct e2 => I (k + i + 1) e2 w'
      | .bk e2 => Q (.nx e2) w'
      | f => Q f w') E) → (∀ e w, I (k + ds.length) e w → Q (.nx e) w) → wp (forGo tg b ds e) w Q E
  | [], k, e, w, h0, _, hQ => by
    rw [forGo, wp_pure]
    exact hQ _ _ h0
  | d :: r, k, e, w, h0, hs, hQ => by
    rw [forGo]
    obtain ⟨e', h1, h2⟩ := hs 0 d e w rfl h0
    rw [h1]
    dsimp only
    rw [wp_bind]
    refine wp_mono h2 (fun f w' hf => ?_) fun c x w' h => h
    have next : ∀ e2, I (k + 1) e2 w' → wp (forGo tg b r e2) w' Q E := fun e2 h => by
      refine wp_forGo I r (k + 1) e2 w' h (fun i d e w hd hi => ?_) fun e w h => ?_
      · have q := hs (i + 1) d e w (by simpa using hd) (by rw [show k + (i + 1) = k + 1 + i from by omega]; exact hi)
        rw [show k + (i + 1) = k + 1 + i from by omega] at q
        exact q
      · refine hQ e w ?_
        rw [List.length_cons, show k + (r.length + 1) = k + 1 + r.length from by omega]
        exact h
    cases f with
    | nx e2 => exact next e2 hf
    | ct e2 => exact next e2 hf
    | bk e2 => exact hf
    | rt d => exact hf
    | xc c x e => exact hf
theorem wp_forGo0 {tg : Tg} {b : Env → M Fl} {Q : Fl → Wd → Prop} {E : EK} (I : Nat → Env → Wd → Prop) {ds : List D} {e : Env} {w : Wd} (h0 : I 0 e w)
    (hs : ∀ i d e w, ds[i]? = some d → I i e w → ∃ e', bindTg tg d e = some e' ∧ wp (b e') w (fun f w' => match f with
      | .nx e2 => I (i + 1) e2 w'
      | .ct e2 => I (i + 1) e2 w'
      | .bk e2 => Q (.nx e2) w'
      | f => Q f w') E) (hQ : ∀ e w, I ds.length e w → Q (.nx e) w) : wp (forGo tg b ds e) w Q E :=
  wp_forGo I ds 0 e w h0 (fun i d e w hd hi => by simpa using hs i d e w hd (by simpa using hi)) (by simpa using hQ)
/-- a comprehension over typed things -/
theorem lcGo_map {α : Type} {f : Env → M D} {c : Env → M Bool} {tg : Tg} {e : Env} (enc : α → D) (p : α → Bool) (g : α → D) : ∀ (xs : List α),
    (∀ a ∈ xs, ∃ e', bindTg tg (enc a) e = some e' ∧ c e' = pure (p a) ∧ (p a = true → f e' = pure (g a))) → lcGo f c tg e (xs.map enc) = pure ((xs.filter p).map g)
  | [], _ => rfl
  | a :: r, h => by
    obtain ⟨e', h1, h2, h3⟩ := h a (List.mem_cons_self ..)
    have ih := lcGo_map (f := f) (c := c) (tg := tg) (e := e) enc p g r fun b hb => h b (List.mem_cons_of_mem _ hb)
    rw [List.map_cons, lcGo, h1]
    dsimp only
    rw [h2, pure_bnd]
    cases z : p a with
    | true => dsimp only; rw [h3 z, pure_bnd, ih, pure_bnd, List.filter_cons_of_pos z]; rfl
    | false => dsimp only; rw [ih, List.filter_cons_of_neg (by simp [z])]
/-- .. that change things, no test -/
theorem wp_lcGo {f : Env → M D} {tg : Tg} {e : Env} {E : EK} (I : List D → Wd → Prop) : ∀ (ds : List D) (acc : List D) (w : Wd) (Q : List D → Wd → Prop), I acc w →
    (∀ acc w d, d ∈ ds → I acc w → ∃ e', bindTg tg d e = some e' ∧ wp (f e') w (fun y w' => I (acc ++ [y]) w') E) → (∀ ys w, ys.length = ds.length → I (acc ++ ys) w → Q ys w) → wp (lcGo f (fun _ => pure true) tg e ds) w Q E
  | [], acc, w, Q, h0, _, hQ => by
    rw [lcGo, wp_pure]
    exact hQ [] w rfl (by simpa using h0)
  | d :: r, acc, w, Q, h0, hs, hQ => by
    obtain ⟨e', h1, h2⟩ := hs acc w d (List.mem_cons_self ..) h0
    rw [lcGo, h1]
    dsimp only
    rw [pure_bnd]
    dsimp only
    rw [wp_bind]
    refine wp_mono h2 (fun y w' hy => ?_) fun c x w' h => h
    rw [wp_bind]
    refine wp_lcGo I r (acc ++ [y]) w' _ hy (fun acc w d hd => hs acc w d (List.mem_cons_of_mem _ hd)) fun ys w hl hi => ?_
    rw [wp_pure]
    exact hQ _ _ (by simp [hl]) (by simpa using hi)
end Ev

set_option maxRecDepth 100000
set_option maxHeartbeats 4000000
/-! Data: typed things as trees. -/
namespace Ev
open PySem

/-! ### equality -/
mutual
/-- no flags, nothing mutable -/
def D.pl : D → Bool
  | .non => true | .int _ => true | .str _ => true
  | .tup xs => D.plAll xs | .lst xs => D.plAll xs
  | _ => false
def D.plAll : List D → Bool
  | [] => true
  | x :: r => x.pl && D.plAll r
end
mutual
theorem eqv_iff : ∀ (a b : D), a.pl = true → b.pl = true → (PyData.eqv a.py b.py = true ↔ a = b)
  | .non, b, _, h => by cases b <;> simp [D.pl] at h <;> simp [D.py, PyData.eqv]
  | .int i, b, _, h => by cases b <;> simp [D.pl] at h <;> simp [D.py, PyData.eqv]
  | .str i, b, _, h => by cases b <;> simp [D.pl] at h <;> simp [D.py, PyData.eqv]
  | .tup xs, b, g, h => by
    rw [D.pl] at g
    cases b with
    | tup ys => rw [D.pl] at h; rw [D.py, D.py, PyData.eqv, eqv_iffAll xs ys g h]; simp
    | _ => simp [D.pl] at h <;> simp [D.py, PyData.eqv]
  | .lst xs, b, g, h => by
    rw [D.pl] at g
    cases b with
    | lst ys => rw [D.pl] at h; rw [D.py, D.py, PyData.eqv, eqv_iffAll xs ys g h]; simp
    | _ => simp [D.pl] at h <;> simp [D.py, PyData.eqv]
  | .bl _, _, g, _ => by simp [D.pl] at g
  | .dic _, _, g, _ => by simp [D.pl] at g
  | .ins _ _, _, g, _ => by simp [D.pl] at g
  | .cel _, _, g, _ => by simp [D.pl] at g
  | .fn _, _, g, _ => by simp [D.pl] at g
  | .scr _, _, g, _ => by simp [D.pl] at g
theorem eqv_iffAll : ∀ (xs ys : List D), D.plAll xs = true → D.plAll ys = true → (PyData.eqvAll (D.pyAll xs) (D.pyAll ys) = true ↔ xs = ys)
  | [], [], _, _ => by simp [D.pyAll, PyData.eqvAll]
  | [], _ :: _, _, _ => by simp [D.pyAll, PyData.eqvAll]
  | _ :: _, [], _, _ => by simp [D.pyAll, PyData.eqvAll]
  | x :: xs, y :: ys, g, h => by
    rw [D.plAll, Bool.and_eq_true] at g h
    rw [D.pyAll, D.pyAll, PyData.eqvAll, Bool.and_eq_true, eqv_iff x y g.1 h.1, eqv_iffAll xs ys g.2 h.2]
    simp
end
theorem eqv_t {a : D} (h : a.pl = true) : D.eqv a a = true := (eqv_iff a a h h).mpr rfl
theorem eqv_f {a b : D} (g : a.pl = true) (h : b.pl = true) (n : a ≠ b) : D.eqv a b = false := by
  cases z : D.eqv a b with
  | false => rfl
  | true => exact absurd ((eqv_iff a b g h).mp z) n
theorem eqv_enc {α : Type} [DecidableEq α] (enc : α → D) (inj : ∀ a b, enc a = enc b → a = b) (hp : ∀ a, (enc a).pl = true) (a b : α) : D.eqv (enc a) (enc b) = decide (a = b) := by
  by_cases h : a = b
  · subst h; rw [eqv_t (hp a)]; simp
  · rw [eqv_f (hp a) (hp b) fun e => h (inj _ _ e)]; simp [h]
theorem eqv_int {i j : Int} : D.eqv (.int i) (.int j) = decide (i = j) := by
  show (i == j) = _
  by_cases h : i = j <;> simp [h]
theorem eqv_str {x y : Str} : D.eqv (.str x) (.str y) = (x == y) := id rfl
theorem eqv_bl {x y : Bool} : D.eqv (.bl x) (.bl y) = (x == y) := id rfl
theorem shape_int {i j : Int} : shape2 (.int i) (.int j) = true := id rfl
theorem shape_bl {i j : Bool} : shape2 (.bl i) (.bl j) = true := id rfl
theorem eqv_tup {xs ys : List D} : D.eqv (.tup xs) (.tup ys) = PyData.eqvAll (D.pyAll xs) (D.pyAll ys) := id rfl
/-- what == may look at: flat enough -/
def D.ok (k : Nat) (d : D) : Bool := d.shp && decide (d.dep ≤ k)
theorem shape_ok {a b : D} {k l : Nat} (ha : a.ok k = true) (hb : b.ok l = true) (hk : k ≤ 60) (hl : l ≤ 60) : shape2 a b = true := by
  unfold D.ok at ha hb
  rw [Bool.and_eq_true, decide_eq_true_eq] at ha hb
  unfold shape2
  rw [ha.1, hb.1]
  simp; omega
theorem shpAll_iff {xs : List D} : D.shpAll xs = true ↔ ∀ x ∈ xs, x.shp = true := by
  induction xs with
  | nil => simp [D.shpAll]
  | cons x r ih => simp [D.shpAll, ih]
theorem plAll_iff {xs : List D} : D.plAll xs = true ↔ ∀ x ∈ xs, x.pl = true := by
  induction xs with
  | nil => simp [D.plAll]
  | cons x r ih => simp [D.plAll, ih]
theorem depAll_le {xs : List D} {k : Nat} : D.depAll xs ≤ k ↔ ∀ x ∈ xs, x.dep ≤ k := by
  induction xs with
  | nil => simp [D.depAll]
  | cons x r ih => simp [D.depAll, Nat.max_le, ih]
theorem ok_iff {d : D} {k : Nat} : d.ok k = true ↔ d.shp = true ∧ d.dep ≤ k := by unfold D.ok; simp
theorem ok_tup {xs : List D} {k : Nat} : (D.tup xs).ok (k + 1) = true ↔ ∀ x ∈ xs, x.ok k = true := by
  simp only [ok_iff, D.shp, D.dep, shpAll_iff, Nat.add_le_add_iff_right, depAll_le]
  exact ⟨fun h x hx => ⟨h.1 x hx, h.2 x hx⟩, fun h => ⟨fun x hx => (h x hx).1, fun x hx => (h x hx).2⟩⟩
theorem ok_lst {xs : List D} {k : Nat} : (D.lst xs).ok (k + 1) = true ↔ ∀ x ∈ xs, x.ok k = true := by
  simp only [ok_iff, D.shp, D.dep, shpAll_iff, Nat.add_le_add_iff_right, depAll_le]
  exact ⟨fun h x hx => ⟨h.1 x hx, h.2 x hx⟩, fun h => ⟨fun x hx => (h x hx).1, fun x hx => (h x hx).2⟩⟩
theorem ok_int {i : Int} {k : Nat} : (D.int i).ok k = true := by unfold D.ok; rfl
theorem ok_non {k : Nat} : (D.non).ok k = true := by unfold D.ok; rfl
theorem ok_mono {d : D} {k l : Nat} (h : d.ok k = true) (hl : k ≤ l) : d.ok l = true := by
  rw [ok_iff] at *
  exact ⟨h.1, by omega⟩
theorem pl_tup {xs : List D} : (D.tup xs).pl = true ↔ ∀ x ∈ xs, x.pl = true := by rw [D.pl]; exact plAll_iff
theorem pl_lst {xs : List D} : (D.lst xs).pl = true ↔ ∀ x ∈ xs, x.pl = true := by rw [D.pl]; exact plAll_iff

/-! ### places -/
theorem atI_nat {α : Type} {xs : List α} {k : Nat} : L2.atI xs (k : Int) = xs[k]? := by
  unfold L2.atI L2.ixN
  rw [if_pos (by omega)]
  by_cases h : k < xs.length
  · rw [if_pos (by omega)]; simp
  · rw [if_neg (by omega)]; simp; omega
theorem atI_map {α β : Type} {f : α → β} {xs : List α} {k : Nat} : L2.atI (xs.map f) (k : Int) = (xs[k]?).map f := by rw [atI_nat, List.getElem?_map]
theorem atI_last {α : Type} {xs : List α} {x : α} : L2.atI (xs ++ [x]) (-1) = some x := by
  unfold L2.atI L2.ixN
  rw [if_neg (by omega), if_pos (by simp; omega)]
  have e : (-1 + ((xs ++ [x]).length : Int)).toNat = xs.length := by simp; omega
  rw [e]
  simp
theorem atI_0 {α : Type} {a : α} {r : List α} : L2.atI (a :: r) 0 = some a := atI_nat (k := 0)
theorem atI_1 {α : Type} {a b : α} {r : List α} : L2.atI (a :: b :: r) 1 = some b := atI_nat (k := 1)
theorem atI_2 {α : Type} {a b c : α} {r : List α} : L2.atI (a :: b :: c :: r) 2 = some c := atI_nat (k := 2)
theorem atI_3 {α : Type} {a b c d : α} {r : List α} : L2.atI (a :: b :: c :: d :: r) 3 = some d := atI_nat (k := 3)
theorem atI_4 {α : Type} {a b c d e : α} {r : List α} : L2.atI (a :: b :: c :: d :: e :: r) 4 = some e := atI_nat (k := 4)
theorem atI_5 {α : Type} {a b c d e f : α} {r : List α} : L2.atI (a :: b :: c :: d :: e :: f :: r) 5 = some f := atI_nat (k := 5)
theorem atI_6 {α : Type} {a b c d e f g : α} {r : List α} : L2.atI (a :: b :: c :: d :: e :: f :: g :: r) 6 = some g := atI_nat (k := 6)
theorem cut_to {α : Type} {xs : List α} {k : Nat} : cut xs none (some (k : Int)) = xs.take k := by
  unfold cut
  rw [HT.sIx_none, HT.sIx_nat]
  simp
theorem cut_from {α : Type} {xs : List α} {k : Nat} : cut xs (some (k : Int)) none = xs.drop k := by
  unfold cut
  rw [HT.sIx_none, HT.sIx_nat]
  rcases Nat.le_total k xs.length with h | h
  · rw [Nat.min_eq_left h, ← List.length_drop, List.take_length]
  · rw [Nat.min_eq_right h, List.drop_of_length_le h]; simp
theorem sIx_3 {n d : Nat} : HT.sIx n d (some 3) = min 3 n := HT.sIx_nat n d 3
theorem sIx_2 {n d : Nat} : HT.sIx n d (some 2) = min 2 n := HT.sIx_nat n d 2

/-! ### options -/
def eO {α : Type} (f : α → D) : Option α → D
  | none => .non
  | some a => f a
theorem eO_none {α : Type} {f : α → D} : eO f none = .non := id rfl
theorem eO_some {α : Type} {f : α → D} {a : α} : eO f (some a) = f a := id rfl

/-! ### dicts by ints -/
theorem dfind_int {kvs : List (D × D)} {k : Int} : dfind kvs (.int k) = (kvs.find? fun p => keyEq p.1 (.int k)).map (·.2) := id rfl
theorem find_map1 {α β : Type} (r : α → Bool) (f : α → α) (g : α → β) (v : β) (h1 : ∀ p, r p = true → r (f p) = true ∧ g (f p) = v) (h2 : ∀ p, r p = false → f p = p) : ∀ (l : List α), l.any r = true → ((l.map f).find? r).map g = some v
  | [], h => by simp at h
  | p :: l, h => by
    rw [List.map_cons, List.find?_cons]
    cases z : r p with
    | true => rw [(h1 p z).1]; simp [(h1 p z).2]
    | false =>
      rw [h2 p z, z]
      exact find_map1 r f g v h1 h2 l (by simpa [z] using h)
theorem find_map2 {α β : Type} (r s : α → Bool) (f : α → α) (g : α → β) (h1 : ∀ p, r p = true → s p = false ∧ s (f p) = false) (h2 : ∀ p, r p = false → f p = p) : ∀ (l : List α), ((l.map f).find? s).map g = (l.find? s).map g
  | [] => rfl
  | p :: l => by
    rw [List.map_cons, List.find?_cons, List.find?_cons]
    cases z : r p with
    | true => rw [(h1 p z).1, (h1 p z).2]; exact find_map2 r s f g h1 h2 l
    | false =>
      rw [h2 p z]
      cases y : s p with
      | true => rfl
      | false => exact find_map2 r s f g h1 h2 l
theorem keyEq_int {d : D} {k : Int} (h : keyEq d (.int k) = true) : d = .int k := by
  cases d with
  | int i => simp only [keyEq, decide_eq_true_eq] at h; rw [h]
  | _ => simp [keyEq] at h
theorem keyEq_ii {i k : Int} : keyEq (.int i) (.int k) = decide (i = k) := id rfl
theorem dput_find {kvs : List (D × D)} {k j : Int} {v : D} : dfind (dput kvs (.int k) v) (.int j) = if k = j then some v else dfind kvs (.int j) := by
  unfold dput dfind
  by_cases h : k = j
  · subst h
    rw [if_pos rfl]
    split
    · rename_i ha
      refine find_map1 (fun p => keyEq p.1 (.int k)) _ (·.2) v (fun p hp => ?_) (fun p hp => ?_) kvs ha
      · rw [if_pos hp]; exact ⟨hp, rfl⟩
      · rw [if_neg (by rw [hp]; simp)]
    · rename_i ha
      rw [List.find?_append]
      have e : kvs.find? (fun p => keyEq p.1 (.int k)) = none := by
        rw [List.find?_eq_none]
        intro p hp z
        exact ha (List.any_eq_true.mpr ⟨p, hp, z⟩)
      rw [e]
      simp [keyEq_ii]
  · rw [if_neg h]
    split
    · refine find_map2 (fun p => keyEq p.1 (.int k)) (fun p => keyEq p.1 (.int j)) _ (·.2) (fun p hp => ?_) (fun p hp => ?_) kvs
      · have e := keyEq_int hp
        have e2 : keyEq p.1 (.int j) = false := by rw [e, keyEq_ii]; simpa using h
        rw [if_pos hp]
        exact ⟨e2, e2⟩
      · rw [if_neg (by rw [hp]; simp)]
    · rw [List.find?_append]
      have e : List.find? (fun p => keyEq p.1 (.int j)) [(D.int k, v)] = none := by simp [keyEq_ii, h]
      rw [e]
      simp
theorem dput_le {kvs : List (D × D)} {k v : D} : (dput kvs k v).length ≤ kvs.length + 1 := by
  unfold dput
  split
  · simp
  · simp
/-! ### hands -/
/-- the law's source of draws stands in the first cell -/
def HandOk (w : Wd) : Prop := ∃ (xs : List Int) (i b s c : Int), w = [.lst [.lst (xs.map .int), .int i, .int b, .int s, .int c]] ∧ 0 ≤ i
end Ev

set_option maxRecDepth 100000
set_option maxHeartbeats 4000000
/-! What terms give, one rule a term. -/
namespace Ev
open PySem
variable {C : Cfg} {e : Env} {w : Wd}

theorem we_k {d : D} {Q : D → Wd → Prop} {E : EK} : wp (ev C (.k d) e) w Q E = Q d w := by rw [ev]; rfl
/-- what stands in a slot -/
def zvS (Q : D → Wd → Prop) (w : Wd) : Option Slot → Prop
  | some (.val d) => Q d w
  | some (.own d) => Q d w
  | _ => False
def znS (Q : D → Wd → Prop) (w : Wd) : Option Slot → Prop
  | some (.val d) => Q d w
  | _ => False
theorem zvS_val {Q : D → Wd → Prop} {d : D} : zvS Q w (some (.val d)) = Q d w := id rfl
theorem zvS_own {Q : D → Wd → Prop} {d : D} : zvS Q w (some (.own d)) = Q d w := id rfl
theorem znS_val {Q : D → Wd → Prop} {d : D} : znS Q w (some (.val d)) = Q d w := id rfl
theorem we_v {i : Nat} {Q : D → Wd → Prop} {E : EK} : wp (ev C (.v i) e) w Q E = zvS Q w e[i]? := by
  rw [ev]
  unfold getV
  cases e[i]? with
  | none => rfl
  | some s => cases s <;> rfl
theorem nb_v {i : Nat} {Q : D → Wd → Prop} {E : EK} : wp (nb e (.v i) (ev C (.v i) e)) w Q E = znS Q w e[i]? := by
  rw [ev]
  unfold nb ownV getV
  dsimp only
  rcases Option.eq_none_or_eq_some e[i]? with h | ⟨s, h⟩
  · simp only [h]; rfl
  · cases s <;> simp only [h] <;> rfl
def fldD (C : Cfg) (f : Str) : D → M D
  | .ins c fs => if c < C.nc then ofO (fs.lookup f) else stk
  | _ => stk
theorem fldD_ins {f : Str} {c : Nat} {fs : List (Str × D)} : fldD C f (.ins c fs) = if c < C.nc then ofO (fs.lookup f) else stk := id rfl
def zfS (C : Cfg) (f : Str) (w : Wd) (Q : D → Wd → Prop) (E : EK) : Option Slot → Prop
  | some (.val d) => wp (der d) w (fun x w => wp (fldD C f x) w Q E) E
  | some (.own d) => wp (der d) w (fun x w => wp (fldD C f x) w Q E) E
  | some (.exc c x) => wp (fldX C c x f) w Q E
  | _ => False
theorem zfS_val {f : Str} {Q : D → Wd → Prop} {E : EK} {d : D} : zfS C f w Q E (some (.val d)) = wp (der d) w (fun x w => wp (fldD C f x) w Q E) E := id rfl
theorem zfS_own {f : Str} {Q : D → Wd → Prop} {E : EK} {d : D} : zfS C f w Q E (some (.own d)) = wp (der d) w (fun x w => wp (fldD C f x) w Q E) E := id rfl
theorem we_fld {i : Nat} {f : Str} {Q : D → Wd → Prop} {E : EK} : wp (ev C (.fld (.v i) f) e) w Q E = zfS C f w Q E e[i]? := by
  rw [ev]
  unfold ownX
  dsimp only
  rw [ev]
  unfold getV
  cases e[i]? with
  | none => rfl
  | some s => cases s with
    | val d => dsimp only; rw [pure_bnd, wp_bind]; rfl
    | own d => dsimp only; rw [pure_bnd, wp_bind]; rfl
    | _ => rfl
def ziS (C : Cfg) (ts : List Ty) (w : Wd) (Q : D → Wd → Prop) (E : EK) : Option Slot → Prop
  | some (.val d) => match isaTs C.nc d ts with | some b => Q (.bl b) w | none => False
  | some (.own d) => match isaTs C.nc d ts with | some b => Q (.bl b) w | none => False
  | some (.exc c x) => wp (isaX C c ts) w Q E
  | _ => False
theorem ziS_val {ts : List Ty} {Q : D → Wd → Prop} {E : EK} {d : D} : ziS C ts w Q E (some (.val d)) = (match isaTs C.nc d ts with | some b => Q (.bl b) w | none => False) := id rfl
theorem ziS_own {ts : List Ty} {Q : D → Wd → Prop} {E : EK} {d : D} : ziS C ts w Q E (some (.own d)) = (match isaTs C.nc d ts with | some b => Q (.bl b) w | none => False) := id rfl
theorem we_isa {i : Nat} {ts : List Ty} {Q : D → Wd → Prop} {E : EK} : wp (ev C (.isa (.v i) ts) e) w Q E = ziS C ts w Q E e[i]? := by
  rw [ev]
  unfold ownX
  dsimp only
  rw [ev]
  unfold getV
  cases e[i]? with
  | none => rfl
  | some s => cases s with
    | val d => dsimp only; rw [pure_bnd]; unfold ziS; dsimp only; cases isaTs C.nc d ts <;> rfl
    | own d => dsimp only; rw [pure_bnd]; unfold ziS; dsimp only; cases isaTs C.nc d ts <;> rfl
    | _ => rfl
theorem we_isax {a : X} {ts : List Ty} {Q : D → Wd → Prop} {E : EK} (h : ∀ i, a ≠ .v i) : wp (ev C (.isa a ts) e) w Q E = wp (ev C a e) w (fun d w => ziS C ts w Q E (some (.val d))) E := by
  rw [ev]
  have q : ownX e a = none := by
    cases a with
    | v i => exact absurd rfl (h i)
    | _ => rfl
  rw [q]
  dsimp only
  rw [wp_bind]
  refine congrArg (fun q => wp (ev C a e) w q E) ?_
  funext d w
  unfold ziS
  dsimp only
  cases isaTs C.nc d ts <;> rfl
def zcS (C : Cfg) (w : Wd) (es : M (List D)) (Q : D → Wd → Prop) (E : EK) : Option Slot → Prop
  | some (.val (.fn j)) => j < C.nf ∧ wp es w (fun ds w => wp (C.cf j ds) w Q E) E
  | some (.own (.fn j)) => j < C.nf ∧ wp es w (fun ds w => wp (C.cf j ds) w Q E) E
  | _ => False
theorem zcS_val {j : Nat} {es : M (List D)} {Q : D → Wd → Prop} {E : EK} : zcS C w es Q E (some (.val (.fn j))) = (j < C.nf ∧ wp es w (fun ds w => wp (C.cf j ds) w Q E) E) := id rfl
theorem we_cav (hh : C.hot = false) {i : Nat} {es : Xs} {Q : D → Wd → Prop} {E : EK} : wp (ev C (.cav i es) e) w Q E = zcS C w (evs C es e) Q E e[i]? := by
  rw [ev]; unfold calm getV; rw [hh]
  rw [if_neg (by simp), wp_bind]
  cases e[i]? with
  | none => rfl
  | some s => cases s with
    | val d => cases d with
      | fn j => dsimp only; rw [wp_pure]; dsimp only; rw [wp_ifs, wp_bind]; rfl
      | _ => rfl
    | own d => cases d with
      | fn j => dsimp only; rw [wp_pure]; dsimp only; rw [wp_ifs, wp_bind]; rfl
      | _ => rfl
    | _ => rfl
def zgS (C : Cfg) (a b : X) (e : Env) (w : Wd) (Q : D → Wd → Prop) (E : EK) : Option Slot → Prop
  | some (.val (.dic kvs)) => wp (ev C a e) w (fun k w => wp (nb e b (ev C b e)) w (fun z w => isKey k = true ∧ Q ((dfind kvs k).getD z) w) E) E
  | some (.own (.dic kvs)) => wp (ev C a e) w (fun k w => wp (nb e b (ev C b e)) w (fun z w => isKey k = true ∧ Q ((dfind kvs k).getD z) w) E) E
  | _ => False
theorem zgS_val {a b : X} {Q : D → Wd → Prop} {E : EK} {kvs : List (D × D)} : zgS C a b e w Q E (some (.val (.dic kvs))) = wp (ev C a e) w (fun k w => wp (nb e b (ev C b e)) w (fun z w => isKey k = true ∧ Q ((dfind kvs k).getD z) w) E) E := id rfl
theorem zgS_own {a b : X} {Q : D → Wd → Prop} {E : EK} {kvs : List (D × D)} : zgS C a b e w Q E (some (.own (.dic kvs))) = wp (ev C a e) w (fun k w => wp (nb e b (ev C b e)) w (fun z w => isKey k = true ∧ Q ((dfind kvs k).getD z) w) E) E := id rfl
theorem we_get {i : Nat} {a b : X} {Q : D → Wd → Prop} {E : EK} : wp (ev C (.get (.v i) a b) e) w Q E = zgS C a b e w Q E e[i]? := by
  rw [ev, ev, wp_bind]
  unfold getV
  cases e[i]? with
  | none => rfl
  | some s => cases s with
    | val d => cases d with
      | dic j => dsimp only; simp only [wp_pure, wp_bind, wp_ifs]; rfl
      | _ => rfl
    | own d => cases d with
      | dic j => dsimp only; simp only [wp_pure, wp_bind, wp_ifs]; rfl
      | _ => rfl
    | _ => rfl
theorem nb_k {d : D} {m : M D} : nb e (.k d) m = m := id rfl
theorem nb_g {j : Nat} {m : M D} : nb e (.g j) m = m := id rfl
theorem nb_tup {es : Xs} {m : M D} : nb e (.tup es) m = m := id rfl
theorem nb_lst {es : Xs} {m : M D} : nb e (.lst es) m = m := id rfl
theorem nb_bin {o : Bo} {a : X} {b : X} {m : M D} : nb e (.bin o a b) m = m := id rfl
theorem nb_neg {a : X} {m : M D} : nb e (.neg a) m = m := id rfl
theorem nb_not {a : X} {m : M D} : nb e (.not a) m = m := id rfl
theorem nb_cmp {o : Co} {a : X} {b : X} {m : M D} : nb e (.cmp o a b) m = m := id rfl
theorem nb_cmp2 {o : Co} {o' : Co} {a : X} {b : X} {c : X} {m : M D} : nb e (.cmp2 o o' a b c) m = m := id rfl
theorem nb_and {es : Xs} {m : M D} : nb e (.and es) m = m := id rfl
theorem nb_or {es : Xs} {m : M D} : nb e (.or es) m = m := id rfl
theorem nb_ite {c : X} {a : X} {b : X} {m : M D} : nb e (.ite c a b) m = m := id rfl
theorem nb_idx {a : X} {b : X} {m : M D} : nb e (.idx a b) m = m := id rfl
theorem nb_sli {a : X} {lo : Xo} {hi : Xo} {m : M D} : nb e (.sli a lo hi) m = m := id rfl
theorem nb_rev {a : X} {m : M D} : nb e (.rev a) m = m := id rfl
theorem nb_fld {a : X} {f : Str} {m : M D} : nb e (.fld a f) m = m := id rfl
theorem nb_call {j : Nat} {es : Xs} {m : M D} : nb e (.call j es) m = m := id rfl
theorem nb_cav {j : Nat} {es : Xs} {m : M D} : nb e (.cav j es) m = m := id rfl
theorem nb_mk {j : Nat} {es : Xs} {m : M D} : nb e (.mk j es) m = m := id rfl
theorem nb_b1 {bb : B1} {a : X} {m : M D} : nb e (.b1 bb a) m = m := id rfl
theorem nb_max2 {a : X} {b : X} {m : M D} : nb e (.max2 a b) m = m := id rfl
theorem nb_min2 {a : X} {b : X} {m : M D} : nb e (.min2 a b) m = m := id rfl
theorem nb_isa {a : X} {ts : List Ty} {m : M D} : nb e (.isa a ts) m = m := id rfl
theorem nb_lc {a : X} {tg : Tg} {it : It} {lo : Xo} {vs : List Nat} {m : M D} : nb e (.lc a tg it lo vs) m = m := id rfl
theorem nb_lenset {a : X} {m : M D} : nb e (.lenset a) m = m := id rfl
theorem nb_dict0  {m : M D} : nb e (.dict0) m = m := id rfl
theorem nb_srtset {a : X} {m : M D} : nb e (.srtset a) m = m := id rfl
theorem nb_lidx {a b : X} {m : M D} : nb e (.lidx a b) m = m := id rfl
theorem nb_rep {a : X} {m : M D} : nb e (.rep a) m = m := id rfl
theorem nb_dic1 {a : X} {b : X} {m : M D} : nb e (.dic1 a b) m = m := id rfl
theorem nb_get {a : X} {b : X} {c : X} {m : M D} : nb e (.get a b c) m = m := id rfl
theorem nb_lrng {a : X} {m : M D} : nb e (.lrng a) m = m := id rfl
theorem we_g {j : Nat} {Q : D → Wd → Prop} {E : EK} : wp (ev C (.g j) e) w Q E = wp (ofO C.gs[j]?) w Q E := by rw [ev]
theorem we_tup {es : Xs} {Q : D → Wd → Prop} {E : EK} : wp (ev C (.tup es) e) w Q E = wp (evs C es e) w (fun ds w => ds.length ≤ SZ ∧ Q (.tup ds) w) E := by rw [ev, wp_bind]; simp only [wp_grd, wp_pure]
theorem we_lst {es : Xs} {Q : D → Wd → Prop} {E : EK} : wp (ev C (.lst es) e) w Q E = wp (evs C es e) w (fun ds w => ds.length ≤ SZ ∧ Q (.lst ds) w) E := by rw [ev, wp_bind]; simp only [wp_grd, wp_pure]
theorem we_bin {o : Bo} {a b : X} {Q : D → Wd → Prop} {E : EK} : wp (ev C (.bin o a b) e) w Q E = wp (ev C a e) w (fun x w => wp (ev C b e) w (fun y w => wp (binop o x y) w Q E) E) E := by rw [ev, wp_bind]; simp only [wp_bind]
/-- an int -/
def onI (Q : Int → Wd → Prop) : D → Wd → Prop
  | .int i, w => Q i w
  | _, _ => False
theorem onI_int {Q : Int → Wd → Prop} {i : Int} {w : Wd} : onI Q (.int i) w = Q i w := id rfl
theorem we_neg {a : X} {Q : D → Wd → Prop} {E : EK} : wp (ev C (.neg a) e) w Q E = wp (ev C a e) w (fun x w => onI (fun i w => Q (.int (-i)) w) x w) E := by rw [ev, wp_bind]; refine congrArg (fun q => wp (ev C a e) w q E) ?_; funext x w; cases x <;> rfl
theorem we_not {a : X} {Q : D → Wd → Prop} {E : EK} : wp (ev C (.not a) e) w Q E = wp (ev C a e) w (onB fun b w => Q (.bl (!b)) w) E := by rw [ev, wp_bind, wp_tst]; rfl
def cmpE (C : Cfg) (e : Env) (a b : X) (o : Co) (x y : D) : M D := if isIns x && o == .eq then eqIns C e a b x y else der y >>= fun y => cmpop o x y
theorem cmpE_n {a b : X} {o : Co} {x y : D} (h : isIns x = false) : cmpE C e a b o x y = (der y >>= fun y => cmpop o x y) := by
  unfold cmpE
  rw [h]; rfl
theorem we_cmp {o : Co} {a b : X} {Q : D → Wd → Prop} {E : EK} : wp (ev C (.cmp o a b) e) w Q E = wp (ev C a e) w (fun x w => wp (ev C b e) w (fun y w => wp (cmpE C e a b o x y) w Q E) E) E := by rw [ev, wp_bind]; simp only [wp_bind]; rfl
/-- on a flag: the first if it holds -/
def kand (A B : Prop) : Bool → Prop
  | true => A
  | false => B
theorem kand_t {A B : Prop} : kand A B true = A := id rfl
theorem kand_f {A B : Prop} : kand A B false = B := id rfl
theorem we_cmp2 {o o' : Co} {a b c : X} {Q : D → Wd → Prop} {E : EK} : wp (ev C (.cmp2 o o' a b c) e) w Q E = wp (ev C a e) w (fun x w => wp (ev C b e) w (fun y w => wp (cmpop o x y) w (onB fun r w => kand (wp (ev C c e) w (fun z w => wp (cmpop o' y z) w Q E) E) (Q (.bl false) w) r) E) E) E := by
  rw [ev, wp_bind]; simp only [wp_bind, wp_tst]
  refine congrArg (fun q => wp (ev C a e) w q E) ?_
  funext x w
  refine congrArg (fun q => wp (ev C b e) w q E) ?_
  funext y w
  refine congrArg (fun q => wp (cmpop o x y) w q E) ?_
  refine congrArg onB ?_
  funext r w
  cases r
  · rfl
  · dsimp only; rw [wp_bind]; rfl
theorem we_and {es : Xs} {Q : D → Wd → Prop} {E : EK} : wp (ev C (.and es) e) w Q E = wp (evAnd C es e) w Q E := by rw [ev]
theorem we_or {es : Xs} {Q : D → Wd → Prop} {E : EK} : wp (ev C (.or es) e) w Q E = wp (evOr C es e) w Q E := by rw [ev]
theorem we_and1 {x : X} {Q : D → Wd → Prop} {E : EK} : wp (evAnd C (.cons x .nil) e) w Q E = wp (nb e x (ev C x e)) w Q E := by rw [evAnd]
theorem we_or1 {x : X} {Q : D → Wd → Prop} {E : EK} : wp (evOr C (.cons x .nil) e) w Q E = wp (nb e x (ev C x e)) w Q E := by rw [evOr]
theorem we_and2 {x y : X} {r : Xs} {Q : D → Wd → Prop} {E : EK} : wp (evAnd C (.cons x (.cons y r)) e) w Q E = wp (ev C x e) w (onB fun b w => kand (wp (evAnd C (.cons y r) e) w Q E) (Q (.bl false) w) b) E := by
  rw [evAnd, wp_bind, wp_tst]
  refine congrArg (fun q => wp (ev C x e) w (onB q) E) ?_
  funext b w
  cases b <;> rfl
theorem we_or2 {x y : X} {r : Xs} {Q : D → Wd → Prop} {E : EK} : wp (evOr C (.cons x (.cons y r)) e) w Q E = wp (ev C x e) w (onB fun b w => kand (Q (.bl true) w) (wp (evOr C (.cons y r) e) w Q E) b) E := by
  rw [evOr, wp_bind, wp_tst]
  refine congrArg (fun q => wp (ev C x e) w (onB q) E) ?_
  funext b w
  cases b <;> rfl
theorem we_ite {c a b : X} {Q : D → Wd → Prop} {E : EK} : wp (ev C (.ite c a b) e) w Q E = wp (ev C c e) w (onB fun r w => kand (wp (nb e a (ev C a e)) w Q E) (wp (nb e b (ev C b e)) w Q E) r) E := by
  rw [ev, wp_bind, wp_tst]
  refine congrArg (fun q => wp (ev C c e) w (onB q) E) ?_
  funext r w
  cases r <;> rfl
theorem we_idx {a b : X} {Q : D → Wd → Prop} {E : EK} : wp (ev C (.idx a b) e) w Q E = wp (ev C a e) w (fun x w => wp (ev C b e) w (fun y w => wp (der x) w (fun x w => wp (idxop x y) w Q E) E) E) E := by rw [ev]; simp only [wp_bind]
theorem we_sli {a : X} {lo hi : Xo} {Q : D → Wd → Prop} {E : EK} : wp (ev C (.sli a lo hi) e) w Q E = wp (ev C a e) w (fun x w => wp (evo C lo e) w (fun l w => wp (evo C hi e) w (fun h w => wp (der x) w (fun x w => wp (sliop x l h) w Q E) E) E) E) E := by rw [ev]; simp only [wp_bind]
theorem we_no {Q : Option Int → Wd → Prop} {E : EK} : wp (evo C .no e) w Q E = Q none w := by rw [evo]; rfl
theorem we_so {x : X} {Q : Option Int → Wd → Prop} {E : EK} : wp (evo C (.so x) e) w Q E = wp (ev C x e) w (onI fun i w => Q (some i) w) E := by rw [evo, wp_bind]; refine congrArg (fun q => wp (ev C x e) w q E) ?_; funext x w; cases x <;> rfl
theorem we_call (hh : C.hot = false) {j : Nat} {es : Xs} {Q : D → Wd → Prop} {E : EK} : wp (ev C (.call j es) e) w Q E = wp (evs C es e) w (fun ds w => wp (C.cf j ds) w Q E) E := by rw [ev]; unfold calm; rw [hh]; simp only [Bool.false_eq_true, if_false, wp_bind]
theorem we_mk (hh : C.hot = false) {j : Nat} {es : Xs} {Q : D → Wd → Prop} {E : EK} : wp (ev C (.mk j es) e) w Q E = wp (evs C es e) w (fun ds w => wp (C.cm j ds) w Q E) E := by rw [ev]; unfold calm; rw [hh]; simp only [Bool.false_eq_true, if_false, wp_bind]
theorem we_b1 {b : B1} {a : X} {Q : D → Wd → Prop} {E : EK} : wp (ev C (.b1 b a) e) w Q E = wp (ev C a e) w (fun x w => wp (der x) w (fun x w => wp (b1op b x) w Q E) E) E := by rw [ev]; simp only [wp_bind]
theorem we_max2 (hh : C.hot = false) {a b : X} {Q : D → Wd → Prop} {E : EK} : wp (ev C (.max2 a b) e) w Q E = wp (ev C a e) w (fun x w => wp (ev C b e) w (fun y w => onI (fun i w => onI (fun j w => Q (.int (if j > i then j else i)) w) y w) x w) E) E := by
  rw [ev]; unfold calm; rw [hh]
  simp only [Bool.false_eq_true, if_false, wp_bind]
  refine congrArg (fun q => wp (ev C a e) w q E) ?_
  funext x w
  refine congrArg (fun q => wp (ev C b e) w q E) ?_
  funext y w
  cases x <;> cases y <;> rfl
theorem we_min2 (hh : C.hot = false) {a b : X} {Q : D → Wd → Prop} {E : EK} : wp (ev C (.min2 a b) e) w Q E = wp (ev C a e) w (fun x w => wp (ev C b e) w (fun y w => onI (fun i w => onI (fun j w => Q (.int (if j < i then j else i)) w) y w) x w) E) E := by
  rw [ev]; unfold calm; rw [hh]
  simp only [Bool.false_eq_true, if_false, wp_bind]
  refine congrArg (fun q => wp (ev C a e) w q E) ?_
  funext x w
  refine congrArg (fun q => wp (ev C b e) w q E) ?_
  funext y w
  cases x <;> cases y <;> rfl
theorem we_lc (hh : C.hot = false) {x : X} {tg : Tg} {it : It} {c : Xo} {vs : List Nat} {Q : D → Wd → Prop} {E : EK} : wp (ev C (.lc x tg it c vs) e) w Q E = wp (evI C it e) w (fun ds w => (wipeOk e vs = true ∧ ds.length ≤ SZ) ∧ wp (lcGo (fun e' => noX (nb e' x (ev C x e'))) (fun e' => noX (evc C c e')) tg (wipeE e vs) ds) w (fun ys w => Q (.lst ys) w) E) E := by
  rw [ev]; unfold calm; rw [hh]
  simp only [Bool.false_eq_true, if_false, wp_bind]
  refine congrArg (fun q => wp (evI C it e) w q E) ?_
  funext ds w
  by_cases h : (wipeOk e vs && decide (ds.length ≤ SZ)) = true
  · rw [if_pos h, wp_bind]
    rw [Bool.and_eq_true, decide_eq_true_eq] at h
    simp only [h, and_self, true_and]; rfl
  · rw [if_neg h, wp_stk]
    rw [Bool.and_eq_true, decide_eq_true_eq] at h
    simp only [h, false_and]
theorem we_dict0 {Q : D → Wd → Prop} {E : EK} : wp (ev C (.dict0) e) w Q E = Q (.dic []) w := by rw [ev]; rfl
/-- a list -/
def onLst (Q : List D → Wd → Prop) : D → Wd → Prop
  | .lst i, w => Q i w
  | _, _ => False
theorem onLst_l {Q : List D → Wd → Prop} {i : List D} {w : Wd} : onLst Q (.lst i) w = Q i w := id rfl
theorem we_dic1 {a b : X} {Q : D → Wd → Prop} {E : EK} : wp (ev C (.dic1 a b) e) w Q E = wp (ev C a e) w (fun x w => wp (nb e b (ev C b e)) w (fun y w => isKey x = true ∧ Q (.dic [(x, y)]) w) E) E := by rw [ev]; simp only [wp_bind, wp_ifs, wp_pure]
theorem we_nil {Q : List D → Wd → Prop} {E : EK} : wp (evs C .nil e) w Q E = Q [] w := by rw [evs]; rfl
theorem we_cons {x : X} {r : Xs} {Q : List D → Wd → Prop} {E : EK} : wp (evs C (.cons x r) e) w Q E = wp (nb e x (ev C x e)) w (fun d w => wp (evs C r e) w (fun ds w => Q (d :: ds) w) E) E := by rw [evs]; simp only [wp_bind, wp_pure]
theorem we_lrng (hh : C.hot = false) {a : X} {Q : D → Wd → Prop} {E : EK} : wp (ev C (.lrng a) e) w Q E = wp (ev C a e) w (fun x w => wp (lrngOf x) w Q E) E := by
  rw [ev]; unfold calm; rw [hh]
  simp only [Bool.false_eq_true, if_false, wp_bind]
theorem we_rev {a : X} {Q : D → Wd → Prop} {E : EK} : wp (ev C (.rev a) e) w Q E = wp (ev C a e) w (fun x w => onLst (fun xs w => Q (.lst xs.reverse) w) x w) E := by
  rw [ev, wp_bind]; refine congrArg (fun q => wp (ev C a e) w q E) ?_; funext x w; cases x <;> rfl
theorem we_Ix {a : X} {Q : List D → Wd → Prop} {E : EK} : wp (evI C (.x a) e) w Q E = wp (nb e a (ev C a e)) w (fun d w => wp (itemsOf d) w Q E) E := by rw [evI, wp_bind]
theorem we_rng {es : Xs} {Q : List D → Wd → Prop} {E : EK} : wp (evI C (.rng es) e) w Q E = wp (evs C es e) w (fun d w => wp (rngOf d) w Q E) E := by rw [evI, wp_bind]
theorem we_enum {es : Xs} {Q : List D → Wd → Prop} {E : EK} : wp (evI C (.enum es) e) w Q E = wp (evs C es e) w (fun d w => wp (enumOf d) w Q E) E := by rw [evI, wp_bind]
theorem we_zip {es : Xs} {Q : List D → Wd → Prop} {E : EK} : wp (evI C (.zip es) e) w Q E = wp (evs C es e) w (fun d w => wp (zipOf d) w Q E) E := by rw [evI, wp_bind]
theorem evc_no : evc C .no e = pure true := by rw [evc]
theorem evc_so {x : X} : evc C (.so x) e = tst (ev C x e) := by rw [evc]
/-! ### operators -/
theorem b_addi {i j : Int} : binop .add (.int i) (.int j) = pure (.int (i + j)) := id rfl
theorem b_adds {x y : Str} : binop .add (.str x) (.str y) = grd (x.length + y.length ≤ SZ) (pure (.str (x ++ y))) := id rfl
theorem b_addt {x y : List D} : binop .add (.tup x) (.tup y) = grd (x.length + y.length ≤ SZ) (pure (.tup (x ++ y))) := id rfl
theorem b_addl {x y : List D} : binop .add (.lst x) (.lst y) = grd (x.length + y.length ≤ SZ) (pure (.lst (x ++ y))) := id rfl
theorem b_sub {i j : Int} : binop .sub (.int i) (.int j) = pure (.int (i - j)) := id rfl
theorem b_mul {i j : Int} : binop .mul (.int i) (.int j) = grd (mulOk i j) (pure (.int (i * j))) := id rfl
theorem b_mult {x : List D} {k : Int} : binop .mul (.tup x) (.int k) = grd (x ≠ [] ∧ 1 ≤ k ∧ k ≤ 1000 ∧ x.length ≤ 1000) (pure (.tup (List.replicate k.toNat x).flatten)) := id rfl
theorem b_mull {x : List D} {k : Int} : binop .mul (.lst x) (.int k) = grd (-(2 ^ 63) ≤ k ∧ k < 2 ^ 63 ∧ x.length * k.toNat ≤ SZ) (pure (.lst (List.replicate k.toNat x).flatten)) := id rfl
theorem b_fdv {i j : Int} : binop .fdv (.int i) (.int j) = grd (0 < j ∧ j < 1073741824) (pure (.int (i / j))) := id rfl
theorem b_mod {i j : Int} : binop .mod (.int i) (.int j) = grd (0 < j) (pure (.int (i % j))) := id rfl
theorem b_pow {i j : Int} : binop .pow (.int i) (.int j) = grd (0 ≤ j ∧ j ≤ 1000000 ∧ i.natAbs < 2 ^ 64) (pure (.int (i ^ j.toNat))) := id rfl
theorem c_eq {a b : D} : cmpop .eq a b = if shape2 a b then pure (.bl (D.eqv a b)) else stk := id rfl
theorem c_ne {a b : D} : cmpop .ne a b = if shape2 a b then pure (.bl (!D.eqv a b)) else stk := id rfl
theorem c_lt {i j : Int} : cmpop .lt (.int i) (.int j) = pure (.bl (decide (i < j))) := id rfl
theorem c_le {i j : Int} : cmpop .le (.int i) (.int j) = pure (.bl (decide (i ≤ j))) := id rfl
theorem c_gt {i j : Int} : cmpop .gt (.int i) (.int j) = pure (.bl (decide (j < i))) := id rfl
theorem c_ge {i j : Int} : cmpop .ge (.int i) (.int j) = pure (.bl (decide (j ≤ i))) := id rfl
theorem c_is {a : D} : cmpop .is a .non = pure (.bl (isNon a)) := by cases a <;> rfl
theorem c_nis {a : D} : cmpop .nis a .non = pure (.bl (!isNon a)) := by cases a <;> rfl
theorem c_isv {a : D} {b : Bool} : cmpop .is a (.bl b) = pure (.bl (isBl a b)) := by cases a <;> rfl
theorem c_nisv {a : D} {b : Bool} : cmpop .nis a (.bl b) = pure (.bl (!isBl a b)) := by cases a <;> rfl
theorem c_isb {a b : Bool} : cmpop .is (.bl a) (.bl b) = pure (.bl (a == b)) := id rfl
theorem c_nisb {a b : Bool} : cmpop .nis (.bl a) (.bl b) = pure (.bl (!(a == b))) := id rfl
theorem c_int {a : D} {xs : List D} : cmpop .isin a (.tup xs) = if flatD a && xs.all flatD then pure (.bl (hasD a xs)) else stk := id rfl
theorem c_nint {a : D} {xs : List D} : cmpop .nin a (.tup xs) = if flatD a && xs.all flatD then pure (.bl (!hasD a xs)) else stk := id rfl
theorem c_inl {a : D} {xs : List D} : cmpop .isin a (.lst xs) = if shapes a xs then pure (.bl (hasD a xs)) else stk := id rfl
theorem c_ninl {a : D} {xs : List D} : cmpop .nin a (.lst xs) = if shapes a xs then pure (.bl (!hasD a xs)) else stk := id rfl
theorem c_ind {a : D} {kvs : List (D × D)} : cmpop .isin a (.dic kvs) = if isKey a then pure (.bl (dfind kvs a).isSome) else stk := id rfl
theorem c_nind {a : D} {kvs : List (D × D)} : cmpop .nin a (.dic kvs) = if isKey a then pure (.bl (!(dfind kvs a).isSome)) else stk := id rfl
theorem x_tup {xs : List D} {k : Int} : idxop (.tup xs) (.int k) = ofO (L2.atI xs k) := id rfl
theorem x_lst {xs : List D} {k : Int} : idxop (.lst xs) (.int k) = ofO (L2.atI xs k) := id rfl
theorem x_dic {kvs : List (D × D)} {k : D} : idxop (.dic kvs) k = if isKey k then ofO (dfind kvs k) else stk := id rfl
theorem l_tup {xs : List D} {lo hi : Option Int} : sliop (.tup xs) lo hi = pure (.tup (cut xs lo hi)) := id rfl
theorem l_lst {xs : List D} {lo hi : Option Int} : sliop (.lst xs) lo hi = pure (.lst (cut xs lo hi)) := id rfl
theorem l_scr {xs : List Int} {lo hi : Option Int} : sliop (.scr xs) lo hi = pure (.lst (cut (xs.map .int) lo hi)) := id rfl
theorem f_len_tup {xs : List D} : b1op .len (.tup xs) = pure (.int xs.length) := id rfl
theorem f_len_lst {xs : List D} : b1op .len (.lst xs) = pure (.int xs.length) := id rfl
theorem f_len_dic {xs : List (D × D)} : b1op .len (.dic xs) = pure (.int xs.length) := id rfl
theorem f_len_scr {xs : List Int} : b1op .len (.scr xs) = pure (.int xs.length) := id rfl
theorem f_tuple_t {xs : List D} : b1op .tuple (.tup xs) = pure (.tup xs) := id rfl
theorem f_tuple_l {xs : List D} : b1op .tuple (.lst xs) = pure (.tup xs) := id rfl
theorem f_list_t {xs : List D} : b1op .list (.tup xs) = pure (.lst xs) := id rfl
theorem f_list_l {xs : List D} : b1op .list (.lst xs) = pure (.lst xs) := id rfl
theorem f_list_s {xs : List Int} : b1op .list (.scr xs) = pure (.lst (xs.map .int)) := id rfl
theorem f_int {i : Int} : b1op .int (.int i) = pure (.int i) := id rfl
theorem f_intb {b : Bool} : b1op .int (.bl b) = pure (.int (if b then 1 else 0)) := id rfl
theorem f_abs {i : Int} : b1op .abs (.int i) = pure (.int (if i < 0 then -i else i)) := id rfl
theorem boolsD_map {α : Type} {p : α → Bool} {xs : List α} : boolsD (xs.map fun a => D.bl (p a)) = some (xs.map p) := by
  induction xs with
  | nil => rfl
  | cons x r ih => rw [List.map_cons, boolsD, ih]; rfl
theorem intsD_map {α : Type} {p : α → Int} {xs : List α} : intsD (xs.map fun a => D.int (p a)) = some (xs.map p) := by
  induction xs with
  | nil => rfl
  | cons x r ih => rw [List.map_cons, intsD, ih]; rfl
theorem f_all {α : Type} {p : α → Bool} {xs : List α} : b1op .all (.lst (xs.map fun a => D.bl (p a))) = pure (.bl (xs.all p)) := by
  show (match boolsD (xs.map fun a => D.bl (p a)) with | some bs => pure (.bl (bs.all id)) | none => stk : M D) = _
  rw [boolsD_map]; dsimp only; rw [List.all_map]; rfl
theorem f_any {α : Type} {p : α → Bool} {xs : List α} : b1op .any (.lst (xs.map fun a => D.bl (p a))) = pure (.bl (xs.any p)) := by
  show (match boolsD (xs.map fun a => D.bl (p a)) with | some bs => pure (.bl (bs.any id)) | none => stk : M D) = _
  rw [boolsD_map]; dsimp only; rw [List.any_map]; rfl
theorem it_tup {xs : List D} : itemsOf (.tup xs) = pure xs := id rfl
theorem it_lst {xs : List D} : itemsOf (.lst xs) = pure xs := id rfl
theorem r_one {j : Int} : rngOf [.int j] = if rngOk j then pure (rngD 0 j.toNat) else stk := id rfl
theorem r_two {i j : Int} : rngOf [.int i, .int j] = if rngOk i ∧ rngOk j then pure (rngD i (j - i).toNat) else stk := id rfl
theorem lr_one {n : Int} : lrngOf (.int n) = if rngOk n ∧ n.toNat ≤ SZ then pure (.lst (rngD 0 n.toNat)) else stk := id rfl
theorem en_t {xs : List D} : enumOf [.tup xs] = pure (enumD xs) := id rfl
theorem en_l {xs : List D} : enumOf [.lst xs] = pure (enumD xs) := id rfl
theorem zi_t {xs ys : List D} : zipOf [.tup xs, .tup ys] = pure (zipD xs ys) := id rfl
theorem zi_l {xs ys : List D} : zipOf [.lst xs, .lst ys] = pure (zipD xs ys) := id rfl
theorem zi_tl {xs ys : List D} : zipOf [.tup xs, .lst ys] = pure (zipD xs ys) := id rfl
theorem zi_lt {xs ys : List D} : zipOf [.lst xs, .tup ys] = pure (zipD xs ys) := id rfl
theorem of_s {d : D} : ofO (some d) = pure d := id rfl
theorem of_n  : ofO none = stk := id rfl
theorem der_non  : der .non = pure .non := id rfl
theorem ins_non  : isIns .non = false := id rfl
theorem non_non  : isNon .non = true := id rfl
theorem flat_non  : flatD .non = true := id rfl
theorem key_non  : isKey .non = false := id rfl
theorem cont_non  : contD .non = false := id rfl
theorem der_bl {b : Bool} : der (.bl b) = pure (.bl b) := id rfl
theorem ins_bl {b : Bool} : isIns (.bl b) = false := id rfl
theorem non_bl {b : Bool} : isNon (.bl b) = false := id rfl
theorem flat_bl {b : Bool} : flatD (.bl b) = true := id rfl
theorem key_bl {b : Bool} : isKey (.bl b) = false := id rfl
theorem cont_bl {b : Bool} : contD (.bl b) = false := id rfl
theorem der_int {i : Int} : der (.int i) = pure (.int i) := id rfl
theorem ins_int {i : Int} : isIns (.int i) = false := id rfl
theorem non_int {i : Int} : isNon (.int i) = false := id rfl
theorem flat_int {i : Int} : flatD (.int i) = true := id rfl
theorem key_int {i : Int} : isKey (.int i) = true := id rfl
theorem cont_int {i : Int} : contD (.int i) = false := id rfl
theorem der_str {s : Str} : der (.str s) = pure (.str s) := id rfl
theorem ins_str {s : Str} : isIns (.str s) = false := id rfl
theorem non_str {s : Str} : isNon (.str s) = false := id rfl
theorem flat_str {s : Str} : flatD (.str s) = true := id rfl
theorem key_str {s : Str} : isKey (.str s) = true := id rfl
theorem cont_str {s : Str} : contD (.str s) = false := id rfl
theorem der_tup {xs : List D} : der (.tup xs) = pure (.tup xs) := id rfl
theorem ins_tup {xs : List D} : isIns (.tup xs) = false := id rfl
theorem non_tup {xs : List D} : isNon (.tup xs) = false := id rfl
theorem flat_tup {xs : List D} : flatD (.tup xs) = false := id rfl
theorem key_tup {xs : List D} : isKey (.tup xs) = false := id rfl
theorem cont_tup {xs : List D} : contD (.tup xs) = false := id rfl
theorem der_lst {xs : List D} : der (.lst xs) = pure (.lst xs) := id rfl
theorem ins_lst {xs : List D} : isIns (.lst xs) = false := id rfl
theorem non_lst {xs : List D} : isNon (.lst xs) = false := id rfl
theorem flat_lst {xs : List D} : flatD (.lst xs) = false := id rfl
theorem key_lst {xs : List D} : isKey (.lst xs) = false := id rfl
theorem cont_lst {xs : List D} : contD (.lst xs) = true := id rfl
theorem der_dic {xs : List (D × D)} : der (.dic xs) = pure (.dic xs) := id rfl
theorem ins_dic {xs : List (D × D)} : isIns (.dic xs) = false := id rfl
theorem non_dic {xs : List (D × D)} : isNon (.dic xs) = false := id rfl
theorem flat_dic {xs : List (D × D)} : flatD (.dic xs) = false := id rfl
theorem key_dic {xs : List (D × D)} : isKey (.dic xs) = false := id rfl
theorem cont_dic {xs : List (D × D)} : contD (.dic xs) = true := id rfl
theorem der_ins {c : Nat} {fs : List (Str × D)} : der (.ins c fs) = pure (.ins c fs) := id rfl
theorem non_ins {c : Nat} {fs : List (Str × D)} : isNon (.ins c fs) = false := id rfl
theorem flat_ins {c : Nat} {fs : List (Str × D)} : flatD (.ins c fs) = false := id rfl
theorem key_ins {c : Nat} {fs : List (Str × D)} : isKey (.ins c fs) = false := id rfl
theorem cont_ins {c : Nat} {fs : List (Str × D)} : contD (.ins c fs) = true := id rfl
theorem der_fn {c : Nat} : der (.fn c) = pure (.fn c) := id rfl
theorem ins_fn {c : Nat} : isIns (.fn c) = false := id rfl
theorem non_fn {c : Nat} : isNon (.fn c) = false := id rfl
theorem flat_fn {c : Nat} : flatD (.fn c) = false := id rfl
theorem key_fn {c : Nat} : isKey (.fn c) = false := id rfl
theorem cont_fn {c : Nat} : contD (.fn c) = false := id rfl
theorem der_scr {ns : List Int} : der (.scr ns) = pure (.scr ns) := id rfl
theorem ins_scr {ns : List Int} : isIns (.scr ns) = false := id rfl
theorem non_scr {ns : List Int} : isNon (.scr ns) = false := id rfl
theorem flat_scr {ns : List Int} : flatD (.scr ns) = false := id rfl
theorem key_scr {ns : List Int} : isKey (.scr ns) = false := id rfl
theorem cont_scr {ns : List Int} : contD (.scr ns) = false := id rfl
theorem ins_ins {c : Nat} {fs : List (Str × D)} : isIns (.ins c fs) = true := id rfl
theorem isa_non_int  {nc : Nat} : isaT nc .non .int = some false := id rfl
theorem isa_non_bool  {nc : Nat} : isaT nc .non .bool = some false := id rfl
theorem isa_non_str  {nc : Nat} : isaT nc .non .str = some false := id rfl
theorem isa_non_tuple  {nc : Nat} : isaT nc .non .tuple = some false := id rfl
theorem isa_non_list  {nc : Nat} : isaT nc .non .list = some false := id rfl
theorem isa_non_dict  {nc : Nat} : isaT nc .non .dict = some false := id rfl
theorem isa_non_cls  {nc c : Nat} : isaT nc .non (.cls c) = some false := id rfl
theorem isa_bl_int {b : Bool} {nc : Nat} : isaT nc (.bl b) .int = some true := id rfl
theorem isa_bl_bool {b : Bool} {nc : Nat} : isaT nc (.bl b) .bool = some true := id rfl
theorem isa_bl_str {b : Bool} {nc : Nat} : isaT nc (.bl b) .str = some false := id rfl
theorem isa_bl_tuple {b : Bool} {nc : Nat} : isaT nc (.bl b) .tuple = some false := id rfl
theorem isa_bl_list {b : Bool} {nc : Nat} : isaT nc (.bl b) .list = some false := id rfl
theorem isa_bl_dict {b : Bool} {nc : Nat} : isaT nc (.bl b) .dict = some false := id rfl
theorem isa_bl_cls {b : Bool} {nc c : Nat} : isaT nc (.bl b) (.cls c) = some false := id rfl
theorem isa_int_int {i : Int} {nc : Nat} : isaT nc (.int i) .int = some true := id rfl
theorem isa_int_bool {i : Int} {nc : Nat} : isaT nc (.int i) .bool = some false := id rfl
theorem isa_int_str {i : Int} {nc : Nat} : isaT nc (.int i) .str = some false := id rfl
theorem isa_int_tuple {i : Int} {nc : Nat} : isaT nc (.int i) .tuple = some false := id rfl
theorem isa_int_list {i : Int} {nc : Nat} : isaT nc (.int i) .list = some false := id rfl
theorem isa_int_dict {i : Int} {nc : Nat} : isaT nc (.int i) .dict = some false := id rfl
theorem isa_int_cls {i : Int} {nc c : Nat} : isaT nc (.int i) (.cls c) = some false := id rfl
theorem isa_str_int {s : Str} {nc : Nat} : isaT nc (.str s) .int = some false := id rfl
theorem isa_str_bool {s : Str} {nc : Nat} : isaT nc (.str s) .bool = some false := id rfl
theorem isa_str_str {s : Str} {nc : Nat} : isaT nc (.str s) .str = some true := id rfl
theorem isa_str_tuple {s : Str} {nc : Nat} : isaT nc (.str s) .tuple = some false := id rfl
theorem isa_str_list {s : Str} {nc : Nat} : isaT nc (.str s) .list = some false := id rfl
theorem isa_str_dict {s : Str} {nc : Nat} : isaT nc (.str s) .dict = some false := id rfl
theorem isa_str_cls {s : Str} {nc c : Nat} : isaT nc (.str s) (.cls c) = some false := id rfl
theorem isa_tup_int {xs : List D} {nc : Nat} : isaT nc (.tup xs) .int = some false := id rfl
theorem isa_tup_bool {xs : List D} {nc : Nat} : isaT nc (.tup xs) .bool = some false := id rfl
theorem isa_tup_str {xs : List D} {nc : Nat} : isaT nc (.tup xs) .str = some false := id rfl
theorem isa_tup_tuple {xs : List D} {nc : Nat} : isaT nc (.tup xs) .tuple = some true := id rfl
theorem isa_tup_list {xs : List D} {nc : Nat} : isaT nc (.tup xs) .list = some false := id rfl
theorem isa_tup_dict {xs : List D} {nc : Nat} : isaT nc (.tup xs) .dict = some false := id rfl
theorem isa_tup_cls {xs : List D} {nc c : Nat} : isaT nc (.tup xs) (.cls c) = some false := id rfl
theorem isa_lst_int {xs : List D} {nc : Nat} : isaT nc (.lst xs) .int = some false := id rfl
theorem isa_lst_bool {xs : List D} {nc : Nat} : isaT nc (.lst xs) .bool = some false := id rfl
theorem isa_lst_str {xs : List D} {nc : Nat} : isaT nc (.lst xs) .str = some false := id rfl
theorem isa_lst_tuple {xs : List D} {nc : Nat} : isaT nc (.lst xs) .tuple = some false := id rfl
theorem isa_lst_list {xs : List D} {nc : Nat} : isaT nc (.lst xs) .list = some true := id rfl
theorem isa_lst_dict {xs : List D} {nc : Nat} : isaT nc (.lst xs) .dict = some false := id rfl
theorem isa_lst_cls {xs : List D} {nc c : Nat} : isaT nc (.lst xs) (.cls c) = some false := id rfl
theorem isa_dic_int {xs : List (D × D)} {nc : Nat} : isaT nc (.dic xs) .int = some false := id rfl
theorem isa_dic_bool {xs : List (D × D)} {nc : Nat} : isaT nc (.dic xs) .bool = some false := id rfl
theorem isa_dic_str {xs : List (D × D)} {nc : Nat} : isaT nc (.dic xs) .str = some false := id rfl
theorem isa_dic_tuple {xs : List (D × D)} {nc : Nat} : isaT nc (.dic xs) .tuple = some false := id rfl
theorem isa_dic_list {xs : List (D × D)} {nc : Nat} : isaT nc (.dic xs) .list = some false := id rfl
theorem isa_dic_dict {xs : List (D × D)} {nc : Nat} : isaT nc (.dic xs) .dict = some true := id rfl
theorem isa_dic_cls {xs : List (D × D)} {nc c : Nat} : isaT nc (.dic xs) (.cls c) = some false := id rfl
theorem isa_ins_int {nc c : Nat} {fs : List (Str × D)} (h : c < nc) : isaT nc (.ins c fs) .int = some false := if_pos h
theorem isa_ins_bool {nc c : Nat} {fs : List (Str × D)} (h : c < nc) : isaT nc (.ins c fs) .bool = some false := if_pos h
theorem isa_ins_str {nc c : Nat} {fs : List (Str × D)} (h : c < nc) : isaT nc (.ins c fs) .str = some false := if_pos h
theorem isa_ins_tuple {nc c : Nat} {fs : List (Str × D)} (h : c < nc) : isaT nc (.ins c fs) .tuple = some false := if_pos h
theorem isa_ins_list {nc c : Nat} {fs : List (Str × D)} (h : c < nc) : isaT nc (.ins c fs) .list = some false := if_pos h
theorem isa_ins_dict {nc c : Nat} {fs : List (Str × D)} (h : c < nc) : isaT nc (.ins c fs) .dict = some false := if_pos h
theorem isa_ins_cls {nc c d : Nat} {fs : List (Str × D)} (h : c < nc) : isaT nc (.ins c fs) (.cls d) = some (c == d) := if_pos h
theorem isas_nil {nc : Nat} {a : D} : isaTs nc a [] = some false := id rfl
theorem isas_t {nc : Nat} {a : D} {t : Ty} {r : List Ty} (h : isaT nc a t = some true) : isaTs nc a (t :: r) = some true := by rw [isaTs, h]
theorem isas_f {nc : Nat} {a : D} {t : Ty} {r : List Ty} (h : isaT nc a t = some false) : isaTs nc a (t :: r) = isaTs nc a r := by rw [isaTs, h]
theorem cut_from1 {α : Type} {xs : List α} {k : Nat} : cut xs (some ((k : Int) + 1)) none = xs.drop (k + 1) := cut_from (k := k + 1)
theorem cut_1 {α : Type} {xs : List α} : cut xs (some 1) none = xs.drop 1 := cut_from (k := 1)
theorem cut_t2 {α : Type} {xs : List α} : cut xs none (some 2) = xs.take 2 := cut_to (k := 2)
theorem cut_t3 {α : Type} {xs : List α} : cut xs none (some 3) = xs.take 3 := cut_to (k := 3)
theorem take_drop_set {α : Type} {xs : List α} {k : Nat} {x : α} (h : k < xs.length) : xs.take k ++ x :: xs.drop (k + 1) = xs.set k x := by
  rw [List.set_eq_take_append_cons_drop, if_pos h]
theorem lk_nil {β : Type} {a : Str} : List.lookup a ([] : List (Str × β)) = none := id rfl
theorem lk_cons {β : Type} {a k : Str} {b : β} {r : List (Str × β)} : List.lookup a ((k, b) :: r) = if a == k then some b else List.lookup a r := by
  rw [List.lookup]
  cases a == k <;> rfl
theorem wi_nil : wipeE e [] = e := id rfl
theorem wi_cons {v : Nat} {vs : List Nat} : wipeE e (v :: vs) = (wipeE e vs).set v .un := id rfl
def zwS : Option Slot → Bool
  | some (.own _) => false
  | _ => true
theorem zwS_val {d : D} : zwS (some (.val d)) = true := id rfl
theorem zwS_un : zwS (some .un) = true := id rfl
theorem wo_nil : wipeOk e [] = true := id rfl
theorem wo_cons {v : Nat} {vs : List Nat} : wipeOk e (v :: vs) = (zwS e[v]? && wipeOk e vs) := by
  unfold wipeOk
  rw [List.all_cons]
  refine congrArg (fun b => b && _) ?_
  unfold zwS
  cases e[v]? with
  | none => rfl
  | some s => cases s <;> rfl
theorem wp_lc {α : Type} {f : Env → M D} {c : Env → M Bool} {tg : Tg} {Q : List D → Wd → Prop} {E : EK} (enc : α → D) (p : α → Bool) (g : α → D) (xs : List α)
    (h : ∀ a ∈ xs, ∃ e', bindTg tg (enc a) e = some e' ∧ (∀ w, wp (c e') w (fun b w' => b = p a ∧ w' = w) NoE) ∧ (p a = true → ∀ w, wp (f e') w (fun d w' => d = g a ∧ w' = w) NoE)) (hq : Q ((xs.filter p).map g) w) : wp (lcGo f c tg e (xs.map enc)) w Q E := by
  rw [lcGo_map enc p g xs fun a ha => ?_, wp_pure]
  · exact hq
  · obtain ⟨e', h1, h2, h3⟩ := h a ha
    exact ⟨e', h1, eq_pure h2, fun z => eq_pure (h3 z)⟩
/-- no test -/
theorem wp_lc1 {α : Type} {f : Env → M D} {c : Env → M Bool} {tg : Tg} {Q : List D → Wd → Prop} {E : EK} (enc : α → D) (g : α → D) (xs : List α) (hc : ∀ e', c e' = pure true)
    (h : ∀ a ∈ xs, ∃ e', bindTg tg (enc a) e = some e' ∧ (∀ w, wp (f e') w (fun d w' => d = g a ∧ w' = w) NoE)) (hq : Q (xs.map g) w) : wp (lcGo f c tg e (xs.map enc)) w Q E := by
  refine wp_lc enc (fun _ => true) g xs (fun a ha => ?_) (by rw [List.filter_eq_self.mpr fun _ _ => rfl]; exact hq)
  obtain ⟨e', h1, h2⟩ := h a ha
  exact ⟨e', h1, fun w => by rw [hc, wp_pure]; exact ⟨rfl, rfl⟩, fun _ => h2⟩
theorem shape_str {x y : Str} (hx : PyData.strOk x = true) (hy : PyData.strOk y = true) : shape2 (.str x) (.str y) = true := by
  unfold shape2
  simp [D.shp, hx, hy, D.dep]
theorem noX_pure {α : Type} {a : α} : noX (pure a) = pure a := id rfl
theorem non_eO {α : Type} {f : α → D} {o : Option α} (h : ∀ a, isNon (f a) = false) : isNon (eO f o) = o.isNone := by
  cases o with
  | none => rfl
  | some a => exact h a
theorem der_eO {α : Type} {f : α → D} {o : Option α} (h : ∀ a, der (f a) = pure (f a)) : der (eO f o) = pure (eO f o) := by
  cases o with
  | none => rfl
  | some a => exact h a
theorem ins_eO {α : Type} {f : α → D} {o : Option α} (h : ∀ a, isIns (f a) = false) : isIns (eO f o) = false := by
  cases o with
  | none => rfl
  | some a => exact h a
theorem rngOk_nat {n : Nat} (h : n ≤ 1000000) : rngOk (n : Int) := by
  unfold rngOk
  have e : (2 : Int) ^ 62 = 4611686018427387904 := by rfl
  rw [e]
  omega
theorem rngOk_int {n : Int} (h : 0 ≤ n ∧ n ≤ 1000000) : rngOk n := by
  unfold rngOk
  have e : (2 : Int) ^ 62 = 4611686018427387904 := by rfl
  rw [e]
  omega
theorem mull_nat {x : List D} {k : Nat} (h : x.length ≤ 10) (hk : k ≤ 1000) : binop .mul (.lst x) (.int k) = pure (.lst (List.replicate k x).flatten) := by
  rw [b_mull]
  have e : (2 : Int) ^ 63 = 9223372036854775808 := by rfl
  rw [e]
  unfold grd
  rw [if_pos]
  · simp
  · have z : x.length * k ≤ 10 * 1000 := Nat.mul_le_mul h hk
    simp only [Int.toNat_natCast]
    unfold SZ; omega
theorem rngD0 {n : Nat} : rngD 0 n = (List.range n).map fun (i : Nat) => D.int (i : Int) := by
  unfold rngD
  refine congrArg (fun f => (List.range n).map f) ?_
  funext i
  simp
theorem map_range {α β : Type} (f : Nat → β) (g : α → β) (xs : List α) (h : ∀ i a, xs[i]? = some a → f i = g a) : (List.range xs.length).map f = xs.map g := by
  refine List.ext_getElem (by simp) fun i h1 h2 => ?_
  simp only [List.length_map, List.length_range] at h1
  simp only [List.getElem_map, List.getElem_range]
  exact h i _ (List.getElem?_eq_getElem h1)
theorem enumD_map {α : Type} (f : α → D) (xs : List α) : enumD (xs.map f) = xs.zipIdx.map fun p => .tup [.int p.2, f p.1] := by
  unfold enumD
  refine List.ext_getElem (by simp) fun i h1 h2 => ?_
  simp
def frzL (is : List Nat) : Nat → Env → Env
  | _, [] => []
  | k, s :: r => frzS is k s :: frzL is (k + 1) r
theorem frzL_go {is : List Nat} : ∀ (e : Env) (k : Nat), e.mapIdx (fun i s => frzS is (i + k) s) = frzL is k e
  | [], k => rfl
  | s :: r, k => by
    rw [List.mapIdx_cons, frzL, ← frzL_go r (k + 1)]
    refine congr (congrArg List.cons (by rw [Nat.zero_add])) (congrArg (fun f => List.mapIdx f r) ?_)
    funext i s
    rw [show i + 1 + k = i + (k + 1) from by omega]
theorem fz_E {is : List Nat} : frzE e is = frzL is 0 e := by
  rw [← frzL_go e 0]; rfl
theorem fz_nil {is : List Nat} {k : Nat} : frzL is k [] = [] := id rfl
theorem fz_cons {is : List Nat} {k : Nat} {s : Slot} {r : Env} : frzL is k (s :: r) = frzS is k s :: frzL is (k + 1) r := id rfl
def frz1 : Bool → Slot → Slot
  | true, .own d => .val d
  | _, s => s
theorem fz_S {is : List Nat} {i : Nat} {s : Slot} : frzS is i s = frz1 (is.contains i) s := by
  cases s with
  | own d => unfold frzS; cases is.contains i <;> rfl
  | _ => unfold frzS; cases is.contains i <;> rfl
theorem fz_f {s : Slot} : frz1 false s = s := by cases s <;> rfl
theorem fz_own {d : D} : frz1 true (.own d) = .val d := id rfl
theorem fz_val {d : D} : frz1 true (.val d) = .val d := id rfl
theorem fz_un : frz1 true .un = .un := id rfl
def zdS (Q : D → Wd → Prop) (w : Wd) : Option D → Prop
  | some d => Q d w
  | none => False
theorem zdS_some {Q : D → Wd → Prop} {d : D} : zdS Q w (some d) = Q d w := id rfl
theorem der_cel {n : Nat} {Q : D → Wd → Prop} {E : EK} : wp (der (.cel n)) w Q E = zdS Q w w[n]? := by
  unfold wp der
  dsimp only
  cases w[n]? <;> rfl
theorem mulOk_r {i j : Int} (h0 : -1000000000000 ≤ j) (h1 : j ≤ 1000000000000) : mulOk i j := by
  unfold mulOk
  have e : (2 : Int) ^ 64 = 18446744073709551616 := by rfl
  rw [e]
  omega
theorem mulOk_l {i j : Int} (h0 : -1000000000000 ≤ i) (h1 : i ≤ 1000000000000) : mulOk i j := by
  unfold mulOk
  have e : (2 : Int) ^ 64 = 18446744073709551616 := by rfl
  rw [e]
  omega
theorem setAt_nat {xs : List D} {k : Nat} {d : D} : setAt xs (k : Int) d = if k < xs.length then some (xs.set k d) else none := by
  unfold setAt L2.ixN
  rw [if_pos (by omega)]
  by_cases h : k < xs.length
  · rw [if_pos (by omega), if_pos h]; simp
  · rw [if_neg (by omega), if_neg h]; rfl
theorem setAt_1 {xs : List D} {d : D} : setAt xs 1 d = if 1 < xs.length then some (xs.set 1 d) else none := setAt_nat (k := 1)
theorem setAt_2 {xs : List D} {d : D} : setAt xs 2 d = if 2 < xs.length then some (xs.set 2 d) else none := setAt_nat (k := 2)
theorem setAt_3 {xs : List D} {d : D} : setAt xs 3 d = if 3 < xs.length then some (xs.set 3 d) else none := setAt_nat (k := 3)
theorem setAt_4 {xs : List D} {d : D} : setAt xs 4 d = if 4 < xs.length then some (xs.set 4 d) else none := setAt_nat (k := 4)
theorem wp_seq {s : S} {r : Ss} {Q : Fl → Wd → Prop} {E : EK} (J : Env → Wd → Prop) (h : wp (ex C s e) w (fun f w' => ∃ e', f = .nx e' ∧ J e' w') NoE) (hr : ∀ e' w', J e' w' → wp (exs C r e') w' Q E) : wp (exs C (.cons s r) e) w Q E := by
  rw [wp_cons]
  refine wp_mq h fun f w' ⟨e', hf, hj⟩ => ?_
  subst hf
  exact hr e' w' hj
theorem atI_mem {α : Type} {xs : List α} {r : Nat} (h : r < xs.length) : ∃ x, L2.atI xs (r : Int) = some x ∧ x ∈ xs := ⟨xs[r], by rw [atI_nat, List.getElem?_eq_getElem h], List.getElem_mem h⟩
theorem hasD_ints {i : Nat} {hs : List Nat} : hasD (.int (i : Int)) (hs.map fun (h : Nat) => .int (h : Int)) = decide (i ∈ hs) := by
  unfold hasD
  rw [List.any_map]
  induction hs with
  | nil => simp
  | cons a r ih =>
    rw [List.any_cons, ih]
    simp only [Function.comp, eqv_int, List.mem_cons]
    by_cases e : i = a
    · subst e; simp
    · have e2 : ¬ ((a : Int) = (i : Int)) := by omega
      simp [e, e2]
theorem flat_ints {hs : List Nat} : (hs.map fun (h : Nat) => D.int (h : Int)).all flatD = true := by simp [flatD]
theorem zipD_self {xs : List D} : zipD xs xs = xs.map fun x => .tup [x, x] := by
  unfold zipD
  induction xs with
  | nil => rfl
  | cons x r ih => simp [ih]
/-- numbers, None, tuples of such, so deep -/
def ND : Nat → D → Prop
  | 0, d => d = .non ∨ ∃ i, d = .int i
  | m + 1, d => (d = .non ∨ ∃ i, d = .int i) ∨ ∃ xs, d = .tup xs ∧ xs.length ≤ 100000 ∧ ∀ x ∈ xs, ND m x
theorem ND.int {m : Nat} {i : Int} : ND m (.int i) := by
  cases m with
  | zero => exact .inr ⟨i, rfl⟩
  | succ m => exact .inl (.inr ⟨i, rfl⟩)
theorem ND.non {m : Nat} : ND m .non := by
  cases m with
  | zero => exact .inl rfl
  | succ m => exact .inl (.inl rfl)
theorem ND.tup {m : Nat} {xs : List D} (h : xs.length ≤ 100000) (hx : ∀ x ∈ xs, ND m x) : ND (m + 1) (.tup xs) := .inr ⟨xs, rfl, h, hx⟩
/-! ### slots in statements -/
theorem isS_v {i : Nat} {d : D} (h : e[i]? = some (.val d)) : isS e i = pure () := by unfold isS; rw [h]
def zsS (w : Wd) (Q : Unit → Wd → Prop) : Option Slot → Prop
  | some (.own _) => Q () w
  | some (.val _) => Q () w
  | _ => False
theorem zsS_val {Q : Unit → Wd → Prop} {d : D} : zsS w Q (some (.val d)) = Q () w := id rfl
theorem zsS_own {Q : Unit → Wd → Prop} {d : D} : zsS w Q (some (.own d)) = Q () w := id rfl
theorem wp_isS {i : Nat} {Q : Unit → Wd → Prop} {E : EK} : wp (isS e i) w Q E = zsS w Q e[i]? := by
  unfold isS
  cases e[i]? with
  | none => rfl
  | some s => cases s <;> rfl
def zlS (w : Wd) (Q : Unit → Wd → Prop) : Option Slot → Prop
  | some (.own (.lst _)) => Q () w
  | some (.val (.cel n)) => match w[n]? with | some (.lst _) => Q () w | _ => False
  | _ => False
theorem zlS_own {Q : Unit → Wd → Prop} {xs : List D} : zlS w Q (some (.own (.lst xs))) = Q () w := id rfl
theorem zlS_cel {Q : Unit → Wd → Prop} {n : Nat} : zlS w Q (some (.val (.cel n))) = (match w[n]? with | some (.lst _) => Q () w | _ => False) := id rfl
theorem wp_isL {i : Nat} {Q : Unit → Wd → Prop} {E : EK} : wp (isL e i) w Q E = zlS w Q e[i]? := by
  unfold isL
  cases e[i]? with
  | none => rfl
  | some s => cases s with
    | own d => cases d <;> rfl
    | val d => cases d with
      | cel n =>
        unfold wp zlS
        dsimp only
        cases w[n]? with
        | none => rfl
        | some x => cases x <;> rfl
      | _ => rfl
    | _ => rfl
def ztS (e : Env) (i : Nat) (f : List D → Option (List D)) (w : Wd) (Q : Fl → Wd → Prop) : Option Slot → Prop
  | some (.own (.lst xs)) => ∃ ys, f xs = some ys ∧ Q (.nx (e.set i (.own (.lst ys)))) w
  | some (.val (.cel n)) => ∃ xs ys, w[n]? = some (.lst xs) ∧ f xs = some ys ∧ Q (.nx e) (w.set n (.lst ys))
  | _ => False
theorem ztS_own {i : Nat} {f : List D → Option (List D)} {Q : Fl → Wd → Prop} {xs : List D} : ztS e i f w Q (some (.own (.lst xs))) = ∃ ys, f xs = some ys ∧ Q (.nx (e.set i (.own (.lst ys)))) w := id rfl
theorem ztS_cel {i : Nat} {f : List D → Option (List D)} {Q : Fl → Wd → Prop} {n : Nat} : ztS e i f w Q (some (.val (.cel n))) = ∃ xs ys, w[n]? = some (.lst xs) ∧ f xs = some ys ∧ Q (.nx e) (w.set n (.lst ys)) := id rfl
theorem wp_toL {i : Nat} {f : List D → Option (List D)} {Q : Fl → Wd → Prop} {E : EK} : wp (toL e i f) w Q E = ztS e i f w Q e[i]? := by
  unfold toL
  cases e[i]? with
  | none => rfl
  | some s => cases s with
    | own d => cases d with
      | lst xs =>
        unfold ztS
        dsimp only
        cases f xs with
        | none => simp [wp_stk]
        | some ys => simp [wp_pure]
      | _ => rfl
    | val d => cases d with
      | cel n =>
        unfold ztS wp
        dsimp only
        cases w[n]? with
        | none => simp
        | some x => cases x with
          | lst xs =>
            dsimp only
            cases hf : f xs with
            | none => exact propext ⟨fun h => h.elim, fun ⟨_, _, e1, e2, _⟩ => by cases e1; rw [hf] at e2; cases e2⟩
            | some ys => exact propext ⟨fun h => ⟨xs, ys, rfl, hf, h⟩, fun ⟨_, _, e1, e2, h⟩ => by cases e1; rw [hf] at e2; cases e2; exact h⟩
          | _ => simp
      | _ => rfl
    | _ => rfl
def zpS (e : Env) (i : Nat) (k d : D) (w : Wd) (Q : Fl → Wd → Prop) (E : EK) : Option Slot → Prop
  | some (.own (.dic kvs)) => (isKey k = true ∧ kvs.length < SZ) ∧ Q (.nx (e.set i (.own (.dic (dput kvs k d))))) w
  | some s => onI (fun k w => ztS e i (fun xs => setAt xs k d) w Q (some s)) k w
  | none => False
theorem zpS_dic {i : Nat} {k d : D} {Q : Fl → Wd → Prop} {E : EK} {kvs : List (D × D)} : zpS e i k d w Q E (some (.own (.dic kvs))) = ((isKey k = true ∧ kvs.length < SZ) ∧ Q (.nx (e.set i (.own (.dic (dput kvs k d))))) w) := id rfl
theorem zpS_lst {i : Nat} {k d : D} {Q : Fl → Wd → Prop} {E : EK} {xs : List D} : zpS e i k d w Q E (some (.own (.lst xs))) = onI (fun k w => ztS e i (fun xs => setAt xs k d) w Q (some (.own (.lst xs)))) k w := id rfl
theorem zpS_cel {i : Nat} {k d : D} {Q : Fl → Wd → Prop} {E : EK} {n : Nat} : zpS e i k d w Q E (some (.val (.cel n))) = onI (fun k w => ztS e i (fun xs => setAt xs k d) w Q (some (.val (.cel n)))) k w := id rfl
theorem wp_putAt {i : Nat} {k d : D} {Q : Fl → Wd → Prop} {E : EK} : wp (putAt e i k d) w Q E = zpS e i k d w Q E e[i]? := by
  have l : ∀ s, e[i]? = s → wp (putI e i k d) w Q E = onI (fun k w => ztS e i (fun xs => setAt xs k d) w Q s) k w := fun s h => by
    unfold putI
    cases k with
    | int k => dsimp only; rw [wp_toL, h]; rfl
    | _ => rfl
  unfold putAt
  cases h : e[i]? with
  | none => rw [l _ h]; cases k <;> rfl
  | some s => cases s with
    | own d' => cases d' with
      | dic kvs => unfold zpS; dsimp only; rw [wp_ifs]; rfl
      | _ => dsimp only; rw [l _ h]; rfl
    | _ => dsimp only; rw [l _ h]; rfl
def zqS (C : Cfg) (e : Env) (i : Nat) (f : Str) (d : D) (w : Wd) (Q : Fl → Wd → Prop) : Option Slot → Prop
  | some (.own (.ins c fs)) => (fs.length < 1000 ∧ c < C.nc) ∧ Q (.nx (e.set i (.own (.ins c (putF f d fs))))) w
  | some (.val (.cel n)) => ∃ c fs, w[n]? = some (.ins c fs) ∧ (fs.length < 1000 ∧ c < C.nc) ∧ Q (.nx e) (w.set n (.ins c (putF f d fs)))
  | _ => False
theorem zqS_own {i : Nat} {f : Str} {d : D} {Q : Fl → Wd → Prop} {c : Nat} {fs : List (Str × D)} : zqS C e i f d w Q (some (.own (.ins c fs))) = ((fs.length < 1000 ∧ c < C.nc) ∧ Q (.nx (e.set i (.own (.ins c (putF f d fs))))) w) := id rfl
theorem wp_putFld {i : Nat} {f : Str} {d : D} {Q : Fl → Wd → Prop} {E : EK} : wp (putFld C e i f d) w Q E = zqS C e i f d w Q e[i]? := by
  unfold putFld
  cases h : e[i]? with
  | none => rfl
  | some s => cases s with
    | own d' => cases d' with
      | ins c fs => unfold zqS; dsimp only; rw [wp_ifs]; rfl
      | _ => rfl
    | val d' => cases d' with
      | cel n =>
        unfold zqS wp
        dsimp only
        cases w[n]? with
        | none => simp
        | some x => cases x with
          | ins c fs =>
            dsimp only
            by_cases h : fs.length < 1000 ∧ c < C.nc
            · simp only [h, and_self, if_true]
              exact propext ⟨fun q => ⟨c, fs, rfl, h, q⟩, fun ⟨_, _, e1, _, q⟩ => by cases e1; exact q⟩
            · simp only [h, if_false]
              exact propext ⟨fun q => q.elim, fun ⟨_, _, e1, q, _⟩ => by cases e1; exact absurd q h⟩
          | _ => simp
      | _ => rfl
    | _ => rfl
/-! ### slots that stay: what a term's own lists are -/
theorem frzE_nil {is : List Nat} : frzE [] is = [] := by unfold frzE; rfl
theorem frzS_val {is : List Nat} {i : Nat} {d : D} : frzS is i (.val d) = .val d := id rfl
theorem frzS_un {is : List Nat} {i : Nat} : frzS is i .un = .un := id rfl
theorem frzS_own {is : List Nat} {i : Nat} {d : D} : frzS is i (.own d) = if is.contains i then .val d else .own d := id rfl
theorem bi_n {i : Nat} {d : D} : bindTg (.n i) d e = if i < e.length then some (e.set i (.val d)) else none := by rw [bindTg]
theorem bi_t {ts : List Tg} {ds : List D} : bindTg (.t ts) (.tup ds) e = bindTg.go ts ds e := by rw [bindTg]
theorem bi_nil : bindTg.go [] [] e = some e := by rw [bindTg.go]
theorem bi_cons {t : Tg} {ts : List Tg} {d : D} {ds : List D} : bindTg.go (t :: ts) (d :: ds) e = (bindTg t d e).bind fun e' => bindTg.go ts ds e' := by
  rw [bindTg.go]
  cases bindTg t d e <;> rfl
theorem pa_nil : parE [] [] e = some e := id rfl
theorem pa_f {i : Nat} {ts : List (Nat × Bool)} {d : D} {ds : List D} : parE ((i, false) :: ts) (d :: ds) e = if i < e.length then parE ts ds (e.set i (.val d)) else none := by
  rw [parE]; simp
theorem pa_t {i : Nat} {ts : List (Nat × Bool)} {d : D} {ds : List D} : parE ((i, true) :: ts) (d :: ds) e = if i < e.length ∧ contD d = true ∧ i ≠ 0 then parE ts ds (e.set i (.own d)) else none := by
  rw [parE]; simp
theorem pf_nil {f : Str} {v : D} : putF f v [] = [(f, v)] := id rfl
theorem pf_cons {f g : Str} {v x : D} {r : List (Str × D)} : putF f v ((g, x) :: r) = if g == f then (g, v) :: r else (g, x) :: putF f v r := by
  rw [putF]
  by_cases h : g = f
  · rw [if_pos h, if_pos (by simp [h])]
  · rw [if_neg h, if_neg (by simp [h])]
/-! ### errors -/
def ktri (C : Cfg) (hs : Hs) (Q : Fl → Wd → Prop) (E : EK) : Fl → Wd → Prop
  | .xc c x e, w => wp (exh C hs c x e) w Q E
  | f, w => Q f w
section
variable {hs : Hs} {Q : Fl → Wd → Prop} {E : EK} {d : D} {c : Nat} {x : Option D}
theorem ktri_nx : ktri C hs Q E (.nx e) w = Q (.nx e) w := id rfl
theorem ktri_rt : ktri C hs Q E (.rt d) w = Q (.rt d) w := id rfl
theorem ktri_bk : ktri C hs Q E (.bk e) w = Q (.bk e) w := id rfl
theorem ktri_ct : ktri C hs Q E (.ct e) w = Q (.ct e) w := id rfl
theorem ktri_xc : ktri C hs Q E (.xc c x e) w = wp (exh C hs c x e) w Q E := id rfl
theorem wp_tri (hh : C.hot = false) {b : Ss} : wp (ex C (.tri b hs) e) w Q E = wp (exs C b e) w (ktri C hs Q E) E := by
  rw [ex]
  unfold calm
  rw [hh, if_neg (by simp), wp_bind]
  refine congrArg (fun q => wp (exs C b e) w q E) ?_
  funext f w
  cases f <;> rfl
def zsub : Option Bool → Prop → Prop → Prop
  | some true, a, _ => a
  | some false, _, b => b
  | none, _, _ => False
theorem zsub_t {a b : Prop} : zsub (some true) a b = a := id rfl
theorem zsub_f {a b : Prop} : zsub (some false) a b = b := id rfl
def outX : Option Nat → Env → Env
  | some i, e => wipeX (e.set i .un)
  | none, e => e
theorem outX_some {i : Nat} : outX (some i) e = wipeX (e.set i .un) := id rfl
theorem outX_none : outX none e = e := id rfl
def khs (i : Option Nat) (Q : Fl → Wd → Prop) : Fl → Wd → Prop
  | .nx e, w => Q (.nx (outX i e)) w
  | .bk e, w => Q (.bk (outX i e)) w
  | .ct e, w => Q (.ct (outX i e)) w
  | .rt d, w => Q (.rt d) w
  | .xc _ _ _, _ => False
theorem khs_nx {i : Option Nat} : khs i Q (.nx e) w = Q (.nx (outX i e)) w := id rfl
theorem khs_bk {i : Option Nat} : khs i Q (.bk e) w = Q (.bk (outX i e)) w := id rfl
theorem khs_ct {i : Option Nat} : khs i Q (.ct e) w = Q (.ct (outX i e)) w := id rfl
theorem khs_rt {i : Option Nat} : khs i Q (.rt d) w = Q (.rt d) w := id rfl
theorem wp_exh_as {k i : Nat} {b : Ss} {r : Hs} : wp (exh C (.cons k (some i) b r) c x e) w Q E = zsub (C.sub c k) (i < e.length ∧ wp (exs { C with hot := true } b (e.set i (.exc c x))) w (khs (some i) Q) E) (wp (exh C r c x e) w Q E) := by
  rw [exh]
  cases C.sub c k with
  | none => rfl
  | some t =>
    cases t with
    | false => rfl
    | true =>
      show wp (if i < e.length then _ else stk) w Q E = _
      rw [wp_ifs, wp_bind]
      show _ = (i < e.length ∧ _)
      refine congrArg (i < e.length ∧ ·) (congrArg (fun q => wp (exs { C with hot := true } b (e.set i (.exc c x))) w q E) ?_)
      funext f w
      cases f <;> rfl
theorem wp_exh_no {k : Nat} {b : Ss} {r : Hs} : wp (exh C (.cons k none b r) c x e) w Q E = zsub (C.sub c k) (wp (exs { C with hot := true } b e) w (khs none Q) E) (wp (exh C r c x e) w Q E) := by
  rw [exh]
  cases C.sub c k with
  | none => rfl
  | some t =>
    cases t with
    | false => rfl
    | true =>
      show wp (exs { C with hot := true } b e >>= _) w Q E = _
      rw [wp_bind]
      refine congrArg (fun q => wp (exs { C with hot := true } b e) w q E) ?_
      funext f w
      cases f <;> rfl
theorem zfS_exc {f : Str} {Q : D → Wd → Prop} : zfS C f w Q E (some (.exc c (some d))) = (C.xf c = some f ∧ Q d w) := by
  show wp (fldX C c (some d) f) w Q E = _
  unfold fldX
  dsimp only
  rw [wp_ifs, wp_pure]
theorem wipeX_nil : wipeX [] = [] := id rfl
theorem wipeX_cons {s : Slot} : wipeX (s :: e) = noExS s :: wipeX e := id rfl
theorem noExS_un : noExS .un = .un := id rfl
theorem noExS_val : noExS (.val d) = .val d := id rfl
theorem noExS_own : noExS (.own d) = .own d := id rfl
theorem noExS_exc : noExS (.exc c x) = .un := id rfl
end
end Ev

set_option maxRecDepth 100000
set_option maxHeartbeats 4000000
namespace Ev
open PySem
def Vz0 := (And.intro (And.intro (And.intro (And.intro (And.intro (And.intro (@wp_pure) (@wp_bind)) (And.intro (@wp_stk) (@wp_rse))) (And.intro (And.intro (@wp_grd) (@wp_if)) (And.intro (@wp_cat) (@onB_bl)))) (And.intro (And.intro (And.intro (@wp_tst) (@endK_nx)) (And.intro (@endK_rt) (@endK_xc))) (And.intro (And.intro (@wp_endF) (@wp_noX)) (And.intro (@endKI_nx) (@endKI_xc))))) (And.intro (And.intro (And.intro (And.intro (@wp_endI) (@pure_bnd)) (And.intro (@kont_nx) (@kont_rt))) (And.intro (And.intro (@kont_bk) (@kont_ct)) (And.intro (@kont_xc) (@kont_nil)))) (And.intro (And.intro (And.intro (@wp_nil) (@wp_cons)) (And.intro (@kif_t) (@kif_f))) (And.intro (And.intro (@wp_iff) (@wp_set)) (And.intro (@wp_seto) (@wp_ret)))))) (And.intro (And.intro (And.intro (And.intro (And.intro (@wp_retc) (@wp_ex)) (And.intro (@wp_stx) (@wp_stf))) (And.intro (And.intro (@app1_one) (@wp_app)) (And.intro (@wp_brk) (@wp_cnt)))) (And.intro (And.intro (And.intro (@wp_pas) (@wp_frz)) (And.intro (@wp_setS) (@eqv_int))) (And.intro (And.intro (@eqv_str) (@eqv_bl)) (And.intro (@shape_int) (@shape_bl))))) (And.intro (And.intro (And.intro (And.intro (@atI_0) (@atI_1)) (And.intro (@atI_2) (@atI_3))) (And.intro (And.intro (@atI_4) (@atI_5)) (And.intro (@atI_6) (@cut_to)))) (And.intro (And.intro (And.intro (@cut_from) (@we_k)) (And.intro (@zvS_val) (@zvS_own))) (And.intro (And.intro (@znS_val) (@we_v)) (And.intro (@nb_v) (@fldD_ins)))))))
def Vz1 := (And.intro (And.intro (And.intro (And.intro (And.intro (And.intro (@zfS_val) (@zfS_own)) (And.intro (@we_fld) (@ziS_val))) (And.intro (And.intro (@ziS_own) (@we_isa)) (And.intro (@we_isax) (@zcS_val)))) (And.intro (And.intro (And.intro (@zgS_val) (@zgS_own)) (And.intro (@we_get) (@nb_k))) (And.intro (And.intro (@nb_g) (@nb_tup)) (And.intro (@nb_lst) (@nb_bin))))) (And.intro (And.intro (And.intro (And.intro (@nb_neg) (@nb_not)) (And.intro (@nb_cmp) (@nb_cmp2))) (And.intro (And.intro (@nb_and) (@nb_or)) (And.intro (@nb_ite) (@nb_idx)))) (And.intro (And.intro (And.intro (@nb_sli) (@nb_rev)) (And.intro (@nb_fld) (@nb_call))) (And.intro (And.intro (@nb_cav) (@nb_mk)) (And.intro (@nb_b1) (@nb_max2)))))) (And.intro (And.intro (And.intro (And.intro (And.intro (@nb_min2) (@nb_isa)) (And.intro (@nb_lc) (@nb_lenset))) (And.intro (And.intro (@nb_dict0) (@nb_get)) (And.intro (@nb_lrng) (@we_g)))) (And.intro (And.intro (And.intro (@we_tup) (@we_lst)) (And.intro (@we_bin) (@onI_int))) (And.intro (And.intro (@we_neg) (@we_not)) (And.intro (@cmpE_n) (@we_cmp))))) (And.intro (And.intro (And.intro (And.intro (@kand_t) (@kand_f)) (And.intro (@we_cmp2) (@we_and))) (And.intro (And.intro (@we_or) (@we_and1)) (And.intro (@we_or1) (@we_and2)))) (And.intro (And.intro (And.intro (@we_or2) (@we_ite)) (And.intro (@we_idx) (@we_sli))) (And.intro (And.intro (@we_no) (@we_so)) (And.intro (@we_b1) (@we_dict0)))))))
def Vz2 := (And.intro (And.intro (And.intro (And.intro (And.intro (And.intro (@onLst_l) (@we_nil)) (And.intro (@we_cons) (@we_rev))) (And.intro (And.intro (@we_Ix) (@we_rng)) (And.intro (@we_enum) (@we_zip)))) (And.intro (And.intro (And.intro (@evc_no) (@evc_so)) (And.intro (@b_addi) (@b_adds))) (And.intro (And.intro (@b_addt) (@b_addl)) (And.intro (@b_sub) (@b_mul))))) (And.intro (And.intro (And.intro (And.intro (@b_mult) (@b_mull)) (And.intro (@b_fdv) (@b_mod))) (And.intro (And.intro (@b_pow) (@c_eq)) (And.intro (@c_ne) (@c_lt)))) (And.intro (And.intro (And.intro (@c_le) (@c_gt)) (And.intro (@c_ge) (@c_is))) (And.intro (And.intro (@c_nis) (@c_isb)) (And.intro (@c_nisb) (@c_int)))))) (And.intro (And.intro (And.intro (And.intro (And.intro (@c_nint) (@c_inl)) (And.intro (@c_ninl) (@c_ind))) (And.intro (And.intro (@c_nind) (@x_tup)) (And.intro (@x_lst) (@x_dic)))) (And.intro (And.intro (And.intro (@l_tup) (@l_lst)) (And.intro (@l_scr) (@f_len_tup))) (And.intro (And.intro (@f_len_lst) (@f_len_dic)) (And.intro (@f_len_scr) (@f_tuple_t))))) (And.intro (And.intro (And.intro (And.intro (@f_tuple_l) (@f_list_t)) (And.intro (@f_list_l) (@f_list_s))) (And.intro (And.intro (@f_int) (@f_abs)) (And.intro (@f_all) (@f_any)))) (And.intro (And.intro (And.intro (@it_tup) (@it_lst)) (And.intro (@r_one) (@r_two))) (And.intro (And.intro (@lr_one) (@en_t)) (And.intro (@en_l) (@zi_t)))))))
def Vz3 := (And.intro (And.intro (And.intro (And.intro (And.intro (And.intro (@zi_l) (@of_s)) (And.intro (@of_n) (@der_non))) (And.intro (And.intro (@ins_non) (@non_non)) (And.intro (@flat_non) (@key_non)))) (And.intro (And.intro (And.intro (@cont_non) (@der_bl)) (And.intro (@ins_bl) (@non_bl))) (And.intro (And.intro (@flat_bl) (@key_bl)) (And.intro (@cont_bl) (@der_int))))) (And.intro (And.intro (And.intro (And.intro (@ins_int) (@non_int)) (And.intro (@flat_int) (@key_int))) (And.intro (And.intro (@cont_int) (@der_str)) (And.intro (@ins_str) (@non_str)))) (And.intro (And.intro (And.intro (@flat_str) (@key_str)) (And.intro (@cont_str) (@der_tup))) (And.intro (And.intro (@ins_tup) (@non_tup)) (And.intro (@flat_tup) (@key_tup)))))) (And.intro (And.intro (And.intro (And.intro (And.intro (@cont_tup) (@der_lst)) (And.intro (@ins_lst) (@non_lst))) (And.intro (And.intro (@flat_lst) (@key_lst)) (And.intro (@cont_lst) (@der_dic)))) (And.intro (And.intro (And.intro (@ins_dic) (@non_dic)) (And.intro (@flat_dic) (@key_dic))) (And.intro (And.intro (@cont_dic) (@der_ins)) (And.intro (@non_ins) (@flat_ins))))) (And.intro (And.intro (And.intro (And.intro (@key_ins) (@cont_ins)) (And.intro (@der_fn) (@ins_fn))) (And.intro (And.intro (@non_fn) (@flat_fn)) (And.intro (@key_fn) (@cont_fn)))) (And.intro (And.intro (And.intro (@der_scr) (@ins_scr)) (And.intro (@non_scr) (@flat_scr))) (And.intro (And.intro (@key_scr) (@cont_scr)) (And.intro (@ins_ins) (@isa_non_int)))))))
def Vz4 := (And.intro (And.intro (And.intro (And.intro (And.intro (And.intro (@isa_non_bool) (@isa_non_str)) (And.intro (@isa_non_tuple) (@isa_non_list))) (And.intro (And.intro (@isa_non_dict) (@isa_non_cls)) (And.intro (@isa_bl_int) (@isa_bl_bool)))) (And.intro (And.intro (And.intro (@isa_bl_str) (@isa_bl_tuple)) (And.intro (@isa_bl_list) (@isa_bl_dict))) (And.intro (And.intro (@isa_bl_cls) (@isa_int_int)) (And.intro (@isa_int_bool) (@isa_int_str))))) (And.intro (And.intro (And.intro (And.intro (@isa_int_tuple) (@isa_int_list)) (And.intro (@isa_int_dict) (@isa_int_cls))) (And.intro (And.intro (@isa_str_int) (@isa_str_bool)) (And.intro (@isa_str_str) (@isa_str_tuple)))) (And.intro (And.intro (And.intro (@isa_str_list) (@isa_str_dict)) (And.intro (@isa_str_cls) (@isa_tup_int))) (And.intro (And.intro (@isa_tup_bool) (@isa_tup_str)) (And.intro (@isa_tup_tuple) (@isa_tup_list)))))) (And.intro (And.intro (And.intro (And.intro (And.intro (@isa_tup_dict) (@isa_tup_cls)) (And.intro (@isa_lst_int) (@isa_lst_bool))) (And.intro (And.intro (@isa_lst_str) (@isa_lst_tuple)) (And.intro (@isa_lst_list) (@isa_lst_dict)))) (And.intro (And.intro (And.intro (@isa_lst_cls) (@isa_dic_int)) (And.intro (@isa_dic_bool) (@isa_dic_str))) (And.intro (And.intro (@isa_dic_tuple) (@isa_dic_list)) (And.intro (@isa_dic_dict) (@isa_dic_cls))))) (And.intro (And.intro (And.intro (And.intro (@isa_ins_int) (@isa_ins_bool)) (And.intro (@isa_ins_str) (@isa_ins_tuple))) (And.intro (And.intro (@isa_ins_list) (@isa_ins_dict)) (And.intro (@isa_ins_cls) (@isas_nil)))) (And.intro (And.intro (And.intro (@isas_t) (@isas_f)) (And.intro (@zsS_val) (@zsS_own))) (And.intro (And.intro (@wp_isS) (@zlS_own)) (And.intro (@zlS_cel) (@wp_isL)))))))
def Vz5 := (And.intro (And.intro (And.intro (And.intro (And.intro (And.intro (@ztS_own) (@ztS_cel)) (And.intro (@wp_toL) (@zpS_dic))) (And.intro (And.intro (@zpS_lst) (@zpS_cel)) (And.intro (@wp_putAt) (@zqS_own)))) (And.intro (And.intro (And.intro (@wp_putFld) (@bi_n)) (And.intro (@bi_t) (@bi_nil))) (And.intro (And.intro (@bi_cons) (@pa_nil)) (And.intro (@pa_f) (@pa_t))))) (And.intro (And.intro (And.intro (And.intro (@pf_nil) (@pf_cons)) (And.intro (@cut_from1) (@cut_1))) (And.intro (And.intro (@cut_t2) (@cut_t3)) (And.intro (@lk_nil) (@lk_cons)))) (And.intro (And.intro (And.intro (@wi_nil) (@wi_cons)) (And.intro (@zwS_val) (@zwS_un))) (And.intro (And.intro (@wo_nil) (@wo_cons)) (And.intro (@atI_nat) (@shape_str)))))) (And.intro (And.intro (And.intro (And.intro (And.intro (@noX_pure) (@fz_E)) (And.intro (@fz_nil) (@fz_cons))) (And.intro (And.intro (@fz_S) (@fz_f)) (And.intro (@fz_own) (@fz_val)))) (And.intro (And.intro (And.intro (@fz_un) (@zdS_some)) (And.intro (@der_cel) (@setAt_1))) (And.intro (And.intro (@setAt_2) (@setAt_3)) (And.intro (@setAt_4) (@we_dic1))))) (And.intro (And.intro (And.intro (And.intro (@nb_dic1) (@zi_tl)) (And.intro (@zi_lt) (@ext1_l))) (And.intro (And.intro (@ext1_t) (@wp_ext)) (And.intro (@nb_srtset) (@nb_lidx)))) (And.intro (And.intro (And.intro (@ktri_nx) (@ktri_rt)) (And.intro (@ktri_bk) (@ktri_ct))) (And.intro (And.intro (@ktri_xc) (@zsub_t)) (And.intro (@zsub_f) (@khs_nx)))))))
def Vz6 := (And.intro (And.intro (And.intro (And.intro (@khs_bk) (@khs_ct)) (And.intro (@khs_rt) (@outX_some))) (And.intro (And.intro (@outX_none) (@zfS_exc)) (And.intro (@wipeX_nil) (@wipeX_cons)))) (And.intro (And.intro (And.intro (@noExS_un) (@noExS_val)) (And.intro (@noExS_own) (@noExS_exc))) (And.intro (And.intro (@c_isv) (@c_nisv)) (And.intro (@nb_rep) (@f_intb)))))
end Ev

set_option maxRecDepth 100000
set_option maxHeartbeats 4000000
namespace K02
open PySem Ev
noncomputable abbrev iniF (n : Nat) : Nat → List D → M D := (deep prg n).2.2
noncomputable def cg (n : Nat) : Cfg := cfgOf prg (callF prg n) (iniF n)
@[simp] theorem cg_hot {n : Nat} : (cg n).hot = false := rfl
@[simp] theorem cg_nc {n : Nat} : (cg n).nc = 1 := rfl
@[simp] theorem cg_nf {n : Nat} : (cg n).nf = 69 := rfl
@[simp] theorem cg_gs {n : Nat} : (cg n).gs = gs := rfl
@[simp] theorem cg_cf {n : Nat} : (cg n).cf = callF prg n := rfl
@[simp] theorem cg_cm {n : Nat} : (cg n).cm = iniF n := rfl
@[simp] theorem calm_cg {n : Nat} {α : Type} {m : M α} : calm (cg n) m = m := rfl
@[simp] theorem cg_wf {n : Nat} : (cg n).wf = 100000 := rfl
@[simp] theorem cg_ce0 {n : Nat} : (cg n).ce 0 = some 15 := rfl
noncomputable def ch (n : Nat) : Cfg := { cg n with hot := true }
@[simp] theorem cg_sub_1_1 {n : Nat} : (cg n).sub 1 1 = some true := rfl
@[simp] theorem cg_sub_1_2 {n : Nat} : (cg n).sub 1 2 = some false := rfl
@[simp] theorem cg_sub_1_3 {n : Nat} : (cg n).sub 1 3 = some false := rfl
@[simp] theorem cg_sub_1_4 {n : Nat} : (cg n).sub 1 4 = some false := rfl
@[simp] theorem cg_sub_2_1 {n : Nat} : (cg n).sub 2 1 = some true := rfl
@[simp] theorem cg_sub_2_2 {n : Nat} : (cg n).sub 2 2 = some true := rfl
@[simp] theorem cg_sub_2_3 {n : Nat} : (cg n).sub 2 3 = some false := rfl
@[simp] theorem cg_sub_2_4 {n : Nat} : (cg n).sub 2 4 = some false := rfl
@[simp] theorem cg_sub_3_1 {n : Nat} : (cg n).sub 3 1 = some true := rfl
@[simp] theorem cg_sub_3_2 {n : Nat} : (cg n).sub 3 2 = some false := rfl
@[simp] theorem cg_sub_3_3 {n : Nat} : (cg n).sub 3 3 = some true := rfl
@[simp] theorem cg_sub_3_4 {n : Nat} : (cg n).sub 3 4 = some false := rfl
@[simp] theorem cg_sub_4_1 {n : Nat} : (cg n).sub 4 1 = some true := rfl
@[simp] theorem cg_sub_4_2 {n : Nat} : (cg n).sub 4 2 = some false := rfl
@[simp] theorem cg_sub_4_3 {n : Nat} : (cg n).sub 4 3 = some false := rfl
@[simp] theorem cg_sub_4_4 {n : Nat} : (cg n).sub 4 4 = some true := rfl
@[simp] theorem ch_xf_2 {n : Nat} : (ch n).xf 2 = some s0_part := rfl
section
variable {n : Nat} {e : Ev.Env} {w : Wd}
@[simp] theorem wp_tri_g {b : Ss} {hs : Hs} {Q : Fl → Wd → Prop} {E : EK} : wp (ex (cg n) (.tri b hs) e) w Q E = wp (exs (cg n) b e) w (ktri (cg n) hs Q E) E := wp_tri rfl
@[simp] theorem wp_exh_g {k i : Nat} {b : Ss} {r : Hs} {c : Nat} {x : Option D} {Q : Fl → Wd → Prop} {E : EK} : wp (exh (cg n) (.cons k (some i) b r) c x e) w Q E = zsub ((cg n).sub c k) (i < e.length ∧ wp (exs (ch n) b (e.set i (.exc c x))) w (khs (some i) Q) E) (wp (exh (cg n) r c x e) w Q E) := wp_exh_as
@[simp] theorem wp_exn_g {k : Nat} {b : Ss} {r : Hs} {c : Nat} {x : Option D} {Q : Fl → Wd → Prop} {E : EK} : wp (exh (cg n) (.cons k none b r) c x e) w Q E = zsub ((cg n).sub c k) (wp (exs (ch n) b e) w (khs none Q) E) (wp (exh (cg n) r c x e) w Q E) := wp_exh_no
@[simp] theorem we_call_g {j : Nat} {es : Xs} {Q : D → Wd → Prop} {E : EK} : wp (ev (cg n) (.call j es) e) w Q E = wp (evs (cg n) es e) w (fun ds w => wp (callF prg n j ds) w Q E) E := we_call rfl
@[simp] theorem we_mk_g {j : Nat} {es : Xs} {Q : D → Wd → Prop} {E : EK} : wp (ev (cg n) (.mk j es) e) w Q E = wp (evs (cg n) es e) w (fun ds w => wp (iniF n j ds) w Q E) E := we_mk rfl
@[simp] theorem we_cav_g {i : Nat} {es : Xs} {Q : D → Wd → Prop} {E : EK} : wp (ev (cg n) (.cav i es) e) w Q E = zcS (cg n) w (evs (cg n) es e) Q E e[i]? := we_cav rfl
@[simp] theorem we_lc_g {x : X} {tg : Tg} {it : It} {c : Xo} {vs : List Nat} {Q : D → Wd → Prop} {E : EK} : wp (ev (cg n) (.lc x tg it c vs) e) w Q E = wp (evI (cg n) it e) w (fun ds w => (wipeOk e vs = true ∧ ds.length ≤ SZ) ∧ wp (lcGo (fun e' => noX (nb e' x (ev (cg n) x e'))) (fun e' => noX (evc (cg n) c e')) tg (wipeE e vs) ds) w (fun ys w => Q (.lst ys) w) E) E := we_lc rfl
@[simp] theorem we_lrng_g {a : X} {Q : D → Wd → Prop} {E : EK} : wp (ev (cg n) (.lrng a) e) w Q E = wp (ev (cg n) a e) w (fun x w => wp (lrngOf x) w Q E) E := we_lrng rfl
@[simp] theorem we_srtset_g {a : X} {Q : D → Wd → Prop} {E : EK} : wp (ev (cg n) (.srtset a) e) w Q E = wp (ev (cg n) a e) w (fun x w => wp (srtOf x) w Q E) E := by rw [ev, calm_cg, wp_bind]
@[simp] theorem we_rep_g {a : X} {Q : D → Wd → Prop} {E : EK} : wp (ev (cg n) (.rep a) e) w Q E = wp (ev (cg n) a e) w (fun x w => wp (repOf x) w Q E) E := by rw [ev, calm_cg, wp_bind]
@[simp] theorem we_lidx_g {a b : X} {Q : D → Wd → Prop} {E : EK} : wp (ev (cg n) (.lidx a b) e) w Q E = wp (ev (cg n) a e) w (fun x w => wp (isLs x) w (fun _ w => wp (ev (cg n) b e) w (fun y w => wp (idxOf x y) w Q E) E) E) E := by rw [ev]; simp only [wp_bind]
@[simp] theorem we_max2_g {a b : X} {Q : D → Wd → Prop} {E : EK} : wp (ev (cg n) (.max2 a b) e) w Q E = wp (ev (cg n) a e) w (fun x w => wp (ev (cg n) b e) w (fun y w => onI (fun i w => onI (fun j w => Q (.int (if j > i then j else i)) w) y w) x w) E) E := we_max2 rfl
@[simp] theorem we_min2_g {a b : X} {Q : D → Wd → Prop} {E : EK} : wp (ev (cg n) (.min2 a b) e) w Q E = wp (ev (cg n) a e) w (fun x w => wp (ev (cg n) b e) w (fun y w => onI (fun i w => onI (fun j w => Q (.int (if j < i then j else i)) w) y w) x w) E) E := we_min2 rfl
@[simp] theorem wp_for_g {tg : Tg} {it : It} {b : Ss} {Q : Fl → Wd → Prop} {E : EK} : wp (ex (cg n) (.for tg it b) e) w Q E = wp (evI (cg n) it e) w (fun ds w' => wp (forGo tg (fun e => exs (cg n) b e) ds e) w' Q E) (kx Q e) := wp_for rfl
@[simp] theorem wp_setG_g {t : Tg} {x : X} {Q : Fl → Wd → Prop} {E : EK} : wp (ex (cg n) (.setG t x) e) w Q E = wp (nb e x (ev (cg n) x e)) w (fun d w' => ∃ e', bindTg t d e = some e' ∧ Q (.nx e') w') (kx Q e) := wp_setG rfl
@[simp] theorem wp_par_g {ts : List (Nat × Bool)} {es : Xs} {Q : Fl → Wd → Prop} {E : EK} : wp (ex (cg n) (.par ts es) e) w Q E = wp (evs (cg n) es e) w (fun d w' => ∃ e', parE ts d e = some e' ∧ Q (.nx e') w') (kx Q e) := wp_par rfl
@[simp] theorem wp_rse1_g {c : Nat} {x : X} {Q : Fl → Wd → Prop} {E : EK} : wp (ex (cg n) (.rse c (.so x)) e) w Q E = wp (nb e x (ev (cg n) x e)) w (fun d w' => Q (.xc c (some d) e) w') (kx Q e) := wp_rse1 rfl
@[simp] theorem wp_rse0_g {c : Nat} {Q : Fl → Wd → Prop} {E : EK} : wp (ex (cg n) (.rse c .no) e) w Q E = Q (.xc c none e) w := wp_rse0 rfl
end
theorem c_BadPlay_init (n : Nat) (a0 a1 : D) : callF prg (n + 1) 0 [a0, a1] = endF (exs (cg n) f_BadPlay_init.body [.val a0, .val a1]) := id rfl
theorem c_is_integer (n : Nat) (a0 : D) : callF prg (n + 1) 1 [a0] = endF (exs (cg n) f_is_integer.body [.val a0]) := id rfl
theorem c_is_within (n : Nat) (a0 a1 a2 : D) : callF prg (n + 1) 2 [a0, a1, a2] = endF (exs (cg n) f_is_within.body [.val a0, .val a1, .val a2]) := id rfl
theorem c_is_below (n : Nat) (a0 a1 : D) : callF prg (n + 1) 3 [a0, a1] = endF (exs (cg n) f_is_below.body [.val a0, .val a1]) := id rfl
theorem c_is_sized (n : Nat) (a0 a1 a2 : D) : callF prg (n + 1) 4 [a0, a1, a2] = endF (exs (cg n) f_is_sized.body [.val a0, .val a1, .val a2]) := id rfl
theorem c_is_pair (n : Nat) (a0 : D) : callF prg (n + 1) 5 [a0] = endF (exs (cg n) f_is_pair.body [.val a0]) := id rfl
theorem c_replaced (n : Nat) (a0 a1 a2 : D) : callF prg (n + 1) 6 [a0, a1, a2] = endF (exs (cg n) f_replaced.body [.val a0, .val a1, .val a2]) := id rfl
theorem c_is_deed (n : Nat) (a0 : D) : callF prg (n + 1) 7 [a0] = endF (exs (cg n) f_is_deed.body [.val a0]) := id rfl
theorem c_is_script (n : Nat) (a0 : D) : callF prg (n + 1) 8 [a0] = endF (exs (cg n) f_is_script.body [.val a0, .un]) := id rfl
theorem c_is_value (n : Nat) (a0 : D) : callF prg (n + 1) 9 [a0] = endF (exs (cg n) f_is_value.body [.val a0]) := id rfl
theorem c_is_near_value (n : Nat) (a0 : D) : callF prg (n + 1) 10 [a0] = endF (exs (cg n) f_is_near_value.body [.val a0]) := id rfl
theorem c_is_lot (n : Nat) (a0 : D) : callF prg (n + 1) 11 [a0] = endF (exs (cg n) f_is_lot.body [.val a0, .un, .un, .un]) := id rfl
theorem c_is_row_of (n : Nat) (a0 a1 : D) : callF prg (n + 1) 12 [a0, a1] = endF (exs (cg n) f_is_row_of.body [.val a0, .val a1, .un]) := id rfl
theorem c_are_inputs (n : Nat) (a0 a1 : D) : callF prg (n + 1) 13 [a0, a1] = endF (exs (cg n) f_are_inputs.body [.val a0, .val a1]) := id rfl
theorem c_Play_init (n : Nat) (a0 a1 a2 : D) : callF prg (n + 1) 14 [a0, a1, a2] = endF (exs (cg n) f_Play_init.body [.val a0, .val a1, .val a2]) := id rfl
theorem c_Play_eq (n : Nat) (a0 a1 : D) : callF prg (n + 1) 15 [a0, a1] = endF (exs (cg n) f_Play_eq.body [.val a0, .val a1]) := id rfl
theorem c_is_hand (n : Nat) (a0 a1 : D) : callF prg (n + 1) 16 [a0, a1] = endF (exs (cg n) f_is_hand.body [.val a0, .val a1]) := id rfl
theorem c_check_hand (n : Nat) (a0 a1 : D) : callF prg (n + 1) 17 [a0, a1] = endF (exs (cg n) f_check_hand.body [.val a0, .val a1]) := id rfl
theorem c_level_cell (n : Nat) (a0 a1 : D) : callF prg (n + 1) 18 [a0, a1] = endF (exs (cg n) f_level_cell.body [.val a0, .val a1]) := id rfl
theorem c_level_state (n : Nat) (a0 a1 : D) : callF prg (n + 1) 19 [a0, a1] = endF (exs (cg n) f_level_state.body [.val a0, .val a1]) := id rfl
theorem c_level_next (n : Nat) (a0 a1 a2 : D) : callF prg (n + 1) 20 [a0, a1, a2] = endF (exs (cg n) f_level_next.body [.val a0, .val a1, .val a2]) := id rfl
theorem c_level_after (n : Nat) (a0 a1 a2 a3 : D) : callF prg (n + 1) 21 [a0, a1, a2, a3] = endF (exs (cg n) f_level_after.body [.val a0, .val a1, .val a2, .val a3, .un, .un, .un, .un, .un, .un]) := id rfl
theorem c_fresh (n : Nat) (a0 a1 a2 : D) : callF prg (n + 1) 22 [a0, a1, a2] = endF (exs (cg n) f_fresh.body [.val a0, .val a1, .val a2]) := id rfl
theorem c_manner_cell (n : Nat) (a0 a1 : D) : callF prg (n + 1) 23 [a0, a1] = endF (exs (cg n) f_manner_cell.body [.val a0, .val a1]) := id rfl
theorem c_manner_state (n : Nat) (a0 a1 : D) : callF prg (n + 1) 24 [a0, a1] = endF (exs (cg n) f_manner_state.body [.val a0, .val a1]) := id rfl
theorem c_is_put_next (n : Nat) (a0 a1 a2 : D) : callF prg (n + 1) 25 [a0, a1, a2] = endF (exs (cg n) f_is_put_next.body [.val a0, .val a1, .val a2]) := id rfl
theorem c_manner_next (n : Nat) (a0 a1 a2 : D) : callF prg (n + 1) 26 [a0, a1, a2] = endF (exs (cg n) f_manner_next.body [.val a0, .val a1, .val a2]) := id rfl
theorem c_numbers_of (n : Nat) (a0 : D) : callF prg (n + 1) 27 [a0] = endF (exs (cg n) f_numbers_of.body [.val a0, .un]) := id rfl
theorem c_picture_of (n : Nat) (a0 : D) : callF prg (n + 1) 28 [a0] = endF (exs (cg n) f_picture_of.body [.val a0, .un]) := id rfl
theorem c_lent (n : Nat) (a0 a1 : D) : callF prg (n + 1) 29 [a0, a1] = endF (exs (cg n) f_lent.body [.val a0, .val a1, .un, .un]) := id rfl
theorem c_result_of (n : Nat) (a0 a1 a2 a3 : D) : callF prg (n + 1) 30 [a0, a1, a2, a3] = endF (exs (cg n) f_result_of.body [.val a0, .val a1, .val a2, .val a3]) := id rfl
theorem c_after_sweep (n : Nat) (a0 a1 a2 a3 : D) : callF prg (n + 1) 31 [a0, a1, a2, a3] = endF (exs (cg n) f_after_sweep.body [.val a0, .val a1, .val a2, .val a3, .un, .un, .un, .un, .un, .un, .un]) := id rfl
theorem c_manner_after (n : Nat) (a0 a1 a2 a3 : D) : callF prg (n + 1) 32 [a0, a1, a2, a3] = endF (exs (cg n) f_manner_after.body [.val a0, .val a1, .val a2, .val a3, .un, .un, .un, .un, .un, .un, .un]) := id rfl
theorem c_top_cell (n : Nat) (a0 a1 : D) : callF prg (n + 1) 33 [a0, a1] = endF (exs (cg n) f_top_cell.body [.val a0, .val a1]) := id rfl
theorem c_top_state (n : Nat) (a0 a1 : D) : callF prg (n + 1) 34 [a0, a1] = endF (exs (cg n) f_top_state.body [.val a0, .val a1]) := id rfl
theorem c_top_next (n : Nat) (a0 a1 a2 : D) : callF prg (n + 1) 35 [a0, a1, a2] = endF (exs (cg n) f_top_next.body [.val a0, .val a1, .val a2]) := id rfl
theorem c_wish_by (n : Nat) (a0 a1 : D) : callF prg (n + 1) 36 [a0, a1] = endF (exs (cg n) f_wish_by.body [.val a0, .val a1, .un, .un, .un, .un, .un, .un]) := id rfl
theorem c_after_names (n : Nat) (a0 a1 a2 a3 : D) : callF prg (n + 1) 37 [a0, a1, a2, a3] = endF (exs (cg n) f_after_names.body [.val a0, .val a1, .val a2, .val a3, .un, .un, .un, .un, .un]) := id rfl
theorem c_after_near (n : Nat) (a0 a1 a2 a3 : D) : callF prg (n + 1) 38 [a0, a1, a2, a3] = endF (exs (cg n) f_after_near.body [.val a0, .val a1, .val a2, .val a3, .un, .un, .un, .un, .un, .un]) := id rfl
theorem c_after_chain (n : Nat) (a0 a1 a2 a3 : D) : callF prg (n + 1) 39 [a0, a1, a2, a3] = endF (exs (cg n) f_after_chain.body [.val a0, .val a1, .val a2, .val a3, .un, .un, .un]) := id rfl
theorem c_top_after (n : Nat) (a0 a1 a2 a3 : D) : callF prg (n + 1) 40 [a0, a1, a2, a3] = endF (exs (cg n) f_top_after.body [.val a0, .val a1, .val a2, .val a3]) := id rfl
theorem c_cell_of (n : Nat) (a0 a1 : D) : callF prg (n + 1) 41 [a0, a1] = endF (exs (cg n) f_cell_of.body [.val a0, .val a1]) := id rfl
theorem c_state_of (n : Nat) (a0 a1 : D) : callF prg (n + 1) 42 [a0, a1] = endF (exs (cg n) f_state_of.body [.val a0, .val a1]) := id rfl
theorem c_next_of (n : Nat) (a0 a1 a2 : D) : callF prg (n + 1) 43 [a0, a1, a2] = endF (exs (cg n) f_next_of.body [.val a0, .val a1, .val a2]) := id rfl
theorem c_after_of (n : Nat) (a0 a1 a2 a3 : D) : callF prg (n + 1) 44 [a0, a1, a2, a3] = endF (exs (cg n) f_after_of.body [.val a0, .val a1, .val a2, .val a3]) := id rfl
theorem c_begun (n : Nat) (a0 : D) : callF prg (n + 1) 45 [a0] = endF (exs (cg n) f_begun.body [.val a0, .un, .un, .un]) := id rfl
theorem c_first_standing (n : Nat) (a0 : D) : callF prg (n + 1) 46 [a0] = endF (exs (cg n) f_first_standing.body [.val a0]) := id rfl
theorem c_movers (n : Nat) (a0 : D) : callF prg (n + 1) 47 [a0] = endF (exs (cg n) f_movers.body [.val a0, .un, .un]) := id rfl
theorem c_can_step (n : Nat) (a0 a1 : D) : callF prg (n + 1) 48 [a0, a1] = endF (exs (cg n) f_can_step.body [.val a0, .val a1]) := id rfl
theorem c_after_step (n : Nat) (a0 a1 a2 : D) : callF prg (n + 1) 49 [a0, a1, a2] = endF (exs (cg n) f_after_step.body [.val a0, .val a1, .val a2, .un, .un, .un, .un, .un, .un]) := id rfl
theorem c_check_step (n : Nat) (a0 a1 a2 : D) : callF prg (n + 1) 50 [a0, a1, a2] = endF (exs (cg n) f_check_step.body [.val a0, .val a1, .val a2]) := id rfl
theorem c_step (n : Nat) (a0 a1 a2 : D) : callF prg (n + 1) 51 [a0, a1, a2] = endF (exs (cg n) f_step.body [.val a0, .val a1, .val a2]) := id rfl
theorem c_next_step (n : Nat) (a0 a1 a2 : D) : callF prg (n + 1) 52 [a0, a1, a2] = endF (exs (cg n) f_next_step.body [.val a0, .val a1, .val a2]) := id rfl
theorem c__law_hand (n : Nat) (a0 : D) : callF prg (n + 1) 53 [a0] = endF (exs (cg n) f__law_hand.body [.val a0]) := id rfl
theorem c__law_take (n : Nat) (a0 a1 : D) : callF prg (n + 1) 54 [a0, a1] = endF (exs (cg n) f__law_take.body [.val a0, .val a1, .un, .un, .un]) := id rfl
theorem c__law_pick (n : Nat) (a0 a1 : D) : callF prg (n + 1) 55 [a0, a1] = endF (exs (cg n) f__law_pick.body [.val a0, .val a1]) := id rfl
theorem c__law_is_integer (n : Nat) (a0 : D) : callF prg (n + 1) 56 [a0] = endF (exs (cg n) f__law_is_integer.body [.val a0]) := id rfl
theorem c__law_same (n : Nat) (a0 a1 : D) : callF prg (n + 1) 57 [a0, a1] = endF (exs (cg n) f__law_same.body [.val a0, .val a1, .un, .un]) := id rfl
theorem c__law_script (n : Nat) (a0 a1 : D) : callF prg (n + 1) 58 [a0, a1] = endF (exs (cg n) f__law_script.body [.val a0, .val a1, .un, .un]) := id rfl
theorem c__law_manner (n : Nat) (a0 : D) : callF prg (n + 1) 59 [a0] = endF (exs (cg n) f__law_manner.body [.val a0, .un, .un, .un]) := id rfl
theorem c__law_first (n : Nat) (a0 : D) : callF prg (n + 1) 60 [a0] = endF (exs (cg n) f__law_first.body [.val a0, .un, .un]) := id rfl
theorem c__law_put_at (n : Nat) (a0 a1 a2 : D) : callF prg (n + 1) 61 [a0, a1, a2] = endF (exs (cg n) f__law_put_at.body [.val a0, .val a1, .val a2]) := id rfl
theorem c__law_is_put (n : Nat) (a0 a1 a2 a3 : D) : callF prg (n + 1) 62 [a0, a1, a2, a3] = endF (exs (cg n) f__law_is_put.body [.val a0, .val a1, .val a2, .val a3, .un, .un, .un, .un, .un]) := id rfl
theorem c__law_next (n : Nat) (a0 a1 a2 a3 : D) : callF prg (n + 1) 63 [a0, a1, a2, a3] = endF (exs (cg n) f__law_next.body [.val a0, .val a1, .val a2, .val a3]) := id rfl
theorem c__law_behind (n : Nat) (a0 a1 a2 : D) : callF prg (n + 1) 64 [a0, a1, a2] = endF (exs (cg n) f__law_behind.body [.val a0, .val a1, .val a2]) := id rfl
theorem c__law_seen (n : Nat) (a0 a1 a2 a3 : D) : callF prg (n + 1) 65 [a0, a1, a2, a3] = endF (exs (cg n) f__law_seen.body [.val a0, .val a1, .val a2, .val a3, .un, .un, .un, .un]) := id rfl
theorem c__law_stepped (n : Nat) (a0 a1 a2 a3 : D) : callF prg (n + 1) 66 [a0, a1, a2, a3] = endF (exs (cg n) f__law_stepped.body [.val a0, .val a1, .val a2, .val a3, .un, .un, .un, .un, .un, .un, .un, .un, .un, .un, .un, .un]) := id rfl
theorem c__law_chosen (n : Nat) (a0 a1 a2 a3 : D) : callF prg (n + 1) 67 [a0, a1, a2, a3] = endF (exs (cg n) f__law_chosen.body [.val a0, .val a1, .val a2, .val a3, .un, .un]) := id rfl
theorem c_law (n : Nat) (a0 : D) : lawF prg n [a0] = endF (exs (cg n) f_law.body [.val a0, .un, .un, .un, .un, .un, .un, .un, .un, .un, .un, .un, .un, .un, .un]) := id rfl
theorem i_Play (n : Nat) (a0 a1 : D) : iniF (n + 2) 0 [a0, a1] = endI (exs (cg n) f_Play_init.body [.own (.ins 0 []), .val a0, .val a1]) := id rfl
@[simp] theorem gs_0 : gs[0]? = some (.str s4_see) := rfl
@[simp] theorem gs_1 : gs[1]? = some (.str s5_put) := rfl
@[simp] theorem gs_2 : gs[2]? = some (.int 1000) := rfl
@[simp] theorem gs_3 : gs[3]? = some (.int 6) := rfl
@[simp] theorem gs_4 : gs[4]? = some (.int 20) := rfl
@[simp] theorem gs_5 : gs[5]? = some (.int 5) := rfl
@[simp] theorem gs_6 : gs[6]? = some (.tup [(.str s8_sweep), (.str s7_twice), (.str s6_borrow)]) := rfl
@[simp] theorem gs_7 : gs[7]? = some (.fn 8) := rfl
@[simp] theorem gs_8 : gs[8]? = some (.str s10_levels) := rfl
@[simp] theorem gs_9 : gs[9]? = some (.fn 9) := rfl
@[simp] theorem gs_10 : gs[10]? = some (.str s11_names) := rfl
@[simp] theorem gs_11 : gs[11]? = some (.str s12_chain) := rfl
@[simp] theorem gs_12 : gs[12]? = some (.fn 11) := rfl
@[simp] theorem gs_13 : gs[13]? = some (.int 6) := rfl
@[simp] theorem gs_14 : gs[14]? = some (.fn 10) := rfl
@[simp] theorem gs_15 : gs[15]? = some (.str s13_near) := rfl
@[simp] theorem gs_16 : gs[16]? = some (.str s9_look) := rfl
@[simp] theorem gs_17 : gs[17]? = some (.tup [(.int 0), (.int 0), .non]) := rfl
@[simp] theorem gs_18 : gs[18]? = some (.str s6_borrow) := rfl
@[simp] theorem gs_19 : gs[19]? = some (.str s9_look) := rfl
@[simp] theorem gs_20 : gs[20]? = some (.str s8_sweep) := rfl
@[simp] theorem ne_0_1 : (s0_part == s1_rows) = false := by decide +kernel
@[simp] theorem ne_0_2 : (s0_part == s2_inputs) = false := by decide +kernel
@[simp] theorem ne_0_3 : (s0_part == s3_kind) = false := by decide +kernel
@[simp] theorem ne_0_4 : (s0_part == s4_see) = false := by decide +kernel
@[simp] theorem ne_0_5 : (s0_part == s5_put) = false := by decide +kernel
@[simp] theorem ne_0_6 : (s0_part == s6_borrow) = false := by decide +kernel
@[simp] theorem ne_0_7 : (s0_part == s7_twice) = false := by decide +kernel
@[simp] theorem ne_0_8 : (s0_part == s8_sweep) = false := by decide +kernel
@[simp] theorem ne_0_9 : (s0_part == s9_look) = false := by decide +kernel
@[simp] theorem ne_0_10 : (s0_part == s10_levels) = false := by decide +kernel
@[simp] theorem ne_0_11 : (s0_part == s11_names) = false := by decide +kernel
@[simp] theorem ne_0_12 : (s0_part == s12_chain) = false := by decide +kernel
@[simp] theorem ne_0_13 : (s0_part == s13_near) = false := by decide +kernel
@[simp] theorem ne_1_0 : (s1_rows == s0_part) = false := by decide +kernel
@[simp] theorem ne_1_2 : (s1_rows == s2_inputs) = false := by decide +kernel
@[simp] theorem ne_1_3 : (s1_rows == s3_kind) = false := by decide +kernel
@[simp] theorem ne_1_4 : (s1_rows == s4_see) = false := by decide +kernel
@[simp] theorem ne_1_5 : (s1_rows == s5_put) = false := by decide +kernel
@[simp] theorem ne_1_6 : (s1_rows == s6_borrow) = false := by decide +kernel
@[simp] theorem ne_1_7 : (s1_rows == s7_twice) = false := by decide +kernel
@[simp] theorem ne_1_8 : (s1_rows == s8_sweep) = false := by decide +kernel
@[simp] theorem ne_1_9 : (s1_rows == s9_look) = false := by decide +kernel
@[simp] theorem ne_1_10 : (s1_rows == s10_levels) = false := by decide +kernel
@[simp] theorem ne_1_11 : (s1_rows == s11_names) = false := by decide +kernel
@[simp] theorem ne_1_12 : (s1_rows == s12_chain) = false := by decide +kernel
@[simp] theorem ne_1_13 : (s1_rows == s13_near) = false := by decide +kernel
@[simp] theorem ne_2_0 : (s2_inputs == s0_part) = false := by decide +kernel
@[simp] theorem ne_2_1 : (s2_inputs == s1_rows) = false := by decide +kernel
@[simp] theorem ne_2_3 : (s2_inputs == s3_kind) = false := by decide +kernel
@[simp] theorem ne_2_4 : (s2_inputs == s4_see) = false := by decide +kernel
@[simp] theorem ne_2_5 : (s2_inputs == s5_put) = false := by decide +kernel
@[simp] theorem ne_2_6 : (s2_inputs == s6_borrow) = false := by decide +kernel
@[simp] theorem ne_2_7 : (s2_inputs == s7_twice) = false := by decide +kernel
@[simp] theorem ne_2_8 : (s2_inputs == s8_sweep) = false := by decide +kernel
@[simp] theorem ne_2_9 : (s2_inputs == s9_look) = false := by decide +kernel
@[simp] theorem ne_2_10 : (s2_inputs == s10_levels) = false := by decide +kernel
@[simp] theorem ne_2_11 : (s2_inputs == s11_names) = false := by decide +kernel
@[simp] theorem ne_2_12 : (s2_inputs == s12_chain) = false := by decide +kernel
@[simp] theorem ne_2_13 : (s2_inputs == s13_near) = false := by decide +kernel
@[simp] theorem ne_3_0 : (s3_kind == s0_part) = false := by decide +kernel
@[simp] theorem ne_3_1 : (s3_kind == s1_rows) = false := by decide +kernel
@[simp] theorem ne_3_2 : (s3_kind == s2_inputs) = false := by decide +kernel
@[simp] theorem ne_3_4 : (s3_kind == s4_see) = false := by decide +kernel
@[simp] theorem ne_3_5 : (s3_kind == s5_put) = false := by decide +kernel
@[simp] theorem ne_3_6 : (s3_kind == s6_borrow) = false := by decide +kernel
@[simp] theorem ne_3_7 : (s3_kind == s7_twice) = false := by decide +kernel
@[simp] theorem ne_3_8 : (s3_kind == s8_sweep) = false := by decide +kernel
@[simp] theorem ne_3_9 : (s3_kind == s9_look) = false := by decide +kernel
@[simp] theorem ne_3_10 : (s3_kind == s10_levels) = false := by decide +kernel
@[simp] theorem ne_3_11 : (s3_kind == s11_names) = false := by decide +kernel
@[simp] theorem ne_3_12 : (s3_kind == s12_chain) = false := by decide +kernel
@[simp] theorem ne_3_13 : (s3_kind == s13_near) = false := by decide +kernel
@[simp] theorem ne_4_0 : (s4_see == s0_part) = false := by decide +kernel
@[simp] theorem ne_4_1 : (s4_see == s1_rows) = false := by decide +kernel
@[simp] theorem ne_4_2 : (s4_see == s2_inputs) = false := by decide +kernel
@[simp] theorem ne_4_3 : (s4_see == s3_kind) = false := by decide +kernel
@[simp] theorem ne_4_5 : (s4_see == s5_put) = false := by decide +kernel
@[simp] theorem ne_4_6 : (s4_see == s6_borrow) = false := by decide +kernel
@[simp] theorem ne_4_7 : (s4_see == s7_twice) = false := by decide +kernel
@[simp] theorem ne_4_8 : (s4_see == s8_sweep) = false := by decide +kernel
@[simp] theorem ne_4_9 : (s4_see == s9_look) = false := by decide +kernel
@[simp] theorem ne_4_10 : (s4_see == s10_levels) = false := by decide +kernel
@[simp] theorem ne_4_11 : (s4_see == s11_names) = false := by decide +kernel
@[simp] theorem ne_4_12 : (s4_see == s12_chain) = false := by decide +kernel
@[simp] theorem ne_4_13 : (s4_see == s13_near) = false := by decide +kernel
@[simp] theorem ne_5_0 : (s5_put == s0_part) = false := by decide +kernel
@[simp] theorem ne_5_1 : (s5_put == s1_rows) = false := by decide +kernel
@[simp] theorem ne_5_2 : (s5_put == s2_inputs) = false := by decide +kernel
@[simp] theorem ne_5_3 : (s5_put == s3_kind) = false := by decide +kernel
@[simp] theorem ne_5_4 : (s5_put == s4_see) = false := by decide +kernel
@[simp] theorem ne_5_6 : (s5_put == s6_borrow) = false := by decide +kernel
@[simp] theorem ne_5_7 : (s5_put == s7_twice) = false := by decide +kernel
@[simp] theorem ne_5_8 : (s5_put == s8_sweep) = false := by decide +kernel
@[simp] theorem ne_5_9 : (s5_put == s9_look) = false := by decide +kernel
@[simp] theorem ne_5_10 : (s5_put == s10_levels) = false := by decide +kernel
@[simp] theorem ne_5_11 : (s5_put == s11_names) = false := by decide +kernel
@[simp] theorem ne_5_12 : (s5_put == s12_chain) = false := by decide +kernel
@[simp] theorem ne_5_13 : (s5_put == s13_near) = false := by decide +kernel
@[simp] theorem ne_6_0 : (s6_borrow == s0_part) = false := by decide +kernel
@[simp] theorem ne_6_1 : (s6_borrow == s1_rows) = false := by decide +kernel
@[simp] theorem ne_6_2 : (s6_borrow == s2_inputs) = false := by decide +kernel
@[simp] theorem ne_6_3 : (s6_borrow == s3_kind) = false := by decide +kernel
@[simp] theorem ne_6_4 : (s6_borrow == s4_see) = false := by decide +kernel
@[simp] theorem ne_6_5 : (s6_borrow == s5_put) = false := by decide +kernel
@[simp] theorem ne_6_7 : (s6_borrow == s7_twice) = false := by decide +kernel
@[simp] theorem ne_6_8 : (s6_borrow == s8_sweep) = false := by decide +kernel
@[simp] theorem ne_6_9 : (s6_borrow == s9_look) = false := by decide +kernel
@[simp] theorem ne_6_10 : (s6_borrow == s10_levels) = false := by decide +kernel
@[simp] theorem ne_6_11 : (s6_borrow == s11_names) = false := by decide +kernel
@[simp] theorem ne_6_12 : (s6_borrow == s12_chain) = false := by decide +kernel
@[simp] theorem ne_6_13 : (s6_borrow == s13_near) = false := by decide +kernel
@[simp] theorem ne_7_0 : (s7_twice == s0_part) = false := by decide +kernel
@[simp] theorem ne_7_1 : (s7_twice == s1_rows) = false := by decide +kernel
@[simp] theorem ne_7_2 : (s7_twice == s2_inputs) = false := by decide +kernel
@[simp] theorem ne_7_3 : (s7_twice == s3_kind) = false := by decide +kernel
@[simp] theorem ne_7_4 : (s7_twice == s4_see) = false := by decide +kernel
@[simp] theorem ne_7_5 : (s7_twice == s5_put) = false := by decide +kernel
@[simp] theorem ne_7_6 : (s7_twice == s6_borrow) = false := by decide +kernel
@[simp] theorem ne_7_8 : (s7_twice == s8_sweep) = false := by decide +kernel
@[simp] theorem ne_7_9 : (s7_twice == s9_look) = false := by decide +kernel
@[simp] theorem ne_7_10 : (s7_twice == s10_levels) = false := by decide +kernel
@[simp] theorem ne_7_11 : (s7_twice == s11_names) = false := by decide +kernel
@[simp] theorem ne_7_12 : (s7_twice == s12_chain) = false := by decide +kernel
@[simp] theorem ne_7_13 : (s7_twice == s13_near) = false := by decide +kernel
@[simp] theorem ne_8_0 : (s8_sweep == s0_part) = false := by decide +kernel
@[simp] theorem ne_8_1 : (s8_sweep == s1_rows) = false := by decide +kernel
@[simp] theorem ne_8_2 : (s8_sweep == s2_inputs) = false := by decide +kernel
@[simp] theorem ne_8_3 : (s8_sweep == s3_kind) = false := by decide +kernel
@[simp] theorem ne_8_4 : (s8_sweep == s4_see) = false := by decide +kernel
@[simp] theorem ne_8_5 : (s8_sweep == s5_put) = false := by decide +kernel
@[simp] theorem ne_8_6 : (s8_sweep == s6_borrow) = false := by decide +kernel
@[simp] theorem ne_8_7 : (s8_sweep == s7_twice) = false := by decide +kernel
@[simp] theorem ne_8_9 : (s8_sweep == s9_look) = false := by decide +kernel
@[simp] theorem ne_8_10 : (s8_sweep == s10_levels) = false := by decide +kernel
@[simp] theorem ne_8_11 : (s8_sweep == s11_names) = false := by decide +kernel
@[simp] theorem ne_8_12 : (s8_sweep == s12_chain) = false := by decide +kernel
@[simp] theorem ne_8_13 : (s8_sweep == s13_near) = false := by decide +kernel
@[simp] theorem ne_9_0 : (s9_look == s0_part) = false := by decide +kernel
@[simp] theorem ne_9_1 : (s9_look == s1_rows) = false := by decide +kernel
@[simp] theorem ne_9_2 : (s9_look == s2_inputs) = false := by decide +kernel
@[simp] theorem ne_9_3 : (s9_look == s3_kind) = false := by decide +kernel
@[simp] theorem ne_9_4 : (s9_look == s4_see) = false := by decide +kernel
@[simp] theorem ne_9_5 : (s9_look == s5_put) = false := by decide +kernel
@[simp] theorem ne_9_6 : (s9_look == s6_borrow) = false := by decide +kernel
@[simp] theorem ne_9_7 : (s9_look == s7_twice) = false := by decide +kernel
@[simp] theorem ne_9_8 : (s9_look == s8_sweep) = false := by decide +kernel
@[simp] theorem ne_9_10 : (s9_look == s10_levels) = false := by decide +kernel
@[simp] theorem ne_9_11 : (s9_look == s11_names) = false := by decide +kernel
@[simp] theorem ne_9_12 : (s9_look == s12_chain) = false := by decide +kernel
@[simp] theorem ne_9_13 : (s9_look == s13_near) = false := by decide +kernel
@[simp] theorem ne_10_0 : (s10_levels == s0_part) = false := by decide +kernel
@[simp] theorem ne_10_1 : (s10_levels == s1_rows) = false := by decide +kernel
@[simp] theorem ne_10_2 : (s10_levels == s2_inputs) = false := by decide +kernel
@[simp] theorem ne_10_3 : (s10_levels == s3_kind) = false := by decide +kernel
@[simp] theorem ne_10_4 : (s10_levels == s4_see) = false := by decide +kernel
@[simp] theorem ne_10_5 : (s10_levels == s5_put) = false := by decide +kernel
@[simp] theorem ne_10_6 : (s10_levels == s6_borrow) = false := by decide +kernel
@[simp] theorem ne_10_7 : (s10_levels == s7_twice) = false := by decide +kernel
@[simp] theorem ne_10_8 : (s10_levels == s8_sweep) = false := by decide +kernel
@[simp] theorem ne_10_9 : (s10_levels == s9_look) = false := by decide +kernel
@[simp] theorem ne_10_11 : (s10_levels == s11_names) = false := by decide +kernel
@[simp] theorem ne_10_12 : (s10_levels == s12_chain) = false := by decide +kernel
@[simp] theorem ne_10_13 : (s10_levels == s13_near) = false := by decide +kernel
@[simp] theorem ne_11_0 : (s11_names == s0_part) = false := by decide +kernel
@[simp] theorem ne_11_1 : (s11_names == s1_rows) = false := by decide +kernel
@[simp] theorem ne_11_2 : (s11_names == s2_inputs) = false := by decide +kernel
@[simp] theorem ne_11_3 : (s11_names == s3_kind) = false := by decide +kernel
@[simp] theorem ne_11_4 : (s11_names == s4_see) = false := by decide +kernel
@[simp] theorem ne_11_5 : (s11_names == s5_put) = false := by decide +kernel
@[simp] theorem ne_11_6 : (s11_names == s6_borrow) = false := by decide +kernel
@[simp] theorem ne_11_7 : (s11_names == s7_twice) = false := by decide +kernel
@[simp] theorem ne_11_8 : (s11_names == s8_sweep) = false := by decide +kernel
@[simp] theorem ne_11_9 : (s11_names == s9_look) = false := by decide +kernel
@[simp] theorem ne_11_10 : (s11_names == s10_levels) = false := by decide +kernel
@[simp] theorem ne_11_12 : (s11_names == s12_chain) = false := by decide +kernel
@[simp] theorem ne_11_13 : (s11_names == s13_near) = false := by decide +kernel
@[simp] theorem ne_12_0 : (s12_chain == s0_part) = false := by decide +kernel
@[simp] theorem ne_12_1 : (s12_chain == s1_rows) = false := by decide +kernel
@[simp] theorem ne_12_2 : (s12_chain == s2_inputs) = false := by decide +kernel
@[simp] theorem ne_12_3 : (s12_chain == s3_kind) = false := by decide +kernel
@[simp] theorem ne_12_4 : (s12_chain == s4_see) = false := by decide +kernel
@[simp] theorem ne_12_5 : (s12_chain == s5_put) = false := by decide +kernel
@[simp] theorem ne_12_6 : (s12_chain == s6_borrow) = false := by decide +kernel
@[simp] theorem ne_12_7 : (s12_chain == s7_twice) = false := by decide +kernel
@[simp] theorem ne_12_8 : (s12_chain == s8_sweep) = false := by decide +kernel
@[simp] theorem ne_12_9 : (s12_chain == s9_look) = false := by decide +kernel
@[simp] theorem ne_12_10 : (s12_chain == s10_levels) = false := by decide +kernel
@[simp] theorem ne_12_11 : (s12_chain == s11_names) = false := by decide +kernel
@[simp] theorem ne_12_13 : (s12_chain == s13_near) = false := by decide +kernel
@[simp] theorem ne_13_0 : (s13_near == s0_part) = false := by decide +kernel
@[simp] theorem ne_13_1 : (s13_near == s1_rows) = false := by decide +kernel
@[simp] theorem ne_13_2 : (s13_near == s2_inputs) = false := by decide +kernel
@[simp] theorem ne_13_3 : (s13_near == s3_kind) = false := by decide +kernel
@[simp] theorem ne_13_4 : (s13_near == s4_see) = false := by decide +kernel
@[simp] theorem ne_13_5 : (s13_near == s5_put) = false := by decide +kernel
@[simp] theorem ne_13_6 : (s13_near == s6_borrow) = false := by decide +kernel
@[simp] theorem ne_13_7 : (s13_near == s7_twice) = false := by decide +kernel
@[simp] theorem ne_13_8 : (s13_near == s8_sweep) = false := by decide +kernel
@[simp] theorem ne_13_9 : (s13_near == s9_look) = false := by decide +kernel
@[simp] theorem ne_13_10 : (s13_near == s10_levels) = false := by decide +kernel
@[simp] theorem ne_13_11 : (s13_near == s11_names) = false := by decide +kernel
@[simp] theorem ne_13_12 : (s13_near == s12_chain) = false := by decide +kernel
theorem sok_0 : shape2 (.str s0_part) (.str s0_part) = true := by decide +kernel
theorem sok_1 : shape2 (.str s1_rows) (.str s1_rows) = true := by decide +kernel
theorem sok_2 : shape2 (.str s2_inputs) (.str s2_inputs) = true := by decide +kernel
theorem sok_3 : shape2 (.str s3_kind) (.str s3_kind) = true := by decide +kernel
theorem sok_4 : shape2 (.str s4_see) (.str s4_see) = true := by decide +kernel
theorem sok_5 : shape2 (.str s5_put) (.str s5_put) = true := by decide +kernel
theorem sok_6 : shape2 (.str s6_borrow) (.str s6_borrow) = true := by decide +kernel
theorem sok_7 : shape2 (.str s7_twice) (.str s7_twice) = true := by decide +kernel
theorem sok_8 : shape2 (.str s8_sweep) (.str s8_sweep) = true := by decide +kernel
theorem sok_9 : shape2 (.str s9_look) (.str s9_look) = true := by decide +kernel
theorem sok_10 : shape2 (.str s10_levels) (.str s10_levels) = true := by decide +kernel
theorem sok_11 : shape2 (.str s11_names) (.str s11_names) = true := by decide +kernel
theorem sok_12 : shape2 (.str s12_chain) (.str s12_chain) = true := by decide +kernel
theorem sok_13 : shape2 (.str s13_near) (.str s13_near) = true := by decide +kernel
@[simp] theorem sko_0 : PyData.strOk s0_part = true := by decide +kernel
@[simp] theorem sko_1 : PyData.strOk s1_rows = true := by decide +kernel
@[simp] theorem sko_2 : PyData.strOk s2_inputs = true := by decide +kernel
@[simp] theorem sko_3 : PyData.strOk s3_kind = true := by decide +kernel
@[simp] theorem sko_4 : PyData.strOk s4_see = true := by decide +kernel
@[simp] theorem sko_5 : PyData.strOk s5_put = true := by decide +kernel
@[simp] theorem sko_6 : PyData.strOk s6_borrow = true := by decide +kernel
@[simp] theorem sko_7 : PyData.strOk s7_twice = true := by decide +kernel
@[simp] theorem sko_8 : PyData.strOk s8_sweep = true := by decide +kernel
@[simp] theorem sko_9 : PyData.strOk s9_look = true := by decide +kernel
@[simp] theorem sko_10 : PyData.strOk s10_levels = true := by decide +kernel
@[simp] theorem sko_11 : PyData.strOk s11_names = true := by decide +kernel
@[simp] theorem sko_12 : PyData.strOk s12_chain = true := by decide +kernel
@[simp] theorem sko_13 : PyData.strOk s13_near = true := by decide +kernel
end K02

set_option maxRecDepth 100000
set_option maxHeartbeats 1000000
namespace K02.B
open PySem Ev
/-! ### things -/
/-- what isinstance can be asked of -/
def Tk : D → Prop
  | .cel _ => False | .fn _ => False | .scr _ => False | .ins c _ => c = 0 | _ => True
def flatOk : D → Prop
  | .non => True | .bl _ => True | .int _ => True | .str s => PyData.strOk s = true | .dic [] => True | .ins c _ => c = 0 | _ => False
/-- tuples and lists of such, so deep; a tuple that begins with a text is plain data -/
def Ob : Nat → D → Prop
  | 0, d => flatOk d
  | m + 1, d => flatOk d ∨ ∃ xs, (d = .tup xs ∨ d = .lst xs) ∧ xs.length ≤ 1000 ∧ (∀ x ∈ xs, Ob m x) ∧ ∀ s r, d = .tup (.str s :: r) → d.shp = true ∧ d.dep ≤ 60
theorem flat_tk {d : D} (h : flatOk d) : Tk d := by
  cases d with
  | dic kvs => trivial
  | tup xs => exact h.elim
  | lst xs => exact h.elim
  | str s => trivial
  | _ => exact h
theorem ob_tk {m : Nat} {d : D} (h : Ob m d) : Tk d := by
  cases m with
  | zero => exact flat_tk h
  | succ m =>
    rcases h with h | ⟨xs, rfl | rfl, _⟩
    · exact flat_tk h
    · trivial
    · trivial
theorem tk_der {d : D} (h : Tk d) : der d = pure d := by cases d <;> first | rfl | exact h.elim
theorem ob_tup {m : Nat} {xs : List D} (h : Ob m (.tup xs)) : ∃ k, m = k + 1 ∧ xs.length ≤ 1000 ∧ (∀ x ∈ xs, Ob k x) ∧ ∀ s r, xs = .str s :: r → (D.tup xs).shp = true ∧ (D.tup xs).dep ≤ 60 := by
  cases m with
  | zero => exact h.elim
  | succ m =>
    rcases h with h | ⟨ys, e | e, h1, h2, h3⟩
    · exact h.elim
    · cases e
      exact ⟨m, rfl, h1, h2, fun s r e => h3 s r (by rw [e])⟩
    · cases e
theorem ob_str {m : Nat} {s : Str} (h : Ob m (.str s)) : PyData.strOk s = true := by
  cases m with
  | zero => exact h
  | succ m =>
    rcases h with h | ⟨ys, e | e, _⟩
    · exact h
    · cases e
    · cases e
def isIntD : D → Bool | .int _ => true | _ => false
def isTupD : D → Bool | .tup _ => true | _ => false
def isLstD : D → Bool | .lst _ => true | _ => false
def isStrD : D → Bool | .str _ => true | _ => false
def isBlD : D → Bool | .bl _ => true | _ => false
theorem isa_i {d : D} (h : Tk d) : isaTs 1 d [.int] = some (isIntD d || isBlD d) := by cases d <;> first | rfl | exact h.elim | (cases h; rfl)
theorem isa_b {d : D} (h : Tk d) : isaTs 1 d [.bool] = some (isBlD d) := by cases d <;> first | rfl | exact h.elim | (cases h; rfl)
theorem isa_t {d : D} (h : Tk d) : isaTs 1 d [.tuple] = some (isTupD d) := by cases d <;> first | rfl | exact h.elim | (cases h; rfl)
theorem isa_l {d : D} (h : Tk d) : isaTs 1 d [.list] = some (isLstD d) := by cases d <;> first | rfl | exact h.elim | (cases h; rfl)
theorem isa_s {d : D} (h : Tk d) : isaTs 1 d [.str] = some (isStrD d) := by cases d <;> first | rfl | exact h.elim | (cases h; rfl)
/-- an integer within bounds -/
def intIn (d : D) (lo hi : Int) : Bool := match d with
  | .int i => decide (lo ≤ i ∧ i ≤ hi)
  | _ => false
def sizedB (d : D) (lo hi : Int) : Bool := match d with
  | .tup xs => decide (lo ≤ (xs.length : Int) ∧ (xs.length : Int) ≤ hi)
  | _ => false
/-! ### checks -/
theorem t_is_integer (n : Nat) (d : D) (h : Tk d) : callF prg (n + 1) 1 [d] = pure (.bl (isIntD d)) := by
  refine eq_pure fun w => ?_
  rw [c_is_integer]
  have a := isa_i h
  have b := isa_b h
  cases z : isIntD d <;> cases y : isBlD d <;> rw [z, y] at a <;> rw [y] at b <;> simp [f_is_integer, Vz0, Vz1, Vz2, Vz3, Vz4, Vz5, Vz6, kx, SZ, beq_self_eq_true, List.contains_cons, List.contains_nil, a, b]
  · cases d <;> first | (cases z; done) | (cases y; done) | cases z
theorem t_is_within (n : Nat) (d : D) (lo hi : Int) (h : Tk d) : callF prg (n + 2) 2 [d, .int lo, .int hi] = pure (.bl (intIn d lo hi)) := by
  refine eq_pure fun w => ?_
  rw [c_is_within]
  have q := t_is_integer n d h
  cases z : isIntD d with
  | false =>
    have e : intIn d lo hi = false := by cases d <;> first | rfl | cases z
    simp [f_is_within, Vz0, Vz1, Vz2, Vz3, Vz4, Vz5, Vz6, kx, SZ, beq_self_eq_true, List.contains_cons, List.contains_nil, q, z, e]
  | true =>
    cases d <;> first | (exfalso; cases z; done) | skip
    rename_i i
    simp [f_is_within, Vz0, Vz1, Vz2, Vz3, Vz4, Vz5, Vz6, kx, SZ, beq_self_eq_true, List.contains_cons, List.contains_nil, q, z, intIn]
    by_cases h : lo ≤ i <;> simp [h, Vz0, Vz1, Vz2, Vz3, Vz4, Vz5, Vz6, kx, SZ, beq_self_eq_true, List.contains_cons, List.contains_nil]
theorem t_is_below (n : Nat) (d : D) (m : Int) (h : Tk d) : callF prg (n + 3) 3 [d, .int m] = pure (.bl (intIn d 0 (m - 1))) := by
  refine eq_pure fun w => ?_
  rw [c_is_below]
  have q := t_is_within n d 0 (m - 1) h
  simp [f_is_below, Vz0, Vz1, Vz2, Vz3, Vz4, Vz5, Vz6, kx, SZ, beq_self_eq_true, List.contains_cons, List.contains_nil, q]
theorem t_is_sized (n : Nat) (d : D) (lo hi : Int) (h : Tk d) : callF prg (n + 1) 4 [d, .int lo, .int hi] = pure (.bl (sizedB d lo hi)) := by
  refine eq_pure fun w => ?_
  rw [c_is_sized]
  have a := isa_t h
  cases z : isTupD d with
  | false =>
    rw [z] at a
    have e : sizedB d lo hi = false := by cases d <;> first | rfl | cases z
    simp [f_is_sized, Vz0, Vz1, Vz2, Vz3, Vz4, Vz5, Vz6, kx, SZ, beq_self_eq_true, List.contains_cons, List.contains_nil, a, e]
  | true =>
    cases d <;> first | (exfalso; cases z; done) | skip
    rename_i xs
    rw [z] at a
    simp [f_is_sized, Vz0, Vz1, Vz2, Vz3, Vz4, Vz5, Vz6, kx, SZ, beq_self_eq_true, List.contains_cons, List.contains_nil, a, sizedB]
    by_cases h : lo ≤ xs.length <;> simp [h, Vz0, Vz1, Vz2, Vz3, Vz4, Vz5, Vz6, kx, SZ, beq_self_eq_true, List.contains_cons, List.contains_nil]
/-! ### the judge, in plain Lean -/
def deedB : D → Bool
  | .tup [.str x] => x == s4_see
  | .tup [.str x, y] => x == s5_put && intIn y 0 999
  | _ => false
def scriptB : D → Bool
  | .tup xs => decide ((xs.length : Int) ≤ 6) && xs.all deedB
  | _ => false
def ltD : D → D → Bool
  | .int i, .int j => decide (i < j)
  | _, _ => false
def ascB (xs : List D) : Bool := (xs.zip (xs.drop 1)).all fun p => ltD p.1 p.2
def lotB : D → Bool
  | .tup xs => xs.all (fun x => intIn x 0 19) && ascB xs
  | _ => false
def rowB (p : D → Bool) : D → Bool
  | .tup xs => decide (1 ≤ (xs.length : Int) ∧ (xs.length : Int) ≤ 5) && xs.all p
  | _ => false
def onceB : D → Bool
  | .tup xs => (match intsD xs with | some ns => decide ((ddup ns).length = ns.length) | none => false)
  | _ => false
def nearB : D → Bool
  | .tup [a, b] => intIn a 1 6 && rowB (fun x => intIn x (-1000) 1000) b
  | _ => false
def mannS (k : Str) : Bool := k == s8_sweep || k == s7_twice || k == s6_borrow
def inputsB (k : Str) (d : D) : Bool := if mannS k then rowB scriptB d else if k == s10_levels then rowB (fun x => intIn x 0 999) d
  else if k == s11_names then rowB (fun x => intIn x 0 999) d && onceB d else if k == s12_chain then rowB lotB d else nearB d
def kindS (k : Str) : Bool := mannS k || k == s10_levels || k == s11_names || k == s13_near || k == s12_chain
theorem shape_see {d : D} (h1 : d.shp = true) (h2 : d.dep ≤ 60) : shape2 d (.tup [.str s4_see]) = true := by
  unfold shape2
  rw [h1, show (D.tup [.str s4_see]).shp = true from by simp [D.shp, D.shpAll]]
  simp [h2, D.dep, D.depAll]
theorem strOk_shape {x y : Str} (hx : PyData.strOk x = true) (hy : PyData.strOk y = true) : shape2 (.str x) (.str y) = true := by
  simp [shape2, D.shp, D.dep, hx, hy]
theorem t_is_deed (n m : Nat) (d : D) (h : Ob m d) : callF prg (n + 4) 7 [d] = pure (.bl (deedB d)) := by
  refine eq_pure fun w => ?_
  rw [c_is_deed]
  have tk := ob_tk h
  have q := t_is_sized (n + 2) d 1 2 tk
  have dd := tk_der tk
  cases z : isTupD d with
  | false =>
    have e1 : sizedB d 1 2 = false := by cases d <;> first | rfl | cases z
    have e2 : deedB d = false := by cases d <;> first | rfl | cases z
    simp [f_is_deed, Vz0, Vz1, Vz2, Vz3, Vz4, Vz5, Vz6, kx, SZ, beq_self_eq_true, List.contains_cons, List.contains_nil, q, e1, e2]
  | true =>
    cases d <;> first | (exfalso; cases z; done) | skip
    rename_i xs
    obtain ⟨k, rfl, hl, hx, hs⟩ := ob_tup h
    match xs, hl, hx, hs, q with
    | [], _, _, _, q => simp [f_is_deed, Vz0, Vz1, Vz2, Vz3, Vz4, Vz5, Vz6, kx, SZ, beq_self_eq_true, List.contains_cons, List.contains_nil, q, sizedB, deedB]
    | [a], _, hx, hs, q =>
      have ta := ob_tk (hx a (by simp))
      have ia := isa_s ta
      cases y : isStrD a with
      | false =>
        rw [y] at ia
        have e2 : deedB (.tup [a]) = false := by cases a <;> first | rfl | cases y
        simp [f_is_deed, Vz0, Vz1, Vz2, Vz3, Vz4, Vz5, Vz6, kx, SZ, beq_self_eq_true, List.contains_cons, List.contains_nil, q, sizedB, ia, e2, we_isax]
      | true =>
        obtain ⟨s, rfl⟩ : ∃ s, a = .str s := by cases a <;> first | exact ⟨_, rfl⟩ | (exfalso; cases y; done)
        rw [y] at ia
        obtain ⟨h1, h2⟩ := hs s [] rfl
        have sh : shape2 (.tup [.str s]) (.tup [.str s4_see]) = true := shape_see h1 h2
        have eq : D.eqv (.tup [.str s]) (.tup [.str s4_see]) = (s == s4_see) := by simp [eqv_tup, D.pyAll, D.py, PyData.eqvAll, PyData.eqv]
        cases t : (s == s4_see) <;> simp [f_is_deed, Vz0, Vz1, Vz2, Vz3, Vz4, Vz5, Vz6, kx, SZ, beq_self_eq_true, List.contains_cons, List.contains_nil, q, sizedB, ia, deedB, we_isax, sh, eq, t]
    | [a, b], _, hx, hs, q =>
      have ta := ob_tk (hx a (by simp))
      have ia := isa_s ta
      cases y : isStrD a with
      | false =>
        rw [y] at ia
        have e2 : deedB (.tup [a, b]) = false := by cases a <;> first | rfl | cases y
        simp [f_is_deed, Vz0, Vz1, Vz2, Vz3, Vz4, Vz5, Vz6, kx, SZ, beq_self_eq_true, List.contains_cons, List.contains_nil, q, sizedB, ia, e2, we_isax]
      | true =>
        obtain ⟨s, rfl⟩ : ∃ s, a = .str s := by cases a <;> first | exact ⟨_, rfl⟩ | (exfalso; cases y; done)
        rw [y] at ia
        obtain ⟨h1, h2⟩ := hs s [b] rfl
        have sh : shape2 (.tup [.str s, b]) (.tup [.str s4_see]) = true := shape_see h1 h2
        have so : PyData.strOk s = true := ob_str (hx (.str s) (by simp))
        have eq : D.eqv (.tup [.str s, b]) (.tup [.str s4_see]) = false := by simp [eqv_tup, D.pyAll, D.py, PyData.eqvAll]
        have tb := ob_tk (hx b (by simp))
        have qb := t_is_below n b 1000 tb
        have db := tk_der tb
        have sp := strOk_shape so (show PyData.strOk s5_put = true by simp)
        cases t : (s == s5_put) <;> simp [f_is_deed, Vz0, Vz1, Vz2, Vz3, Vz4, Vz5, Vz6, kx, SZ, beq_self_eq_true, List.contains_cons, List.contains_nil, q, sizedB, ia, deedB, we_isax, sh, eq, t, qb, db, sp]
    | a :: b :: c :: r, _, _, _, q =>
      have e1 : sizedB (.tup (a :: b :: c :: r)) 1 2 = false := by simp [sizedB]; omega
      have e2 : deedB (.tup (a :: b :: c :: r)) = false := by cases a <;> rfl
      simp [f_is_deed, Vz0, Vz1, Vz2, Vz3, Vz4, Vz5, Vz6, kx, SZ, beq_self_eq_true, List.contains_cons, List.contains_nil, q, e1, e2]
end K02.B

set_option maxRecDepth 100000
set_option maxHeartbeats 1000000
namespace K02.B
open PySem Ev
theorem wp_lcD {f : Ev.Env → M D} {c : Ev.Env → M Bool} {tg : Tg} {e : Ev.Env} {w : Wd} {Q : List D → Wd → Prop} {E : EK} (g : D → D) (xs : List D) (hc : ∀ e', c e' = pure true)
    (h : ∀ a ∈ xs, ∃ e', bindTg tg a e = some e' ∧ (∀ w, wp (f e') w (fun d w' => d = g a ∧ w' = w) NoE)) (hq : Q (xs.map g) w) : wp (lcGo f c tg e xs) w Q E := by
  have q := wp_lc1 (w := w) (E := E) id g xs hc h hq
  rw [List.map_id] at q
  exact q
theorem wp_lcP {f : Ev.Env → M D} {c : Ev.Env → M Bool} {tg : Tg} {e : Ev.Env} {w : Wd} {Q : List D → Wd → Prop} {E : EK} (p : D → Bool) (xs : List D)
    (h : ∀ a ∈ xs, ∃ e', bindTg tg a e = some e' ∧ (∀ w, wp (c e') w (fun b w' => b = p a ∧ w' = w) NoE) ∧ (p a = true → ∀ w, wp (f e') w (fun d w' => d = a ∧ w' = w) NoE)) (hq : Q (xs.filter p) w) : wp (lcGo f c tg e xs) w Q E := by
  have q := wp_lc (w := w) (E := E) (Q := Q) id p id xs h (by rw [List.map_id]; exact hq)
  rw [List.map_id] at q
  exact q
theorem notTup {α : Type} {d : D} (h : isTupD d = false) (f : List D → α) (b : α) : (match d with | .tup xs => f xs | _ => b) = b := by cases d <;> first | rfl | cases h
theorem isTup {d : D} (h : isTupD d = true) : ∃ xs, d = .tup xs := by cases d <;> first | exact ⟨_, rfl⟩ | (exfalso; cases h; done)
theorem all_is (p : D → Bool) (xs : List D) : (xs.map fun x => D.bl (p x)).all (fun d => match d with | .bl b => b | _ => false) = xs.all p := by
  induction xs with
  | nil => rfl
  | cons a r ih => rw [List.map_cons, List.all_cons, List.all_cons, ih]
theorem t_is_script (n m : Nat) (d : D) (h : Ob m d) : callF prg (n + 5) 8 [d] = pure (.bl (scriptB d)) := by
  refine eq_pure fun w => ?_
  rw [c_is_script]
  have q := t_is_sized (n + 3) d 0 6 (ob_tk h)
  cases z : isTupD d with
  | false =>
    have e1 : sizedB d 0 6 = false := by cases d <;> first | rfl | cases z
    have e2 : scriptB d = false := by cases d <;> first | rfl | cases z
    simp [f_is_script, Vz0, Vz1, Vz2, Vz3, Vz4, Vz5, Vz6, kx, SZ, beq_self_eq_true, List.contains_cons, List.contains_nil, q, e1, e2]
  | true =>
    obtain ⟨xs, rfl⟩ := isTup z
    obtain ⟨k, rfl, hl, hx, _⟩ := ob_tup h
    by_cases g : (xs.length : Int) ≤ 6
    · have e1 : sizedB (.tup xs) 0 6 = true := by simp [sizedB, g]
      simp [f_is_script, Vz0, Vz1, Vz2, Vz3, Vz4, Vz5, Vz6, kx, SZ, beq_self_eq_true, List.contains_cons, List.contains_nil, q, e1, scriptB, g]
      refine ⟨by omega, wp_lcD (fun x => .bl (deedB x)) xs (fun _ => rfl) (fun a ha => ?_) ?_⟩
      · have qa := t_is_deed n k a (hx a ha)
        have da := tk_der (ob_tk (hx a ha))
        simp [Vz0, Vz1, Vz2, Vz3, Vz4, Vz5, Vz6, kx, SZ, beq_self_eq_true, List.contains_cons, List.contains_nil, qa, da]
      · simp [Vz0, Vz1, Vz2, Vz3, Vz4, Vz5, Vz6, kx, SZ, beq_self_eq_true, List.contains_cons, List.contains_nil]
    · have e1 : sizedB (.tup xs) 0 6 = false := by simp [sizedB]; omega
      have g' : ¬ xs.length ≤ 6 := by omega
      simp [f_is_script, Vz0, Vz1, Vz2, Vz3, Vz4, Vz5, Vz6, kx, SZ, beq_self_eq_true, List.contains_cons, List.contains_nil, q, e1, scriptB, g, g']
theorem t_is_value (n m : Nat) (d : D) (h : Ob m d) : callF prg (n + 4) 9 [d] = pure (.bl (intIn d 0 999)) := by
  refine eq_pure fun w => ?_
  rw [c_is_value]
  have q := t_is_below n d 1000 (ob_tk h)
  simp [f_is_value, Vz0, Vz1, Vz2, Vz3, Vz4, Vz5, Vz6, kx, SZ, beq_self_eq_true, List.contains_cons, List.contains_nil, q]
theorem t_is_near_value (n m : Nat) (d : D) (h : Ob m d) : callF prg (n + 3) 10 [d] = pure (.bl (intIn d (-1000) 1000)) := by
  refine eq_pure fun w => ?_
  rw [c_is_near_value]
  have q := t_is_within n d (-1000) 1000 (ob_tk h)
  simp [f_is_near_value, Vz0, Vz1, Vz2, Vz3, Vz4, Vz5, Vz6, kx, SZ, beq_self_eq_true, List.contains_cons, List.contains_nil, q]
theorem intIn_is {d : D} {lo hi : Int} (h : intIn d lo hi = true) : ∃ i, d = .int i ∧ lo ≤ i ∧ i ≤ hi := by
  cases d <;> first | (exfalso; cases h; done) | skip
  exact ⟨_, rfl, by simpa [intIn] using h⟩
theorem zip2 (xs ys : List D) : zipD xs ys = (xs.zip ys).map fun p => .tup [p.1, p.2] := by
  unfold zipD
  induction xs generalizing ys with
  | nil => simp
  | cons a r ih => cases ys with
    | nil => simp
    | cons b t => simp [ih]
theorem t_is_lot (n m : Nat) (d : D) (h : Ob m d) : callF prg (n + 4) 11 [d] = pure (.bl (lotB d)) := by
  refine eq_pure fun w => ?_
  rw [c_is_lot]
  have it := isa_t (ob_tk h)
  cases z : isTupD d with
  | false =>
    rw [z] at it
    have e2 : lotB d = false := by cases d <;> first | rfl | cases z
    simp [f_is_lot, Vz0, Vz1, Vz2, Vz3, Vz4, Vz5, Vz6, kx, SZ, beq_self_eq_true, List.contains_cons, List.contains_nil, it, e2, we_isax]
  | true =>
    rw [z] at it
    obtain ⟨xs, rfl⟩ := isTup z
    obtain ⟨k, rfl, hl, hx, _⟩ := ob_tup h
    simp [f_is_lot, Vz0, Vz1, Vz2, Vz3, Vz4, Vz5, Vz6, kx, SZ, beq_self_eq_true, List.contains_cons, List.contains_nil, it, we_isax]
    refine ⟨by omega, wp_lcD (fun x => .bl (intIn x 0 19)) xs (fun _ => rfl) (fun a ha => ?_) ?_⟩
    · have qa := t_is_below n a 20 (ob_tk (hx a ha))
      have da := tk_der (ob_tk (hx a ha))
      simp [Vz0, Vz1, Vz2, Vz3, Vz4, Vz5, Vz6, kx, SZ, beq_self_eq_true, List.contains_cons, List.contains_nil, qa, da]
    · cases y : xs.all fun x => intIn x 0 19 with
      | false =>
        have e2 : lotB (.tup xs) = false := by simp only [lotB]; rw [y]; rfl
        simp [Vz0, Vz1, Vz2, Vz3, Vz4, Vz5, Vz6, kx, SZ, beq_self_eq_true, List.contains_cons, List.contains_nil, y, e2]
      | true =>
        have e2 : lotB (.tup xs) = ascB xs := by simp only [lotB]; rw [y]; rfl
        have inx := fun x hx => intIn_is (List.all_eq_true.mp y x hx)
        rw [e2]
        simp [Vz0, Vz1, Vz2, Vz3, Vz4, Vz5, Vz6, kx, SZ, beq_self_eq_true, List.contains_cons, List.contains_nil, y, zip2]
        refine ⟨by omega, wp_lc1 (α := D × D) (fun p => .tup [p.1, p.2]) (fun p => .bl (ltD p.1 p.2)) (xs.zip xs.tail) (fun _ => rfl) (fun p hp => ?_) ?_⟩
        · obtain ⟨a, b⟩ := p
          obtain ⟨h1, h2⟩ := List.of_mem_zip hp
          obtain ⟨i, rfl, _⟩ := inx a h1
          obtain ⟨j, rfl, _⟩ := inx b (List.mem_of_mem_tail h2)
          simp [Vz0, Vz1, Vz2, Vz3, Vz4, Vz5, Vz6, kx, SZ, beq_self_eq_true, List.contains_cons, List.contains_nil, ltD]
        · simp [Vz0, Vz1, Vz2, Vz3, Vz4, Vz5, Vz6, kx, SZ, beq_self_eq_true, List.contains_cons, List.contains_nil, ascB]
theorem t_row_of (n m f : Nat) (p : D → Bool) (d : D) (h : Ob m d) (hf : f < 36) (q : ∀ k x, Ob k x → callF prg (n + 5) f [x] = pure (.bl (p x))) : callF prg (n + 6) 12 [.fn f, d] = pure (.bl (rowB p d)) := by
  refine eq_pure fun w => ?_
  rw [c_is_row_of]
  have q0 := t_is_sized (n + 4) d 1 5 (ob_tk h)
  cases z : isTupD d with
  | false =>
    have e1 : sizedB d 1 5 = false := by cases d <;> first | rfl | cases z
    have e2 : rowB p d = false := by cases d <;> first | rfl | cases z
    simp [f_is_row_of, Vz0, Vz1, Vz2, Vz3, Vz4, Vz5, Vz6, kx, SZ, beq_self_eq_true, List.contains_cons, List.contains_nil, q0, e1, e2]
  | true =>
    obtain ⟨xs, rfl⟩ := isTup z
    obtain ⟨k, rfl, hl, hx, _⟩ := ob_tup h
    by_cases g : 1 ≤ (xs.length : Int) ∧ (xs.length : Int) ≤ 5
    · have e1 : sizedB (.tup xs) 1 5 = true := by simp only [sizedB]; exact decide_eq_true g
      have e2 : rowB p (.tup xs) = xs.all p := by simp only [rowB]; rw [decide_eq_true g]; rfl
      rw [e2]
      simp [f_is_row_of, Vz0, Vz1, Vz2, Vz3, Vz4, Vz5, Vz6, kx, SZ, beq_self_eq_true, List.contains_cons, List.contains_nil, q0, e1]
      refine ⟨by omega, wp_lcD (fun x => .bl (p x)) xs (fun _ => rfl) (fun a ha => ?_) ?_⟩
      · have da := tk_der (ob_tk (hx a ha))
        simp [Vz0, Vz1, Vz2, Vz3, Vz4, Vz5, Vz6, kx, SZ, beq_self_eq_true, List.contains_cons, List.contains_nil, q k a (hx a ha), da]
        exact Nat.lt_of_lt_of_le hf (by decide)
      · simp [Vz0, Vz1, Vz2, Vz3, Vz4, Vz5, Vz6, kx, SZ, beq_self_eq_true, List.contains_cons, List.contains_nil]
    · have e1 : sizedB (.tup xs) 1 5 = false := by simp only [sizedB]; exact decide_eq_false g
      have e2 : rowB p (.tup xs) = false := by simp only [rowB]; rw [decide_eq_false g]; rfl
      simp [f_is_row_of, Vz0, Vz1, Vz2, Vz3, Vz4, Vz5, Vz6, kx, SZ, beq_self_eq_true, List.contains_cons, List.contains_nil, q0, e1, e2]
noncomputable def lensOf : D → M D
  | .tup xs => onInts xs fun ns => grd (ns.length ≤ 1000) (pure (.int (ddup ns).length))
  | .lst xs => onInts xs fun ns => grd (ns.length ≤ 1000) (pure (.int (ddup ns).length))
  | _ => stk
theorem we_lenset_g {n : Nat} {e : Ev.Env} {w : Wd} {a : X} {Q : D → Wd → Prop} {E : EK} : wp (ev (cg n) (.lenset a) e) w Q E = wp (ev (cg n) a e) w (fun x w => wp (lensOf x) w Q E) E := by
  rw [ev, calm_cg, wp_bind]
  refine congrArg (fun q => wp (ev (cg n) a e) w q E) (funext fun x => funext fun w => ?_)
  cases x <;> rfl
/-- a row of ints -/
theorem row_ints {lo hi : Int} {d : D} (h : rowB (fun x => intIn x lo hi) d = true) : ∃ ns : List Int, d = .tup (ns.map .int) ∧ 1 ≤ ns.length ∧ ns.length ≤ 5 ∧ ∀ i ∈ ns, lo ≤ i ∧ i ≤ hi := by
  cases z : isTupD d with
  | false =>
    have : rowB (fun x => intIn x lo hi) d = false := by cases d <;> first | rfl | cases z
    rw [this] at h
    cases h
  | true =>
    obtain ⟨xs, rfl⟩ := isTup z
    simp only [rowB, Bool.and_eq_true, decide_eq_true_eq] at h
    obtain ⟨⟨a, b⟩, c⟩ := h
    have key : ∀ xs : List D, (∀ x ∈ xs, intIn x lo hi = true) → ∃ ns : List Int, xs = ns.map .int ∧ ∀ i ∈ ns, lo ≤ i ∧ i ≤ hi := fun xs => by
      induction xs with
      | nil => exact fun _ => ⟨[], rfl, by simp⟩
      | cons x r ih =>
        intro hx
        obtain ⟨i, rfl, h1, h2⟩ := intIn_is (hx x (List.mem_cons_self ..))
        obtain ⟨ns, rfl, h3⟩ := ih fun y hy => hx y (List.mem_cons_of_mem _ hy)
        exact ⟨i :: ns, rfl, fun j hj => by
          rcases List.mem_cons.mp hj with rfl | hj
          · exact ⟨h1, h2⟩
          · exact h3 j hj⟩
    obtain ⟨ns, rfl, h3⟩ := key xs (List.all_eq_true.mp c)
    simp at a b
    exact ⟨ns, rfl, by omega, by omega, h3⟩
theorem once_ints (ns : List Int) : onceB (.tup (ns.map .int)) = decide ((ddup ns).length = ns.length) := by
  unfold onceB
  dsimp only
  have : intsD (ns.map D.int) = some ns := by
    have := intsD_map (p := fun i : Int => i) (xs := ns)
    simpa using this
  rw [this]
theorem lens_ints (ns : List Int) (h : ns.length ≤ 1000) : lensOf (.tup (ns.map .int)) = pure (.int (ddup ns).length) := by
  show onInts (ns.map .int) (fun ns => grd (ns.length ≤ 1000) (pure (.int (ddup ns).length))) = _
  unfold onInts
  have e : intsD (ns.map D.int) = some ns := by
    have := intsD_map (p := fun i : Int => i) (xs := ns)
    simpa using this
  rw [e]
  dsimp only
  rw [grd_if, if_pos h]
theorem kinds_of {k : Str} (h : kindS k = true) : k = s8_sweep ∨ k = s7_twice ∨ k = s6_borrow ∨ k = s10_levels ∨ k = s11_names ∨ k = s13_near ∨ k = s12_chain := by
  simp [kindS, mannS] at h
  rcases h with ((((h | h) | h) | h) | h) | h
  all_goals first | (simp [h]; done) | (rcases h with h | h <;> simp [h]; done) | skip
  all_goals simp_all
theorem nearB_tup (xs : List D) (h : xs.length ≠ 2) : nearB (.tup xs) = false := by
  match xs, h with
  | [], _ => rfl
  | [a], _ => rfl
  | [a, b], h => exact absurd rfl h
  | a :: b :: c :: r, _ => rfl
theorem t_are_near (n m : Nat) (d : D) (h : Ob m d) : callF prg (n + 7) 13 [.str s13_near, d] = pure (.bl (nearB d)) := by
  refine eq_pure fun w => ?_
  rw [c_are_inputs]
  have mn : hasD (.str s13_near) [.str s8_sweep, .str s7_twice, .str s6_borrow] = false := by simp [hasD, Vz0, Vz1, Vz2, Vz3, Vz4, Vz5, Vz6, kx, SZ, beq_self_eq_true, List.contains_cons, List.contains_nil]
  have dd := tk_der (ob_tk h)
  have qp : callF prg (n + 6) 5 [d] = pure (.bl (sizedB d 2 2)) := by
    refine eq_pure fun w => ?_
    rw [c_is_pair]
    have q := t_is_sized (n + 4) d 2 2 (ob_tk h)
    simp [f_is_pair, Vz0, Vz1, Vz2, Vz3, Vz4, Vz5, Vz6, kx, SZ, beq_self_eq_true, List.contains_cons, List.contains_nil, q, dd]
  cases z : sizedB d 2 2 with
  | false =>
    have e2 : nearB d = false := by
      cases d <;> first | rfl | skip
      rename_i xs
      exact nearB_tup xs fun e => by simp [sizedB, e] at z
    simp [f_are_inputs, Vz0, Vz1, Vz2, Vz3, Vz4, Vz5, Vz6, kx, SZ, beq_self_eq_true, List.contains_cons, List.contains_nil, mn, qp, z, e2, dd]
  | true =>
    obtain ⟨a, b, rfl⟩ : ∃ a b, d = .tup [a, b] := by
      cases d <;> first | (exfalso; cases z; done) | skip
      rename_i xs
      match xs, z with
      | [a, b], _ => exact ⟨a, b, rfl⟩
      | [], z => simp [sizedB] at z
      | [a], z => simp [sizedB] at z
      | a :: b :: c :: r, z => simp [sizedB] at z; omega
    obtain ⟨k, rfl, hl, hx, _⟩ := ob_tup h
    have oa := hx a (by simp)
    have ob := hx b (by simp)
    have q1 := t_is_within (n + 4) a 1 6 (ob_tk oa)
    have q2 := t_row_of n k 10 (fun x => intIn x (-1000) 1000) b ob (by decide) fun k x hx => t_is_near_value (n + 2) k x hx
    have da := tk_der (ob_tk oa)
    have db := tk_der (ob_tk ob)
    cases y : intIn a 1 6 <;> simp [f_are_inputs, Vz0, Vz1, Vz2, Vz3, Vz4, Vz5, Vz6, kx, SZ, beq_self_eq_true, List.contains_cons, List.contains_nil, mn, qp, z, dd, nearB, q1, q2, da, db, y]
theorem t_are_inputs (n m : Nat) (k : Str) (d : D) (hk : kindS k = true) (h : Ob m d) : callF prg (n + 7) 13 [.str k, d] = pure (.bl (inputsB k d)) := by
  have dd := tk_der (ob_tk h)
  have q1 := t_row_of n m 8 scriptB d h (by decide) fun k x hx => t_is_script n k x hx
  have q2 := t_row_of n m 9 (fun x => intIn x 0 999) d h (by decide) fun k x hx => t_is_value (n + 1) k x hx
  have q3 := t_row_of n m 11 lotB d h (by decide) fun k x hx => t_is_lot (n + 1) k x hx
  rcases kinds_of hk with rfl | rfl | rfl | rfl | rfl | rfl | rfl
  · refine eq_pure fun w => ?_
    rw [c_are_inputs]
    have mn : hasD (.str s8_sweep) [.str s8_sweep, .str s7_twice, .str s6_borrow] = true := by simp [hasD, Vz0, Vz1, Vz2, Vz3, Vz4, Vz5, Vz6, kx, SZ, beq_self_eq_true, List.contains_cons, List.contains_nil]
    simp [f_are_inputs, Vz0, Vz1, Vz2, Vz3, Vz4, Vz5, Vz6, kx, SZ, beq_self_eq_true, List.contains_cons, List.contains_nil, mn, dd, q1, inputsB, mannS]
  · refine eq_pure fun w => ?_
    rw [c_are_inputs]
    have mn : hasD (.str s7_twice) [.str s8_sweep, .str s7_twice, .str s6_borrow] = true := by simp [hasD, Vz0, Vz1, Vz2, Vz3, Vz4, Vz5, Vz6, kx, SZ, beq_self_eq_true, List.contains_cons, List.contains_nil]
    simp [f_are_inputs, Vz0, Vz1, Vz2, Vz3, Vz4, Vz5, Vz6, kx, SZ, beq_self_eq_true, List.contains_cons, List.contains_nil, mn, dd, q1, inputsB, mannS]
  · refine eq_pure fun w => ?_
    rw [c_are_inputs]
    have mn : hasD (.str s6_borrow) [.str s8_sweep, .str s7_twice, .str s6_borrow] = true := by simp [hasD, Vz0, Vz1, Vz2, Vz3, Vz4, Vz5, Vz6, kx, SZ, beq_self_eq_true, List.contains_cons, List.contains_nil]
    simp [f_are_inputs, Vz0, Vz1, Vz2, Vz3, Vz4, Vz5, Vz6, kx, SZ, beq_self_eq_true, List.contains_cons, List.contains_nil, mn, dd, q1, inputsB, mannS]
  · refine eq_pure fun w => ?_
    rw [c_are_inputs]
    have mn : hasD (.str s10_levels) [.str s8_sweep, .str s7_twice, .str s6_borrow] = false := by simp [hasD, Vz0, Vz1, Vz2, Vz3, Vz4, Vz5, Vz6, kx, SZ, beq_self_eq_true, List.contains_cons, List.contains_nil]
    simp [f_are_inputs, Vz0, Vz1, Vz2, Vz3, Vz4, Vz5, Vz6, kx, SZ, beq_self_eq_true, List.contains_cons, List.contains_nil, mn, dd, q2, inputsB, mannS]
  · refine eq_pure fun w => ?_
    rw [c_are_inputs]
    have mn : hasD (.str s11_names) [.str s8_sweep, .str s7_twice, .str s6_borrow] = false := by simp [hasD, Vz0, Vz1, Vz2, Vz3, Vz4, Vz5, Vz6, kx, SZ, beq_self_eq_true, List.contains_cons, List.contains_nil]
    cases z : rowB (fun x => intIn x 0 999) d with
    | false => simp [f_are_inputs, Vz0, Vz1, Vz2, Vz3, Vz4, Vz5, Vz6, kx, SZ, beq_self_eq_true, List.contains_cons, List.contains_nil, mn, dd, q2, inputsB, mannS, z]
    | true =>
      obtain ⟨ns, rfl, h1, h5, _⟩ := row_ints z
      have ls := lens_ints ns (by omega)
      simp [f_are_inputs, Vz0, Vz1, Vz2, Vz3, Vz4, Vz5, Vz6, kx, SZ, beq_self_eq_true, List.contains_cons, List.contains_nil, mn, dd, q2, inputsB, mannS, z, we_lenset_g, ls, once_ints]
      exact Int.ofNat_inj
  · rw [t_are_near n m d h]
    simp [inputsB, mannS]
  · refine eq_pure fun w => ?_
    rw [c_are_inputs]
    have mn : hasD (.str s12_chain) [.str s8_sweep, .str s7_twice, .str s6_borrow] = false := by simp [hasD, Vz0, Vz1, Vz2, Vz3, Vz4, Vz5, Vz6, kx, SZ, beq_self_eq_true, List.contains_cons, List.contains_nil]
    simp [f_are_inputs, Vz0, Vz1, Vz2, Vz3, Vz4, Vz5, Vz6, kx, SZ, beq_self_eq_true, List.contains_cons, List.contains_nil, mn, dd, q3, inputsB, mannS]
end K02.B

set_option maxRecDepth 100000
set_option maxHeartbeats 1000000
namespace K02.B
open PySem Ev
theorem beq_cm (a b : Str) : (a == b) = (b == a) := by
  cases z : (a == b) with
  | true => rw [eq_of_beq z, beq_self_eq_true]
  | false =>
    cases y : (b == a) with
    | false => rfl
    | true => rw [eq_of_beq y, beq_self_eq_true] at z; cases z
theorem has3 (k : Str) : hasD (.str k) [.str s8_sweep, .str s7_twice, .str s6_borrow] = mannS k := by
  simp [hasD, Vz0, Vz1, Vz2, Vz3, Vz4, Vz5, Vz6, kx, SZ, beq_self_eq_true, List.contains_cons, List.contains_nil, mannS, beq_cm, Bool.or_assoc]
theorem has7 (k : Str) : hasD (.str k) [.str s8_sweep, .str s7_twice, .str s6_borrow, .str s10_levels, .str s11_names, .str s13_near, .str s12_chain] = kindS k := by
  simp [hasD, Vz0, Vz1, Vz2, Vz3, Vz4, Vz5, Vz6, kx, SZ, beq_self_eq_true, List.contains_cons, List.contains_nil, kindS, mannS, beq_cm, Bool.or_assoc]
def kindD : D → Bool
  | .str s => kindS s
  | _ => false
def rowsD (k : Str) (d : D) : D := if k == s13_near then (match d with | .tup [a, b] => b | _ => d) else d
def ePo (k : Str) (i r : D) : D := .ins 0 [(s3_kind, .str k), (s2_inputs, i), (s1_rows, r)]
theorem nearB_is : ∀ d, nearB d = true → ∃ a b, d = .tup [a, b]
  | .tup [a, b], _ => ⟨a, b, rfl⟩
  | .tup [], h => by cases h
  | .tup [_], h => by cases h
  | .tup (_ :: _ :: _ :: _), h => by cases h
  | .non, h => by cases h
  | .bl _, h => by cases h
  | .int _, h => by cases h
  | .str _, h => by cases h
  | .lst _, h => by cases h
  | .dic _, h => by cases h
  | .ins _ _, h => by cases h
  | .cel _, h => by cases h
  | .fn _, h => by cases h
  | .scr _, h => by cases h
theorem Play_kind (n m m' : Nat) (kd d : D) (hk : Ob m kd) (hd : Ob m' d) (h : kindD kd = false) : iniF (n + 9) 0 [kd, d] = rse 2 (some (.str s3_kind)) := by
  refine eq_rse fun w => ?_
  rw [i_Play]
  have is := isa_s (ob_tk hk)
  have dd := tk_der (ob_tk hk)
  cases z : isStrD kd with
  | false =>
    rw [z] at is
    simp [f_Play_init, Vz0, Vz1, Vz2, Vz3, Vz4, Vz5, Vz6, kx, SZ, beq_self_eq_true, List.contains_cons, List.contains_nil, is, we_isax]
  | true =>
    rw [z] at is
    obtain ⟨s, rfl⟩ : ∃ s, kd = .str s := by cases kd <;> first | exact ⟨_, rfl⟩ | (exfalso; cases z; done)
    have h : kindS s = false := h
    simp [f_Play_init, Vz0, Vz1, Vz2, Vz3, Vz4, Vz5, Vz6, kx, SZ, beq_self_eq_true, List.contains_cons, List.contains_nil, is, we_isax, has7, h]
theorem Play_inputs (n m : Nat) (k : Str) (d : D) (hk : kindS k = true) (hd : Ob m d) (h : inputsB k d = false) : iniF (n + 9) 0 [.str k, d] = rse 2 (some (.str s2_inputs)) := by
  refine eq_rse fun w => ?_
  rw [i_Play]
  have q := t_are_inputs n m k d hk hd
  have dd := tk_der (ob_tk hd)
  simp [f_Play_init, Vz0, Vz1, Vz2, Vz3, Vz4, Vz5, Vz6, kx, SZ, beq_self_eq_true, List.contains_cons, List.contains_nil, isas_t, we_isax, has7, hk, q, h, dd]
theorem Play_ok (n m : Nat) (k : Str) (d : D) (hk : kindS k = true) (hd : Ob m d) (h : inputsB k d = true) : iniF (n + 9) 0 [.str k, d] = pure (ePo k d (rowsD k d)) := by
  refine eq_pure fun w => ?_
  rw [i_Play]
  have q := t_are_inputs n m k d hk hd
  have dd := tk_der (ob_tk hd)
  have so : PyData.strOk k = true := by rcases kinds_of hk with rfl | rfl | rfl | rfl | rfl | rfl | rfl <;> simp
  have sp := strOk_shape so (show PyData.strOk s13_near = true by simp)
  cases z : (k == s13_near) with
  | false => simp [f_Play_init, Vz0, Vz1, Vz2, Vz3, Vz4, Vz5, Vz6, kx, SZ, beq_self_eq_true, List.contains_cons, List.contains_nil, isas_t, we_isax, has7, hk, q, h, dd, sp, z, rowsD, ePo]
  | true =>
    have e := eq_of_beq z
    subst e
    have h : nearB d = true := by
      have : inputsB s13_near d = nearB d := by simp [inputsB, mannS]
      rw [← this]
      exact h
    obtain ⟨a, b, rfl⟩ := nearB_is d h
    simp [f_Play_init, Vz0, Vz1, Vz2, Vz3, Vz4, Vz5, Vz6, kx, SZ, beq_self_eq_true, List.contains_cons, List.contains_nil, isas_t, we_isax, has7, hk, q, dd, sp, rowsD, ePo, h, inputsB, mannS]
/-! ### the law's judge -/
theorem l_is_integer (n : Nat) (d : D) (h : Tk d) : callF prg (n + 1) 56 [d] = pure (.bl (isIntD d)) := by
  refine eq_pure fun w => ?_
  rw [c__law_is_integer]
  have a := isa_i h
  have b := isa_b h
  cases z : isIntD d <;> cases y : isBlD d <;> rw [z, y] at a <;> rw [y] at b <;> simp [f__law_is_integer, Vz0, Vz1, Vz2, Vz3, Vz4, Vz5, Vz6, kx, SZ, beq_self_eq_true, List.contains_cons, List.contains_nil, a, b]
  · cases d <;> first | (cases z; done) | (cases y; done) | cases z
end K02.B

set_option maxRecDepth 100000
set_option maxHeartbeats 1000000
namespace K02.B
open PySem Ev
theorem lot_iff (xs : List D) : lotB (.tup xs) = true ↔ (∀ (j : Nat) (x : D), xs[j]? = some x → intIn x 0 19 = true) ∧ ∀ (j : Nat) (x y : D), xs[j]? = some y → xs[j + 1]? = some x → ltD y x = true := by
  simp only [lotB, Bool.and_eq_true, List.all_eq_true, ascB]
  refine and_congr ⟨fun h j x e => h x (List.mem_of_getElem? e), fun h x hx => ?_⟩ ⟨fun h j x y e1 e2 => ?_, fun h p hp => ?_⟩
  · obtain ⟨j, hj⟩ := List.mem_iff_getElem?.mp hx
    exact h j x hj
  · refine h (y, x) (List.mem_iff_getElem?.mpr ⟨j, ?_⟩)
    rw [List.getElem?_zip_eq_some]
    exact ⟨e1, by rw [List.getElem?_drop, Nat.add_comm]; exact e2⟩
  · obtain ⟨j, hj⟩ := List.mem_iff_getElem?.mp hp
    rw [List.getElem?_zip_eq_some] at hj
    obtain ⟨h1, h2⟩ := hj
    rw [List.getElem?_drop, Nat.add_comm] at h2
    exact h j p.2 p.1 h1 h2
theorem filt0 (p : D → Bool) (xs : List D) : decide ((((xs.filter fun x => !p x).length : Nat) : Int) = 0) = xs.all p := by
  cases z : xs.all p with
  | true =>
    have : xs.filter (fun x => !p x) = [] := List.filter_eq_nil_iff.mpr fun x hx => by simp [List.all_eq_true.mp z x hx]
    rw [this]
    rfl
  | false =>
    obtain ⟨x, hx, hp⟩ := List.all_eq_false.mp z
    have : 0 < (xs.filter fun x => !p x).length := List.length_pos_of_mem (List.mem_filter.mpr ⟨hx, by simpa using hp⟩)
    rw [decide_eq_false_iff_not]
    omega
theorem shapes_s {k : Str} (h : PyData.strOk k = true) (xs : List Str) (hx : xs.all PyData.strOk = true) (hl : xs.length ≤ 50) : shapes (.str k) (xs.map .str) = true := by
  have a : ∀ l : List Str, l.all PyData.strOk = true → D.shpAll (l.map .str) = true := fun l => by
    induction l with
    | nil => exact fun _ => rfl
    | cons a r ih =>
      intro h
      rw [List.all_cons, Bool.and_eq_true] at h
      simp [D.shpAll, D.shp, h.1, ih h.2]
  have b : ∀ l : List Str, D.depAll (l.map .str) = 0 := fun l => by
    induction l with
    | nil => rfl
    | cons a r ih => simp [D.depAll, D.dep, ih]
  unfold shapes
  rw [a xs hx, b xs]
  simp [D.shp, D.dep, h]
theorem shapes3 {k : Str} (h : PyData.strOk k = true) : shapes (.str k) [.str s8_sweep, .str s7_twice, .str s6_borrow] = true := shapes_s h [s8_sweep, s7_twice, s6_borrow] (by simp) (by simp)
theorem shapes7 {k : Str} (h : PyData.strOk k = true) : shapes (.str k) [.str s8_sweep, .str s7_twice, .str s6_borrow, .str s10_levels, .str s11_names, .str s13_near, .str s12_chain] = true := shapes_s h [s8_sweep, s7_twice, s6_borrow, s10_levels, s11_names, s13_near, s12_chain] (by simp) (by simp)
def itemB (k : Str) (d : D) : Bool := if mannS k then scriptB d else if k == s12_chain then lotB d else if k == s13_near then intIn d (-1000) 1000 else intIn d 0 999
theorem kind_ok {k : Str} (h : kindS k = true) : PyData.strOk k = true := by rcases kinds_of h with rfl | rfl | rfl | rfl | rfl | rfl | rfl <;> simp
end K02.B

set_option maxRecDepth 100000
set_option maxHeartbeats 1000000
namespace K02.B
open PySem Ev
def tlS : Nat → Ss → Ss
  | 0, s => s
  | n + 1, .cons _ r => tlS n r
  | _, .nil => .nil
def hdS : Nat → Ss → S
  | 0, .cons s _ => s
  | n + 1, .cons _ r => hdS n r
  | _, .nil => .bad
def restB (k : Str) (d : D) : Bool := rowB (itemB k) d && (!(k == s11_names) || onceB d)
theorem inputs_rest (k : Str) (d : D) (hk : kindS k = true) (hn : (k == s13_near) = false) : inputsB k d = restB k d := by
  rcases kinds_of hk with rfl | rfl | rfl | rfl | rfl | rfl | rfl
  · have : itemB s8_sweep = scriptB := by funext x; simp [itemB, mannS]
    simp [inputsB, restB, mannS, this]
  · have : itemB s7_twice = scriptB := by funext x; simp [itemB, mannS]
    simp [inputsB, restB, mannS, this]
  · have : itemB s6_borrow = scriptB := by funext x; simp [itemB, mannS]
    simp [inputsB, restB, mannS, this]
  · have : itemB s10_levels = fun x => intIn x 0 999 := by funext x; simp [itemB, mannS]
    simp [inputsB, restB, mannS, this]
  · have : itemB s11_names = fun x => intIn x 0 999 := by funext x; simp [itemB, mannS]
    simp [inputsB, restB, mannS, this]
  · simp at hn
  · have : itemB s12_chain = lotB := by funext x; simp [itemB, mannS]
    simp [inputsB, restB, mannS, this]
theorem near_rest (b : D) : restB s13_near b = rowB (fun x => intIn x (-1000) 1000) b := by
  have : itemB s13_near = fun x => intIn x (-1000) 1000 := by funext x; simp [itemB, mannS]
  simp [restB, this]
end K02.B

set_option maxRecDepth 100000
set_option maxHeartbeats 1000000
namespace K02.B
open PySem Ev
/-! ### right things: numbers, texts, tuples of such -/
def Rt : Nat → D → Prop
  | 0, d => (∃ i, d = .int i) ∨ ∃ s, d = .str s ∧ PyData.strOk s = true
  | m + 1, d => ((∃ i, d = .int i) ∨ ∃ s, d = .str s ∧ PyData.strOk s = true) ∨ ∃ xs, d = .tup xs ∧ xs.length ≤ 1000 ∧ ∀ x ∈ xs, Rt m x
theorem Rt.int {m : Nat} {i : Int} : Rt m (.int i) := by cases m with | zero => exact .inl ⟨i, rfl⟩ | succ m => exact .inl (.inl ⟨i, rfl⟩)
theorem Rt.str {m : Nat} {s : Str} (h : PyData.strOk s = true) : Rt m (.str s) := by cases m with | zero => exact .inr ⟨s, rfl, h⟩ | succ m => exact .inl (.inr ⟨s, rfl, h⟩)
theorem Rt.tup {m : Nat} {xs : List D} (h : xs.length ≤ 1000) (hx : ∀ x ∈ xs, Rt m x) : Rt (m + 1) (.tup xs) := .inr ⟨xs, rfl, h, hx⟩
theorem Rt.of {m : Nat} {xs : List D} (h : Rt (m + 1) (.tup xs)) : xs.length ≤ 1000 ∧ ∀ x ∈ xs, Rt m x := by
  rcases h with (⟨i, e⟩ | ⟨s, e, _⟩) | ⟨ys, e, h1, h2⟩
  · cases e
  · cases e
  · cases e; exact ⟨h1, h2⟩
theorem Rt.mono : ∀ {m k : Nat} {d : D}, Rt m d → m ≤ k → Rt k d
  | 0, k, d, h, _ => by
    rcases h with ⟨i, rfl⟩ | ⟨s, rfl, h⟩
    · exact .int
    · exact .str h
  | m + 1, 0, d, h, l => by omega
  | m + 1, k + 1, d, h, l => by
    rcases h with (⟨i, rfl⟩ | ⟨s, rfl, h⟩) | ⟨xs, rfl, h1, h2⟩
    · exact .int
    · exact .str h
    · exact .tup h1 fun x hx => (h2 x hx).mono (by omega)
theorem Rt.ok : ∀ {m : Nat} {d : D}, Rt m d → D.ok m d = true
  | 0, d, h => by
    rcases h with ⟨i, rfl⟩ | ⟨s, rfl, h⟩
    · exact ok_int
    · simp [D.ok, D.shp, D.dep, h]
  | m + 1, d, h => by
    rcases h with (⟨i, rfl⟩ | ⟨s, rfl, h⟩) | ⟨xs, rfl, h1, h2⟩
    · exact ok_int
    · simp [D.ok, D.shp, D.dep, h]
    · exact ok_tup.mpr fun x hx => (h2 x hx).ok
theorem Rt.pl : ∀ {m : Nat} {d : D}, Rt m d → d.pl = true
  | 0, d, h => by
    rcases h with ⟨i, rfl⟩ | ⟨s, rfl, h⟩
    · rfl
    · rfl
  | m + 1, d, h => by
    rcases h with (⟨i, rfl⟩ | ⟨s, rfl, h⟩) | ⟨xs, rfl, h1, h2⟩
    · rfl
    · rfl
    · exact pl_tup.mpr fun x hx => (h2 x hx).pl
theorem Rt.sh {m : Nat} {d : D} (h : Rt m d) (hm : m ≤ 60) : d.shp = true ∧ d.dep ≤ 60 := by
  have := ok_iff.mp h.ok
  exact ⟨this.1, by omega⟩
theorem Rt.ob : ∀ {m : Nat} {d : D}, Rt m d → m ≤ 60 → Ob m d
  | 0, d, h, _ => by
    rcases h with ⟨i, rfl⟩ | ⟨s, rfl, h⟩
    · trivial
    · exact h
  | m + 1, d, h, l => by
    have sh := h.sh l
    rcases h with (⟨i, rfl⟩ | ⟨s, rfl, h⟩) | ⟨xs, rfl, h1, h2⟩
    · exact .inl trivial
    · exact .inl h
    · exact .inr ⟨xs, .inl rfl, h1, fun x hx => (h2 x hx).ob (by omega), fun _ _ _ => sh⟩
theorem Rt.shape {m k : Nat} {a b : D} (h : Rt m a) (g : Rt k b) (hm : m ≤ 60) (hk : k ≤ 60) : shape2 a b = true := shape_ok h.ok g.ok hm hk
/-! ### the same -/
/-! ### what is judged right is a right thing -/
theorem deed_rt : ∀ {d : D}, deedB d = true → Rt 1 d
  | .tup [.str x], h => by
    have e : x = s4_see := eq_of_beq h
    subst e
    exact .tup (by simp) fun y hy => by simp at hy; rw [hy]; exact .str (by simp)
  | .tup [.str x, y], h => by
    rw [deedB, Bool.and_eq_true] at h
    have e : x = s5_put := eq_of_beq h.1
    subst e
    obtain ⟨i, rfl, _⟩ := intIn_is h.2
    exact .tup (by simp) fun y hy => by simp at hy; rcases hy with rfl | rfl <;> first | exact .str (by simp) | exact .int
  | .tup [], h => by cases h
  | .tup [.non], h => by cases h
  | .tup [.bl _], h => by cases h
  | .tup [.int _], h => by cases h
  | .tup [.tup _], h => by cases h
  | .tup [.lst _], h => by cases h
  | .tup [.dic _], h => by cases h
  | .tup [.ins _ _], h => by cases h
  | .tup [.cel _], h => by cases h
  | .tup [.fn _], h => by cases h
  | .tup [.scr _], h => by cases h
  | .tup [.non, _], h => by cases h
  | .tup [.bl _, _], h => by cases h
  | .tup [.int _, _], h => by cases h
  | .tup [.tup _, _], h => by cases h
  | .tup [.lst _, _], h => by cases h
  | .tup [.dic _, _], h => by cases h
  | .tup [.ins _ _, _], h => by cases h
  | .tup [.cel _, _], h => by cases h
  | .tup [.fn _, _], h => by cases h
  | .tup [.scr _, _], h => by cases h
  | .tup (a :: b :: c :: r), h => by cases a <;> cases h
  | .non, h => by cases h
  | .bl _, h => by cases h
  | .int _, h => by cases h
  | .str _, h => by cases h
  | .lst _, h => by cases h
  | .dic _, h => by cases h
  | .ins _ _, h => by cases h
  | .cel _, h => by cases h
  | .fn _, h => by cases h
  | .scr _, h => by cases h
theorem script_is {d : D} (h : scriptB d = true) : ∃ xs, d = .tup xs ∧ xs.length ≤ 6 ∧ ∀ x ∈ xs, deedB x = true := by
  cases d <;> first | (exfalso; cases h; done) | skip
  rename_i xs
  simp only [scriptB, Bool.and_eq_true, decide_eq_true_eq, List.all_eq_true] at h
  exact ⟨xs, rfl, by omega, h.2⟩
theorem script_rt {d : D} (h : scriptB d = true) : Rt 2 d := by
  obtain ⟨xs, rfl, h1, h2⟩ := script_is h
  exact .tup (by omega) fun x hx => deed_rt (h2 x hx)
theorem lot_is {d : D} (h : lotB d = true) : ∃ xs, d = .tup xs ∧ ∀ x ∈ xs, intIn x 0 19 = true := by
  cases d <;> first | (exfalso; cases h; done) | skip
  rename_i xs
  simp only [lotB, Bool.and_eq_true, List.all_eq_true] at h
  exact ⟨xs, rfl, h.1⟩
theorem int_rt {d : D} {lo hi : Int} {m : Nat} (h : intIn d lo hi = true) : Rt m d := by
  obtain ⟨i, rfl, _⟩ := intIn_is h
  exact .int
theorem lot_rt {m : Nat} {d : D} (ho : Ob m d) (h : lotB d = true) : Rt 1 d := by
  obtain ⟨xs, rfl, h2⟩ := lot_is h
  obtain ⟨k, rfl, hl, _⟩ := ob_tup ho
  exact .tup hl fun x hx => int_rt (h2 x hx)
theorem item_rt {m : Nat} {k : Str} {d : D} (ho : Ob m d) (h : itemB k d = true) : Rt 2 d := by
  unfold itemB at h
  split at h
  · exact script_rt h
  · split at h
    · exact (lot_rt ho h).mono (by omega)
    · split at h <;> exact int_rt h
theorem row_is {p : D → Bool} {d : D} (h : rowB p d = true) : ∃ xs, d = .tup xs ∧ 1 ≤ xs.length ∧ xs.length ≤ 5 ∧ ∀ x ∈ xs, p x = true := by
  cases d <;> first | (exfalso; cases h; done) | skip
  rename_i xs
  simp only [rowB, Bool.and_eq_true, decide_eq_true_eq, List.all_eq_true] at h
  exact ⟨xs, rfl, by omega, by omega, h.2⟩
theorem row_rt {m : Nat} {k : Str} {d : D} (ho : Ob m d) (h : rowB (itemB k) d = true) : Rt 3 d := by
  obtain ⟨xs, rfl, h1, h2, h3⟩ := row_is h
  obtain ⟨k, rfl, _, hx, _⟩ := ob_tup ho
  exact .tup (by omega) fun x hx' => item_rt (hx x hx') (h3 x hx')
theorem inputs_rt {m : Nat} {k : Str} {d : D} (ho : Ob m d) (hk : kindS k = true) (h : inputsB k d = true) : Rt 4 d := by
  cases t : (k == s13_near) with
  | false =>
    rw [inputs_rest k d hk t, restB, Bool.and_eq_true] at h
    exact (row_rt ho h.1).mono (by omega)
  | true =>
    have e := eq_of_beq t
    subst e
    have h : nearB d = true := by
      have : inputsB s13_near d = nearB d := by simp [inputsB, mannS]
      rw [← this]
      exact h
    obtain ⟨a, b, rfl⟩ := nearB_is d h
    obtain ⟨k, rfl, _, hx, _⟩ := ob_tup ho
    rw [nearB, Bool.and_eq_true] at h
    have hb : rowB (itemB s13_near) b = true := by
      have : itemB s13_near = fun x => intIn x (-1000) 1000 := by funext x; simp [itemB, mannS]
      rw [this]
      exact h.2
    refine .tup (by simp) fun y hy => ?_
    simp at hy
    rcases hy with rfl | rfl
    · exact int_rt h.1
    · exact row_rt (hx y (by simp)) hb
/-! ### plays are equal -/
def eP (k : Str) (d : D) : D := ePo k d (rowsD k d)
theorem Play_eq_is (n : Nat) (k k' : Str) (d d' : D) (hk : PyData.strOk k = true) (hk' : PyData.strOk k' = true) (h : Rt 4 d) (h' : Rt 4 d') :
    callF prg (n + 1) 15 [eP k d, eP k' d'] = pure (.bl (D.eqv (.tup [.str k, d]) (.tup [.str k', d']))) := by
  refine eq_pure fun w => ?_
  rw [c_Play_eq]
  have r1 : Rt 5 (.tup [.str k, d]) := .tup (by simp) fun x hx => by simp at hx; rcases hx with rfl | rfl <;> first | exact .str hk | exact h
  have r2 : Rt 5 (.tup [.str k', d']) := .tup (by simp) fun x hx => by simp at hx; rcases hx with rfl | rfl <;> first | exact .str hk' | exact h'
  have sh := r1.shape r2 (by omega) (by omega)
  simp [f_Play_eq, Vz0, Vz1, Vz2, Vz3, Vz4, Vz5, Vz6, kx, SZ, beq_self_eq_true, List.contains_cons, List.contains_nil, eP, ePo, isas_t, sh]
theorem Play_ne_tup (n : Nat) (k : Str) (d : D) (xs : List D) : callF prg (n + 1) 15 [eP k d, .tup xs] = pure (.bl false) := by
  refine eq_pure fun w => ?_
  rw [c_Play_eq]
  simp [f_Play_eq, Vz0, Vz1, Vz2, Vz3, Vz4, Vz5, Vz6, kx, SZ, beq_self_eq_true, List.contains_cons, List.contains_nil, eP, ePo, isas_t, isas_f]
theorem pair_rt {k : Str} {d : D} (hk : PyData.strOk k = true) (h : Rt 4 d) : Rt 5 (.tup [.str k, d]) := .tup (by simp) fun x hx => by simp at hx; rcases hx with rfl | rfl <;> first | exact .str hk | exact h
/-! ### what is made -/
end K02.B

set_option maxRecDepth 100000
set_option maxHeartbeats 1000000
namespace K02.B
open PySem Ev
/-! ### draws -/
theorem t_hand (n : Nat) (ns : List Int) (Q : D → Wd → Prop) (E : EK) (hq : ∀ w, HandOk w → Q (.cel 0) w) : wp (callF prg (n + 1) 53 [.scr ns]) [] Q E := by
  rw [c__law_hand]
  simp [f__law_hand, Vz0, Vz1, Vz2, Vz3, Vz4, Vz5, Vz6, kx, SZ, beq_self_eq_true, List.contains_cons, List.contains_nil]
  exact hq _ ⟨ns, 0, 0, _, 0, rfl, by omega⟩
theorem t_take (n : Nat) (many : Int) (w : Wd) (Q : D → Wd → Prop) (E : EK) (H : HandOk w) (h0 : 0 < many) (h1 : many < 1073741824) (hq : ∀ (r : Nat) w', (r : Int) < many → HandOk w' → Q (.int r) w') : wp (callF prg (n + 1) 54 [.cel 0, .int many]) w Q E := by
  rw [c__law_take, wp_endF]
  unfold f__law_take
  dsimp only
  have pw : (10 : Int) ^ (18 : Int).toNat = 1000000000000000000 := by decide
  refine wp_seq (fun e w => (e = [.val (.cel 0), .val (.int many), .un, .un, .un]) ∧ HandOk w) ?_ fun e w he => ?_
  · obtain ⟨xs, i, b, s, c, rfl, hi⟩ := H
    simp [Vz0, Vz1, Vz2, Vz3, Vz4, Vz5, Vz6, kx, SZ, beq_self_eq_true, List.contains_cons, List.contains_nil]
    exact ⟨xs, _, _, _, _, rfl, by omega⟩
  obtain ⟨rfl, H⟩ := he
  refine wp_seq (fun e w => (∃ j3, e = [.val (.cel 0), .val (.int many), .un, j3, .un]) ∧ HandOk w) ?_ fun e w he => ?_
  · obtain ⟨xs, i, b, s, c, rfl, hi⟩ := H
    by_cases hb : b = 0
    · by_cases hx : i < xs.length
      · obtain ⟨k, rfl⟩ := Int.eq_ofNat_of_zero_le hi
        have hk : k < xs.length := by omega
        have e1 : xs[k]? = some xs[k] := List.getElem?_eq_getElem hk
        have m1 : mulOk s 48271 := mulOk_r (by omega) (by omega)
        by_cases hc : (1000000000000000000 : Int) ≤ xs[k]
        · simp [Vz0, Vz1, Vz2, Vz3, Vz4, Vz5, Vz6, kx, SZ, beq_self_eq_true, List.contains_cons, List.contains_nil, hb, hk, e1, m1, hc]
          exact ⟨xs, _, _, _, _, rfl, by omega⟩
        · simp [Vz0, Vz1, Vz2, Vz3, Vz4, Vz5, Vz6, kx, SZ, beq_self_eq_true, List.contains_cons, List.contains_nil, hb, hk, e1, m1, hc]
          exact ⟨xs, _, _, _, _, rfl, by omega⟩
      · simp [Vz0, Vz1, Vz2, Vz3, Vz4, Vz5, Vz6, kx, SZ, beq_self_eq_true, List.contains_cons, List.contains_nil, hb, hx]
        exact ⟨xs, _, _, _, _, rfl, by omega⟩
    · simp [Vz0, Vz1, Vz2, Vz3, Vz4, Vz5, Vz6, kx, SZ, beq_self_eq_true, List.contains_cons, List.contains_nil, hb]
      exact ⟨xs, _, _, _, _, rfl, by omega⟩
  obtain ⟨⟨j3, rfl⟩, xs, i, b, s, c, rfl, hi⟩ := he
  have fin : ∀ (x : Int) w', HandOk w' → Q (.int (x % many)) w' := fun x w' hw => by
    have a1 := Int.emod_nonneg x (show many ≠ 0 by omega)
    have a2 := Int.emod_lt_of_pos x h0
    obtain ⟨r, hr⟩ := Int.eq_ofNat_of_zero_le a1
    rw [hr] at a2 ⊢
    exact hq r w' a2 hw
  by_cases hb : 0 < b
  · simp [Vz0, Vz1, Vz2, Vz3, Vz4, Vz5, Vz6, kx, SZ, beq_self_eq_true, List.contains_cons, List.contains_nil, hb, h0, h1]
    exact fin _ _ ⟨xs, _, _, _, _, rfl, by omega⟩
  · have m1 : ∀ x : Int, mulOk 7919 x := fun x => mulOk_l (by omega) (by omega)
    have m2 : ∀ x : Int, mulOk x 69621 := fun x => mulOk_r (by omega) (by omega)
    have m3 : ∀ x : Int, mulOk (x % 2147483647) (x % 2147483647 / 1009 + 69621) := fun x => mulOk_l (by omega) (by omega)
    have m4 : ∀ x : Int, mulOk (x % 2147483647) (x % 2147483647 / 2003 + 40692) := fun x => mulOk_l (by omega) (by omega)
    simp [Vz0, Vz1, Vz2, Vz3, Vz4, Vz5, Vz6, kx, SZ, beq_self_eq_true, List.contains_cons, List.contains_nil, hb, h0, h1, m1, m2, m3, m4]
    exact fin _ _ ⟨xs, _, _, _, _, rfl, by omega⟩
theorem t_pick (n : Nat) (xs : List D) (w : Wd) (Q : D → Wd → Prop) (E : EK) (H : HandOk w) (h0 : 0 < xs.length) (h1 : xs.length ≤ 100000) (hq : ∀ x w', x ∈ xs → HandOk w' → Q x w') : wp (callF prg (n + 2) 55 [.cel 0, .lst xs]) w Q E := by
  rw [c__law_pick]
  simp [f__law_pick, Vz0, Vz1, Vz2, Vz3, Vz4, Vz5, Vz6, kx, SZ, beq_self_eq_true, List.contains_cons, List.contains_nil]
  refine t_take n _ _ _ _ H (by omega) (by omega) fun r w2 hr H2 => ?_
  have hr' : r < xs.length := by omega
  simp [Vz0, Vz1, Vz2, Vz3, Vz4, Vz5, Vz6, kx, SZ, beq_self_eq_true, List.contains_cons, List.contains_nil, List.getElem?_eq_getElem hr']
  exact hq _ w2 (List.getElem_mem hr') H2
/-- one of so many whole numbers -/
theorem t_pickN (n : Nat) (ns : List Nat) (xs : List D) (e : xs = ns.map fun (m : Nat) => D.int (m : Int)) (w : Wd) (Q : D → Wd → Prop) (E : EK) (H : HandOk w) (h0 : 0 < ns.length) (h1 : ns.length ≤ 100000) (hq : ∀ m w', m ∈ ns → HandOk w' → Q (.int (m : Int)) w') : wp (callF prg (n + 2) 55 [.cel 0, .lst xs]) w Q E := by
  subst e
  refine t_pick n _ _ _ _ H (by simpa using h0) (by simpa using h1) fun x w' hx H' => ?_
  obtain ⟨m, hm, rfl⟩ := List.mem_map.mp hx
  exact hq m w' hm H'
theorem take_ok (xs : List D) (r : Nat) (h : r < xs.length) : xs[r]? = some xs[r] ∧ xs[r] ∈ xs := ⟨List.getElem?_eq_getElem h, List.getElem_mem h⟩
theorem Ob.mono : ∀ {m k : Nat} {d : D}, Ob m d → m ≤ k → Ob k d
  | 0, 0, d, h, _ => h
  | 0, k + 1, d, h, _ => .inl h
  | m + 1, 0, d, h, l => by omega
  | m + 1, k + 1, d, h, l => by
    rcases h with h | ⟨xs, e, h1, h2, h3⟩
    · exact .inl h
    · exact .inr ⟨xs, e, h1, fun x hx => (h2 x hx).mono (by omega), h3⟩
theorem ob_flat {m : Nat} {d : D} (h : flatOk d) : Ob m d := by cases m with | zero => exact h | succ m => exact .inl h
theorem ob_lst {m : Nat} {xs : List D} (h : xs.length ≤ 1000) (hx : ∀ x ∈ xs, Ob m x) : Ob (m + 1) (.lst xs) := .inr ⟨xs, .inr rfl, h, hx, fun _ _ e => by cases e⟩
theorem ob_tupn {m : Nat} {xs : List D} (h : xs.length ≤ 1000) (hx : ∀ x ∈ xs, Ob m x) (hs : ∀ x, xs.head? = some x → isStrD x = false) : Ob (m + 1) (.tup xs) := .inr ⟨xs, .inl rfl, h, hx, fun s r e => by
  cases e
  cases hs _ rfl⟩
theorem rt_nil {m : Nat} : Rt (m + 1) (.tup []) := .tup (by simp) fun _ h => by cases h
theorem rt_ints {m : Nat} {ns : List Int} (h : ns.length ≤ 1000) : Rt (m + 1) (.tup (ns.map .int)) := .tup (by simpa using h) fun x hx => by
  obtain ⟨i, _, rfl⟩ := List.mem_map.mp hx
  exact .int
theorem rt_see {m : Nat} : Rt (m + 1) (.tup [.str s4_see]) := .tup (by simp) fun x hx => by simp at hx; rw [hx]; exact .str (by simp)
end K02.B

set_option maxRecDepth 100000
set_option maxHeartbeats 1000000
namespace K02.B
open PySem Ev
/-! ### plays are drawn -/
def SpI (most : Int) (i : Nat) (e : Ev.Env) (w' : Wd) : Prop := HandOk w' ∧ ∃ (ds : List D) (j3 : Ev.Slot), e = [.val (.cel 0), .val (.int most), .own (.lst ds), j3] ∧ ds.length = i ∧ ∀ d ∈ ds, deedB d = true
theorem SpI.add {most : Int} {i : Nat} {w w' : Wd} {ds : List D} {j3 j3' : Ev.Slot} (H : HandOk w') (hl : ds.length = i) (hd : ∀ d ∈ ds, deedB d = true) {x : D} (hx : deedB x = true) : SpI most (i + 1) [.val (.cel 0), .val (.int most), .own (.lst (ds ++ [x])), j3'] w' := by
  refine ⟨H, ds ++ [x], j3', rfl, by simp [hl], fun d h => ?_⟩
  simp at h
  rcases h with h | rfl
  · exact hd d h
  · exact hx
theorem t_script_draw (n most : Nat) (hm : most ≤ 6) (w : Wd) (Q : D → Wd → Prop) (E : EK) (H : HandOk w) (hq : ∀ d w', scriptB d = true → HandOk w' → Q d w') : wp (callF prg (n + 3) 58 [.cel 0, .int (most : Int)]) w Q E := by
  rw [c__law_script]
  simp [f__law_script, Vz0, Vz1, Vz2, Vz3, Vz4, Vz5, Vz6, kx, SZ, beq_self_eq_true, List.contains_cons, List.contains_nil]
  refine t_take (n + 1) _ _ _ _ H (by omega) (by omega) fun r w2 hr H2 => ?_
  have rg : rngOk (r : Int) := rngOk_nat (by omega)
  simp [Vz0, Vz1, Vz2, Vz3, Vz4, Vz5, Vz6, kx, SZ, beq_self_eq_true, List.contains_cons, List.contains_nil, rg, rngD0]
  refine wp_forGo0 (SpI (most : Int)) ⟨H2, [], _, rfl, rfl, fun _ h => by cases h⟩ (fun i d e w' hd hi => ?_) fun e w' hi => ?_
  · obtain ⟨H3, ds, j3, rfl, hl, hd'⟩ := hi
    rw [List.getElem?_map] at hd
    obtain ⟨a, ha, rfl⟩ := Option.map_eq_some_iff.mp hd
    have hi6 : i < r := by
      have := (List.getElem?_eq_some_iff.mp ha).1
      simpa using this
    have ll : ds.length < 16777216 := by omega
    simp [Vz0, Vz1, Vz2, Vz3, Vz4, Vz5, Vz6, kx, SZ, beq_self_eq_true, List.contains_cons, List.contains_nil]
    refine t_take (n + 1) _ _ _ _ H3 (by omega) (by omega) fun r4 w4 hr4 H4 => ?_
    by_cases z : r4 = 0
    · subst z
      simp [Vz0, Vz1, Vz2, Vz3, Vz4, Vz5, Vz6, kx, SZ, beq_self_eq_true, List.contains_cons, List.contains_nil, ll]
      exact SpI.add (w := w4) (j3 := j3) H4 hl hd' (by simp [deedB])
    · simp [Vz0, Vz1, Vz2, Vz3, Vz4, Vz5, Vz6, kx, SZ, beq_self_eq_true, List.contains_cons, List.contains_nil, z, ll]
      refine t_take (n + 1) _ _ _ _ H4 (by omega) (by omega) fun r5 w5 hr5 H5 => ?_
      refine t_pickN n [0, 1, 2, 7, 999, r5] _ rfl _ _ _ H5 (by simp) (by simp) fun m w6 hm6 H6 => ?_
      have m9 : (m : Int) ≤ 999 := by
        simp at hm6
        omega
      exact SpI.add (w := w4) (j3 := j3) H6 hl hd' (by simp [deedB, intIn]; omega)
  · obtain ⟨H3, ds, j3, rfl, hl, hd⟩ := hi
    simp at hl
    simp [Vz0, Vz1, Vz2, Vz3, Vz4, Vz5, Vz6, kx, SZ, beq_self_eq_true, List.contains_cons, List.contains_nil]
    refine hq _ w' ?_ H3
    simp only [scriptB, Bool.and_eq_true, decide_eq_true_eq, List.all_eq_true]
    exact ⟨by omega, hd⟩
/-- a row of what is good -/
def RwP (p : D → Bool) (acc : List D) (w : Wd) : Prop := HandOk w ∧ ∀ d ∈ acc, p d = true
theorem RwP.add {p : D → Bool} {acc : List D} {w w' : Wd} (h : RwP p acc w) (H : HandOk w') {x : D} (hx : p x = true) : RwP p (acc ++ [x]) w' := by
  refine ⟨H, fun d hd => ?_⟩
  simp at hd
  rcases hd with hd | rfl
  · exact h.2 d hd
  · exact hx
theorem row_tt {p : D → Bool} {xs : List D} (h1 : 1 ≤ xs.length) (h5 : xs.length ≤ 5) (h : ∀ d ∈ xs, p d = true) : rowB p (.tup xs) = true := by
  simp only [rowB, Bool.and_eq_true, decide_eq_true_eq, List.all_eq_true]
  exact ⟨⟨by omega, by omega⟩, h⟩
/-- what a play is made of -/
def PlayOk (x : D) : Prop := ∃ k d, x = .tup [.str k, d] ∧ kindS k = true ∧ inputsB k d = true ∧ Ob 4 d
theorem pick_many (n : Nat) (w : Wd) (xs : List D) (ns : List Nat) (e : xs = ns.map fun (m : Nat) => D.int (m : Int)) (hn : ∀ m ∈ ns, 1 ≤ m ∧ m ≤ 6) (hl : ns ≠ []) (hl2 : ns.length ≤ 100) (Q : D → Wd → Prop) (E : EK) (H : HandOk w) (hq : ∀ (m : Nat) w', m ∈ ns → 1 ≤ m → m ≤ 6 → HandOk w' → Q (.int (m : Int)) w') : wp (callF prg (n + 2) 55 [.cel 0, .lst xs]) w Q E :=
  t_pickN n ns xs e w Q E H (List.length_pos_iff.mpr hl) (by omega) fun m w' h H' => hq m w' h (hn m h).1 (hn m h).2 H'
theorem manner_play {k : Str} {xs : List D} (hk : mannS k = true) (h1 : 1 ≤ xs.length) (h5 : xs.length ≤ 5) (h : ∀ d ∈ xs, scriptB d = true) : PlayOk (.tup [.str k, .tup xs]) := by
  refine ⟨k, _, rfl, by simp [kindS, hk], by simp only [inputsB, hk, if_true]; exact row_tt h1 h5 h, ?_⟩
  exact Rt.ob (.tup (by omega) fun x hx => (script_rt (h x hx)).mono (by omega)) (by omega)
theorem t_manner_draw (n : Nat) (w : Wd) (Q : D → Wd → Prop) (E : EK) (H : HandOk w) (hq : ∀ x w', PlayOk x → HandOk w' → Q x w') : wp (callF prg (n + 4) 59 [.cel 0]) w Q E := by
  rw [c__law_manner]
  simp [f__law_manner, Vz0, Vz1, Vz2, Vz3, Vz4, Vz5, Vz6, kx, SZ, beq_self_eq_true, List.contains_cons, List.contains_nil]
  refine pick_many (n + 1) _ _ [1, 2, 2, 3, 3, 4, 5] rfl (by decide) (by simp) (by simp) _ _ H fun many w2 hmm h1 _ H2 => ?_
  have h5 : many ≤ 5 := by simp at hmm; omega
  simp [Vz0, Vz1, Vz2, Vz3, Vz4, Vz5, Vz6, kx, SZ, beq_self_eq_true, List.contains_cons, List.contains_nil]
  refine pick_many (n + 1) _ _ [1, 2, 3, 6] rfl (by decide) (by simp) (by simp) _ _ H2 fun most w3 _ _ h6 H3 => ?_
  refine t_pick (n + 1) _ _ _ _ H3 (by simp) (by simp) fun k w4 hk H4 => ?_
  obtain ⟨k, rfl, hk2⟩ : ∃ s, k = .str s ∧ mannS s = true := by
    simp at hk
    rcases hk with rfl | rfl | rfl <;> exact ⟨_, rfl, by simp [mannS]⟩
  have rg : rngOk (many : Int) := rngOk_nat (by omega)
  simp [Vz0, Vz1, Vz2, Vz3, Vz4, Vz5, Vz6, kx, SZ, beq_self_eq_true, List.contains_cons, List.contains_nil, rg, rngD0]
  refine ⟨by omega, wp_lcGo (RwP scriptB) _ [] _ _ ⟨H4, fun _ h => by cases h⟩ (fun acc w d hd hi => ?_) fun ys w hl hi => ?_⟩
  · obtain ⟨a, ha, rfl⟩ := List.mem_map.mp hd
    simp [Vz0, Vz1, Vz2, Vz3, Vz4, Vz5, Vz6, kx, SZ, beq_self_eq_true, List.contains_cons, List.contains_nil]
    refine t_script_draw n most h6 _ _ _ hi.1 fun d w5 hd5 H5 => ?_
    exact hi.add H5 hd5
  · obtain ⟨H5, hp⟩ := hi
    simp at hl hp
    exact hq _ w (manner_play hk2 (by omega) (by omega) hp) H5
theorem ints_play {k : Str} {xs : List D} (hk : k = s10_levels) (h1 : 1 ≤ xs.length) (h5 : xs.length ≤ 5) (h : ∀ d ∈ xs, intIn d 0 999 = true) : PlayOk (.tup [.str k, .tup xs]) := by
  subst hk
  refine ⟨_, _, rfl, by simp [kindS], ?_, ?_⟩
  · have : inputsB s10_levels (.tup xs) = rowB (fun x => intIn x 0 999) (.tup xs) := by simp [inputsB, mannS]
    rw [this]
    exact row_tt h1 h5 h
  · exact Rt.ob (.tup (by omega) fun x hx => int_rt (h x hx)) (by omega)
theorem ddup_nd : ∀ {l : List Int}, l.Nodup → ddup l = l
  | [], _ => rfl
  | a :: r, h => by
    have hc := List.nodup_cons.mp h
    rw [ddup, if_neg hc.1, ddup_nd hc.2]
theorem names_play {ns : List Int} (h1 : 1 ≤ ns.length) (h5 : ns.length ≤ 5) (h : ∀ i ∈ ns, 0 ≤ i ∧ i < 1000) (nd : ns.Nodup) : PlayOk (.tup [.str s11_names, .tup (ns.map .int)]) := by
  refine ⟨_, _, rfl, by simp [kindS], ?_, (rt_ints (by omega)).ob (by omega)⟩
  have : inputsB s11_names (.tup (ns.map .int)) = (rowB (fun x => intIn x 0 999) (.tup (ns.map .int)) && onceB (.tup (ns.map .int))) := by simp [inputsB, mannS]
  rw [this, row_tt (by simpa using h1) (by simpa using h5) fun d hd => ?_, once_ints, ddup_nd nd]
  · simp
  · obtain ⟨i, hi, rfl⟩ := List.mem_map.mp hd
    have := h i hi
    simp [intIn]
    omega
theorem near_play {r : D} {xs : List D} (hr : intIn r 1 6 = true) (h1 : 1 ≤ xs.length) (h5 : xs.length ≤ 5) (h : ∀ d ∈ xs, intIn d (-1000) 1000 = true) : PlayOk (.tup [.str s13_near, .tup [r, .tup xs]]) := by
  refine ⟨_, _, rfl, by simp [kindS], ?_, ?_⟩
  · have : inputsB s13_near (.tup [r, .tup xs]) = (intIn r 1 6 && rowB (fun x => intIn x (-1000) 1000) (.tup xs)) := by simp [inputsB, mannS, nearB]
    rw [this, hr, row_tt h1 h5 h]
    rfl
  · refine Rt.ob (.tup (by simp) fun x hx => ?_) (by omega)
    simp at hx
    rcases hx with rfl | rfl
    · exact int_rt hr
    · exact .tup (by omega) fun x hx => int_rt (h x hx)
theorem chain_play {xs : List D} (h1 : 1 ≤ xs.length) (h5 : xs.length ≤ 5) (h : ∀ d ∈ xs, lotB d = true ∧ Rt 1 d) : PlayOk (.tup [.str s12_chain, .tup xs]) := by
  refine ⟨_, _, rfl, by simp [kindS], ?_, ?_⟩
  · have : inputsB s12_chain (.tup xs) = rowB lotB (.tup xs) := by simp [inputsB, mannS]
    rw [this]
    exact row_tt h1 h5 fun d hd => (h d hd).1
  · exact Rt.ob (.tup (by omega) fun x hx => (h x hx).2.mono (by omega)) (by omega)
theorem asc_lot {l : List Int} (h : l.Pairwise (· < ·)) (hb : ∀ i ∈ l, 0 ≤ i ∧ i ≤ 19) : lotB (.tup (l.map .int)) = true := by
  refine (lot_iff _).mpr ⟨fun j x e => ?_, fun j x y e1 e2 => ?_⟩
  · rw [List.getElem?_map] at e
    obtain ⟨i, hi, rfl⟩ := Option.map_eq_some_iff.mp e
    have := hb i (List.mem_of_getElem? hi)
    simp [intIn]
    omega
  · rw [List.getElem?_map] at e1 e2
    obtain ⟨i, hi, rfl⟩ := Option.map_eq_some_iff.mp e1
    obtain ⟨i2, hi2, rfl⟩ := Option.map_eq_some_iff.mp e2
    obtain ⟨q1, rfl⟩ := List.getElem?_eq_some_iff.mp hi
    obtain ⟨q2, rfl⟩ := List.getElem?_eq_some_iff.mp hi2
    have := List.pairwise_iff_getElem.mp h j (j + 1) q1 q2 (by omega)
    simp [ltD]
    exact this
/-- a comprehension whose test changes things: before turn i stands I i -/
theorem wp_lcGoC {f : Ev.Env → M D} {c : Ev.Env → M Bool} {tg : Tg} {e : Ev.Env} {E : EK} (I : Nat → List D → Wd → Prop) : ∀ (ds : List D) (k : Nat) (acc : List D) (w : Wd) (Q : List D → Wd → Prop), I k acc w →
    (∀ i acc w d, ds[i]? = some d → I (k + i) acc w → ∃ e', bindTg tg d e = some e' ∧ wp (c e') w (fun b w' => match b with
      | true => wp (f e') w' (fun y w2 => I (k + i + 1) (acc ++ [y]) w2) E
      | false => I (k + i + 1) acc w') E) → (∀ ys w, I (k + ds.length) (acc ++ ys) w → Q ys w) → wp (lcGo f c tg e ds) w Q E
  | [], k, acc, w, Q, h0, _, hQ => by
    rw [lcGo, wp_pure]
    exact hQ [] w (by simpa using h0)
  | d :: r, k, acc, w, Q, h0, hs, hQ => by
    obtain ⟨e', h1, h2⟩ := hs 0 acc w d rfl h0
    rw [lcGo, h1]
    dsimp only
    rw [wp_bind]
    have st : ∀ i acc w d, r[i]? = some d → I (k + 1 + i) acc w → ∃ e', bindTg tg d e = some e' ∧ wp (c e') w (fun b w' => match b with
      | true => wp (f e') w' (fun y w2 => I (k + 1 + i + 1) (acc ++ [y]) w2) E
      | false => I (k + 1 + i + 1) acc w') E := fun i acc w d hd hi => by
      have q := hs (i + 1) acc w d (by simpa using hd) (by rw [show k + (i + 1) = k + 1 + i from by omega]; exact hi)
      rw [show k + (i + 1) = k + 1 + i from by omega] at q
      exact q
    refine wp_mono h2 (fun b w' hb => ?_) fun c x w' h => h
    cases b with
    | true =>
      dsimp only at hb ⊢
      rw [wp_bind]
      refine wp_mono hb (fun y w2 hy => ?_) fun c x w' h => h
      rw [wp_bind]
      refine wp_lcGoC I r (k + 1) (acc ++ [y]) w2 _ hy st fun ys w hi => ?_
      rw [wp_pure]
      refine hQ _ _ ?_
      rw [List.length_cons, show k + (r.length + 1) = k + 1 + r.length from by omega]
      simpa using hi
    | false =>
      dsimp only at hb ⊢
      refine wp_lcGoC I r (k + 1) acc w' _ hb st fun ys w hi => hQ _ _ ?_
      rw [List.length_cons, show k + (r.length + 1) = k + 1 + r.length from by omega]
      exact hi
/-- an ascending lot below i -/
def LotI (i : Nat) (acc : List D) (w : Wd) : Prop := HandOk w ∧ ∃ l : List Int, acc = l.map .int ∧ l.Pairwise (· < ·) ∧ (∀ x ∈ l, 0 ≤ x ∧ x < (i : Int)) ∧ l.length ≤ i
def LtsI (turn many : Int) (i : Nat) (e : Ev.Env) (w' : Wd) : Prop := HandOk w' ∧ ∃ (rows : List D) (j6 j7 : Ev.Slot), e = [.val (.cel 0), .val (.int turn), .val (.int many), .un, .un, .own (.lst rows), j6, j7] ∧ zwS (some j7) = true ∧ rows.length = i ∧ ∀ d ∈ rows, lotB d = true ∧ Rt 1 d
end K02.B

set_option maxRecDepth 100000
set_option maxHeartbeats 1000000
namespace K02
open PySem Ev
/-! ### checks -/
theorem t_is_integer (n : Nat) (i : Int) : callF prg (n + 1) 1 [.int i] = pure (.bl true) := by
  refine eq_pure fun w => ?_
  rw [c_is_integer]
  simp [f_is_integer, Vz0, Vz1, Vz2, Vz3, Vz4, Vz5, Vz6, kx, SZ, beq_self_eq_true, List.contains_cons, List.contains_nil]
theorem t_is_within (n : Nat) (i lo hi : Int) : callF prg (n + 2) 2 [.int i, .int lo, .int hi] = pure (.bl (decide (lo ≤ i ∧ i ≤ hi))) := by
  refine eq_pure fun w => ?_
  rw [c_is_within]
  simp [f_is_within, Vz0, Vz1, Vz2, Vz3, Vz4, Vz5, Vz6, kx, SZ, beq_self_eq_true, List.contains_cons, List.contains_nil, t_is_integer]
  by_cases h : lo ≤ i <;> simp [h, Vz0, Vz1, Vz2, Vz3, Vz4, Vz5, Vz6, kx, SZ, beq_self_eq_true, List.contains_cons, List.contains_nil]
theorem t_is_below (n : Nat) (i m : Int) : callF prg (n + 3) 3 [.int i, .int m] = pure (.bl (decide (0 ≤ i ∧ i < m))) := by
  refine eq_pure fun w => ?_
  rw [c_is_below]
  simp [f_is_below, Vz0, Vz1, Vz2, Vz3, Vz4, Vz5, Vz6, kx, SZ, beq_self_eq_true, List.contains_cons, List.contains_nil, t_is_within, Int.le_sub_one_iff]
theorem t_is_sized (n : Nat) (xs : List D) (lo hi : Int) : callF prg (n + 1) 4 [.tup xs, .int lo, .int hi] = pure (.bl (decide (lo ≤ xs.length ∧ xs.length ≤ hi))) := by
  refine eq_pure fun w => ?_
  rw [c_is_sized]
  simp [f_is_sized, Vz0, Vz1, Vz2, Vz3, Vz4, Vz5, Vz6, kx, SZ, beq_self_eq_true, List.contains_cons, List.contains_nil]
  by_cases h : lo ≤ xs.length <;> simp [h, Vz0, Vz1, Vz2, Vz3, Vz4, Vz5, Vz6, kx, SZ, beq_self_eq_true, List.contains_cons, List.contains_nil]
theorem t_replaced (n : Nat) (xs : List D) (k : Nat) (x : D) (h : k < xs.length) (hs : xs.length ≤ 1000) : callF prg (n + 1) 6 [.tup xs, .int k, x] = pure (.tup (xs.set k x)) := by
  refine eq_pure fun w => ?_
  rw [c_replaced]
  simp [f_replaced, Vz0, Vz1, Vz2, Vz3, Vz4, Vz5, Vz6, kx, SZ, beq_self_eq_true, List.contains_cons, List.contains_nil, take_drop_set h]
  omega
end K02

set_option maxRecDepth 100000
set_option maxHeartbeats 1000000
namespace K02
open PySem Ev
/-! ### typed things -/
inductive Kd where | sweep | twice | borrow
  deriving DecidableEq
inductive Deed where | see | put (v : Int)
  deriving DecidableEq
abbrev Pic := List (Int × Int)
structure Cell where
  n : Int
  v : Int
  p : Option Pic
  deriving DecidableEq
structure St where
  done : Nat
  first : Option (List Int)
  last : Option (List Int)
  now : List Cell
  ready : Option Pic
  deriving DecidableEq
structure Sg where
  cells : List Cell
  states : List (Option St)
  told : List (List Pic)
  deriving DecidableEq
def eKd : Kd → D
  | .sweep => .str s8_sweep | .twice => .str s7_twice | .borrow => .str s6_borrow
def eDeed : Deed → D
  | .see => .tup [.str s4_see] | .put v => .tup [.str s5_put, .int v]
def eSc (s : List Deed) : D := .tup (s.map eDeed)
def eRows (r : List (List Deed)) : D := .tup (r.map eSc)
def ePl (k : Kd) (r : List (List Deed)) : D := .ins 0 [(s3_kind, eKd k), (s2_inputs, eRows r), (s1_rows, eRows r)]
def eNV (x : Int × Int) : D := .tup [.int x.1, .int x.2]
def ePic (p : Pic) : D := .tup (p.map eNV)
def eIs (l : List Int) : D := .tup (l.map .int)
def eCell (c : Cell) : D := .tup [.int c.n, .int c.v, eO ePic c.p]
def eCells (cs : List Cell) : D := .tup (cs.map eCell)
def eSt (s : St) : D := .tup [.int s.done, eO eIs s.first, eO eIs s.last, eCells s.now, eO ePic s.ready]
def eTold (t : List Pic) : D := .tup (t.map ePic)
def eSg (s : Sg) : D := .tup [eCells s.cells, .tup (s.states.map (eO eSt)), .tup (s.told.map eTold)]
/-! ### looked at -/
def uS (ts : List Tg) (e : Ev.Env) (ds : List D) : Option Ev.Env := bindTg.go ts ds e
theorem d_ePl {k : Kd} {r : List (List Deed)} : der (ePl k r) = pure (ePl k r) := id rfl
theorem q_kind {n : Nat} {k : Kd} {r : List (List Deed)} : fldD (cg n) s3_kind (ePl k r) = pure (eKd k) := by simp [ePl, Vz0, Vz1, Vz2, Vz3, Vz4, Vz5, Vz6, kx, SZ, beq_self_eq_true, List.contains_cons, List.contains_nil]
theorem q_inputs {n : Nat} {k : Kd} {r : List (List Deed)} : fldD (cg n) s2_inputs (ePl k r) = pure (eRows r) := by simp [ePl, Vz0, Vz1, Vz2, Vz3, Vz4, Vz5, Vz6, kx, SZ, beq_self_eq_true, List.contains_cons, List.contains_nil]
theorem q_rows {n : Nat} {k : Kd} {r : List (List Deed)} : fldD (cg n) s1_rows (ePl k r) = pure (eRows r) := by simp [ePl, Vz0, Vz1, Vz2, Vz3, Vz4, Vz5, Vz6, kx, SZ, beq_self_eq_true, List.contains_cons, List.contains_nil]
theorem d_eKd {k : Kd} : der (eKd k) = pure (eKd k) := by cases k <;> rfl
theorem i_eKd {k : Kd} : isIns (eKd k) = false := by cases k <;> rfl
theorem e_eKd {k l : Kd} : D.eqv (eKd k) (eKd l) = decide (k = l) := by cases k <;> cases l <;> simp [eKd, Vz0, Vz1, Vz2, Vz3, Vz4, Vz5, Vz6, kx, SZ, beq_self_eq_true, List.contains_cons, List.contains_nil]
theorem h_eKd {k l : Kd} : shape2 (eKd k) (eKd l) = true := by cases k <;> cases l <;> simp [eKd, Vz0, Vz1, Vz2, Vz3, Vz4, Vz5, Vz6, kx, SZ, beq_self_eq_true, List.contains_cons, List.contains_nil]
theorem n_sweep : D.str s8_sweep = eKd .sweep := rfl
theorem n_twice : D.str s7_twice = eKd .twice := rfl
theorem n_borrow : D.str s6_borrow = eKd .borrow := rfl
theorem d_eRows {r : List (List Deed)} : der (eRows r) = pure (eRows r) := id rfl
theorem x_eRows {r : List (List Deed)} {h : Nat} : idxop (eRows r) (.int h) = ofO ((r[h]?).map eSc) := by simp [eRows, Vz0, Vz1, Vz2, Vz3, Vz4, Vz5, Vz6, kx, SZ, beq_self_eq_true, List.contains_cons, List.contains_nil]
theorem l_eRows {r : List (List Deed)} : b1op .len (eRows r) = pure (.int r.length) := by simp [eRows, Vz0, Vz1, Vz2, Vz3, Vz4, Vz5, Vz6, kx, SZ, beq_self_eq_true, List.contains_cons, List.contains_nil]
theorem t_eRows {r : List (List Deed)} : itemsOf (eRows r) = pure (r.map eSc) := id rfl
theorem d_eSc {r : List Deed} : der (eSc r) = pure (eSc r) := id rfl
theorem x_eSc {r : List Deed} {h : Nat} : idxop (eSc r) (.int h) = ofO ((r[h]?).map eDeed) := by simp [eSc, Vz0, Vz1, Vz2, Vz3, Vz4, Vz5, Vz6, kx, SZ, beq_self_eq_true, List.contains_cons, List.contains_nil]
theorem l_eSc {r : List Deed} : b1op .len (eSc r) = pure (.int r.length) := by simp [eSc, Vz0, Vz1, Vz2, Vz3, Vz4, Vz5, Vz6, kx, SZ, beq_self_eq_true, List.contains_cons, List.contains_nil]
theorem d_eDeed {d : Deed} : der (eDeed d) = pure (eDeed d) := by cases d <;> rfl
/-- the word of a deed -/
def wd : Deed → D
  | .see => .str s4_see | .put _ => .str s5_put
theorem x_eDeed {d : Deed} : idxop (eDeed d) (.int 0) = pure (wd d) := by cases d <;> simp [eDeed, wd, Vz0, Vz1, Vz2, Vz3, Vz4, Vz5, Vz6, kx, SZ, beq_self_eq_true, List.contains_cons, List.contains_nil]
theorem x_eDeed1 {v : Int} : idxop (eDeed (.put v)) (.int 1) = pure (.int v) := by simp [eDeed, Vz0, Vz1, Vz2, Vz3, Vz4, Vz5, Vz6, kx, SZ, beq_self_eq_true, List.contains_cons, List.contains_nil]
theorem d_eCells {cs : List Cell} : der (eCells cs) = pure (eCells cs) := id rfl
theorem x_eCells {cs : List Cell} {h : Nat} : idxop (eCells cs) (.int h) = ofO ((cs[h]?).map eCell) := by simp [eCells, Vz0, Vz1, Vz2, Vz3, Vz4, Vz5, Vz6, kx, SZ, beq_self_eq_true, List.contains_cons, List.contains_nil]
theorem l_eCells {cs : List Cell} : b1op .len (eCells cs) = pure (.int cs.length) := by simp [eCells, Vz0, Vz1, Vz2, Vz3, Vz4, Vz5, Vz6, kx, SZ, beq_self_eq_true, List.contains_cons, List.contains_nil]
theorem t_eCells {cs : List Cell} : itemsOf (eCells cs) = pure (cs.map eCell) := id rfl
theorem a_eCells {cs : List Cell} {c : Cell} : binop .add (eCells cs) (.tup [eCell c]) = grd (cs.length + 1 ≤ SZ) (pure (eCells (cs ++ [c]))) := by unfold eCells; rw [b_addt]; unfold grd; simp
theorem d_eCell {c : Cell} : der (eCell c) = pure (eCell c) := id rfl
theorem x_eCell0 {c : Cell} : idxop (eCell c) (.int 0) = pure (.int c.n) := by simp [eCell, Vz0, Vz1, Vz2, Vz3, Vz4, Vz5, Vz6, kx, SZ, beq_self_eq_true, List.contains_cons, List.contains_nil]
theorem x_eCell1 {c : Cell} : idxop (eCell c) (.int 1) = pure (.int c.v) := by simp [eCell, Vz0, Vz1, Vz2, Vz3, Vz4, Vz5, Vz6, kx, SZ, beq_self_eq_true, List.contains_cons, List.contains_nil]
theorem x_eCell2 {c : Cell} : idxop (eCell c) (.int 2) = pure (eO ePic c.p) := by simp [eCell, Vz0, Vz1, Vz2, Vz3, Vz4, Vz5, Vz6, kx, SZ, beq_self_eq_true, List.contains_cons, List.contains_nil]
theorem s_eCell {c : Cell} : sliop (eCell c) none (some 2) = pure (eNV (c.n, c.v)) := by simp [eCell, eNV, Vz0, Vz1, Vz2, Vz3, Vz4, Vz5, Vz6, kx, SZ, beq_self_eq_true, List.contains_cons, List.contains_nil]
theorem d_eSt {s : St} : der (eSt s) = pure (eSt s) := id rfl
theorem x_eSt0 {s : St} : idxop (eSt s) (.int 0) = pure (.int s.done) := by simp [eSt, Vz0, Vz1, Vz2, Vz3, Vz4, Vz5, Vz6, kx, SZ, beq_self_eq_true, List.contains_cons, List.contains_nil]
theorem x_eSt1 {s : St} : idxop (eSt s) (.int 1) = pure (eO eIs s.first) := by simp [eSt, Vz0, Vz1, Vz2, Vz3, Vz4, Vz5, Vz6, kx, SZ, beq_self_eq_true, List.contains_cons, List.contains_nil]
theorem x_eSt2 {s : St} : idxop (eSt s) (.int 2) = pure (eO eIs s.last) := by simp [eSt, Vz0, Vz1, Vz2, Vz3, Vz4, Vz5, Vz6, kx, SZ, beq_self_eq_true, List.contains_cons, List.contains_nil]
theorem x_eSt3 {s : St} : idxop (eSt s) (.int 3) = pure (eCells s.now) := by simp [eSt, Vz0, Vz1, Vz2, Vz3, Vz4, Vz5, Vz6, kx, SZ, beq_self_eq_true, List.contains_cons, List.contains_nil]
theorem x_eSt4 {s : St} : idxop (eSt s) (.int 4) = pure (eO ePic s.ready) := by simp [eSt, Vz0, Vz1, Vz2, Vz3, Vz4, Vz5, Vz6, kx, SZ, beq_self_eq_true, List.contains_cons, List.contains_nil]
theorem b_eSt {s : St} {ts : List Tg} {e : Ev.Env} : bindTg (.t ts) (eSt s) e = bindTg.go ts [.int s.done, eO eIs s.first, eO eIs s.last, eCells s.now, eO ePic s.ready] e := by rw [eSt, bi_t]
theorem d_eSg {s : Sg} : der (eSg s) = pure (eSg s) := id rfl
theorem x_eSg0 {s : Sg} : idxop (eSg s) (.int 0) = pure (eCells s.cells) := by simp [eSg, Vz0, Vz1, Vz2, Vz3, Vz4, Vz5, Vz6, kx, SZ, beq_self_eq_true, List.contains_cons, List.contains_nil]
theorem x_eSg1 {s : Sg} : idxop (eSg s) (.int 1) = pure (.tup (s.states.map (eO eSt))) := by simp [eSg, Vz0, Vz1, Vz2, Vz3, Vz4, Vz5, Vz6, kx, SZ, beq_self_eq_true, List.contains_cons, List.contains_nil]
theorem x_eSg2 {s : Sg} : idxop (eSg s) (.int 2) = pure (.tup (s.told.map eTold)) := by simp [eSg, Vz0, Vz1, Vz2, Vz3, Vz4, Vz5, Vz6, kx, SZ, beq_self_eq_true, List.contains_cons, List.contains_nil]
theorem b_eSg {s : Sg} {ts : List Tg} {e : Ev.Env} : bindTg (.t ts) (eSg s) e = bindTg.go ts [eCells s.cells, .tup (s.states.map (eO eSt)), .tup (s.told.map eTold)] e := by rw [eSg, bi_t]
theorem d_ePic {p : Pic} : der (ePic p) = pure (ePic p) := id rfl
theorem i_ePic {p : Pic} : isIns (ePic p) = false := id rfl
theorem d_eIs {p : List Int} : der (eIs p) = pure (eIs p) := id rfl
theorem i_eIs {p : List Int} : isIns (eIs p) = false := id rfl
theorem n_eIs {p : List Int} : isNon (eIs p) = false := id rfl
theorem n_ePic {p : Pic} : isNon (ePic p) = false := id rfl
theorem n_eSt {p : St} : isNon (eSt p) = false := id rfl
theorem o_ePic {p : Option Pic} : isNon (eO ePic p) = p.isNone := non_eO fun _ => rfl
theorem o_eIs {p : Option (List Int)} : isNon (eO eIs p) = p.isNone := non_eO fun _ => rfl
theorem o_eSt {p : Option St} : isNon (eO eSt p) = p.isNone := non_eO fun _ => rfl
theorem od_ePic {p : Option Pic} : der (eO ePic p) = pure (eO ePic p) := der_eO fun _ => rfl
theorem od_eIs {p : Option (List Int)} : der (eO eIs p) = pure (eO eIs p) := der_eO fun _ => rfl
theorem od_eSt {p : Option St} : der (eO eSt p) = pure (eO eSt p) := der_eO fun _ => rfl
theorem oi_ePic {p : Option Pic} : isIns (eO ePic p) = false := ins_eO fun _ => rfl
theorem oi_eIs {p : Option (List Int)} : isIns (eO eIs p) = false := ins_eO fun _ => rfl
theorem oi_eSt {p : Option St} : isIns (eO eSt p) = false := ins_eO fun _ => rfl
theorem i_eSt {s : St} : isIns (eSt s) = false := id rfl
theorem i_eCells {s : List Cell} : isIns (eCells s) = false := id rfl
/-! ### what == says of them -/
theorem pl_eIs (l : List Int) : (eIs l).pl = true := by
  unfold eIs
  rw [pl_tup]
  intro x hx
  obtain ⟨i, _, rfl⟩ := List.mem_map.mp hx
  rfl
theorem ok_eIs (l : List Int) : (eIs l).ok 1 = true := by
  unfold eIs
  rw [ok_tup]
  intro x hx
  obtain ⟨i, _, rfl⟩ := List.mem_map.mp hx
  exact ok_int
theorem inj_eIs (a b : List Int) (h : eIs a = eIs b) : a = b := by
  unfold eIs at h
  simp only [D.tup.injEq] at h
  exact (List.map_inj_right fun x y e => by cases e; rfl).mp h
theorem pl_ePic (p : Pic) : (ePic p).pl = true := by
  unfold ePic
  rw [pl_tup]
  intro x hx
  obtain ⟨i, _, rfl⟩ := List.mem_map.mp hx
  rfl
theorem ok_ePic (p : Pic) : (ePic p).ok 2 = true := by
  unfold ePic
  rw [ok_tup]
  intro x hx
  obtain ⟨i, _, rfl⟩ := List.mem_map.mp hx
  unfold eNV
  rw [ok_tup]
  intro x hx
  simp only [List.mem_cons, List.not_mem_nil, or_false] at hx
  rcases hx with rfl | rfl <;> exact ok_int
theorem inj_ePic (a b : Pic) (h : ePic a = ePic b) : a = b := by
  unfold ePic at h
  simp only [D.tup.injEq] at h
  refine (List.map_inj_right fun x y e => ?_).mp h
  obtain ⟨x1, x2⟩ := x
  obtain ⟨y1, y2⟩ := y
  unfold eNV at e
  simp at e
  simp [e]
theorem pl_eO {α : Type} {f : α → D} (h : ∀ a, (f a).pl = true) (o : Option α) : (eO f o).pl = true := by
  cases o with
  | none => rfl
  | some a => exact h a
theorem ok_eO {α : Type} {f : α → D} {k : Nat} (h : ∀ a, (f a).ok k = true) (o : Option α) : (eO f o).ok k = true := by
  cases o with
  | none => exact ok_non
  | some a => exact h a
theorem inj_eO {α : Type} {f : α → D} (h : ∀ a b, f a = f b → a = b) (hn : ∀ a, isNon (f a) = false) (a b : Option α) (e : eO f a = eO f b) : a = b := by
  cases a with
  | none => cases b with
    | none => rfl
    | some b => exact absurd (hn b) (by rw [show f b = .non from e.symm]; simp [isNon])
  | some a => cases b with
    | none => exact absurd (hn a) (by rw [show f a = .non from e]; simp [isNon])
    | some b => rw [h a b e]
theorem e_oIs {a b : Option (List Int)} : D.eqv (eO eIs a) (eO eIs b) = decide (a = b) := eqv_enc _ (inj_eO inj_eIs fun _ => rfl) (pl_eO pl_eIs) a b
theorem e_oIs1 {a : Option (List Int)} {b : List Int} : D.eqv (eO eIs a) (eIs b) = decide (a = some b) := e_oIs (b := some b)
theorem h_oIs1 {a : Option (List Int)} {b : List Int} : shape2 (eO eIs a) (eIs b) = true := shape_ok (ok_eO ok_eIs a) (ok_eIs b) (by omega) (by omega)
theorem e_ePic {a b : Pic} : D.eqv (ePic a) (ePic b) = decide (a = b) := eqv_enc _ inj_ePic pl_ePic a b
theorem h_ePic {a b : Pic} : shape2 (ePic a) (ePic b) = true := shape_ok (ok_ePic a) (ok_ePic b) (by omega) (by omega)
/-! ### what the manners do -/
def isPutM (k : Kd) : Deed → Option Pic → Bool
  | .see, _ => false
  | .put _, r => k != .borrow || r.isSome
def freshM (sc : List Deed) (d : Nat) : Option St := if d < sc.length then some ⟨d, none, none, [], none⟩ else none
def nums (cs : List Cell) : List Int := cs.map (·.n)
def pict (cs : List Cell) : Pic := cs.map fun c => (c.n, c.v)
def lentM : List Int → List Cell → Option Pic
  | n :: ns, c :: cs => if n + 2 ≤ c.n then c.p else lentM ns cs
  | _, _ => none
def resultM (k : Kd) (first last : Option (List Int)) (cs : List Cell) : Option Pic :=
  if k = .sweep ∨ last = some (nums cs) then some (pict cs) else if k = .borrow then (match first with | some f => lentM f cs | none => none) else none
theorem t_fresh (n : Nat) (k : Kd) (rows : List (List Deed)) (h d : Nat) (sc : List Deed) (hh : rows[h]? = some sc) : callF prg (n + 1) 22 [ePl k rows, .int h, .int d] = pure (eO eSt (freshM sc d)) := by
  refine eq_pure fun w => ?_
  rw [c_fresh]
  unfold freshM
  by_cases hd : d < sc.length <;> simp [f_fresh, Vz0, Vz1, Vz2, Vz3, Vz4, Vz5, Vz6, kx, SZ, beq_self_eq_true, List.contains_cons, List.contains_nil, d_ePl, q_kind, q_inputs, q_rows, d_eKd, i_eKd, e_eKd, h_eKd, n_sweep, n_twice, n_borrow, d_eRows, x_eRows, l_eRows, t_eRows, d_eSc, x_eSc, l_eSc, d_eDeed, x_eDeed, x_eDeed1, d_eCells, x_eCells, l_eCells, t_eCells, a_eCells, d_eCell, x_eCell0, x_eCell1, x_eCell2, s_eCell, d_eSt, x_eSt0, x_eSt1, x_eSt2, x_eSt3, x_eSt4, b_eSt, d_eSg, x_eSg0, x_eSg1, x_eSg2, b_eSg, d_ePic, i_ePic, d_eIs, i_eIs, o_ePic, o_eIs, o_eSt, od_ePic, od_eIs, od_eSt, oi_ePic, oi_eIs, oi_eSt, i_eSt, i_eCells, e_oIs, e_oIs1, h_oIs1, e_ePic, h_ePic, n_eIs, n_ePic, n_eSt, hh, hd, eO, eSt, eCells]
theorem t_fresh1 (n : Nat) (k : Kd) (rows : List (List Deed)) (h d : Nat) (sc : List Deed) (hh : rows[h]? = some sc) : callF prg (n + 1) 22 [ePl k rows, .int h, .int ((d : Int) + 1)] = pure (eO eSt (freshM sc (d + 1))) := t_fresh n k rows h (d + 1) sc hh
theorem t_manner_cell (n : Nat) (p h : D) : callF prg (n + 1) 23 [p, h] = pure (eCell ⟨0, 0, none⟩) := by
  refine eq_pure fun w => ?_
  rw [c_manner_cell]
  simp [f_manner_cell, eCell, eO, Vz0, Vz1, Vz2, Vz3, Vz4, Vz5, Vz6, kx, SZ, beq_self_eq_true, List.contains_cons, List.contains_nil]
theorem t_manner_state (n : Nat) (k : Kd) (rows : List (List Deed)) (h : Nat) (sc : List Deed) (hh : rows[h]? = some sc) : callF prg (n + 2) 24 [ePl k rows, .int h] = pure (eO eSt (freshM sc 0)) := by
  refine eq_pure fun w => ?_
  rw [c_manner_state]
  have q := t_fresh n k rows h 0 sc hh
  simp at q
  simp [f_manner_state, Vz0, Vz1, Vz2, Vz3, Vz4, Vz5, Vz6, kx, SZ, beq_self_eq_true, List.contains_cons, List.contains_nil, d_ePl, q_kind, q_inputs, q_rows, d_eKd, i_eKd, e_eKd, h_eKd, n_sweep, n_twice, n_borrow, d_eRows, x_eRows, l_eRows, t_eRows, d_eSc, x_eSc, l_eSc, d_eDeed, x_eDeed, x_eDeed1, d_eCells, x_eCells, l_eCells, t_eCells, a_eCells, d_eCell, x_eCell0, x_eCell1, x_eCell2, s_eCell, d_eSt, x_eSt0, x_eSt1, x_eSt2, x_eSt3, x_eSt4, b_eSt, d_eSg, x_eSg0, x_eSg1, x_eSg2, b_eSg, d_ePic, i_ePic, d_eIs, i_eIs, o_ePic, o_eIs, o_eSt, od_ePic, od_eIs, od_eSt, oi_ePic, oi_eIs, oi_eSt, i_eSt, i_eCells, e_oIs, e_oIs1, h_oIs1, e_ePic, h_ePic, n_eIs, n_ePic, n_eSt, q]
theorem t_is_put_next (n : Nat) (k : Kd) (rows : List (List Deed)) (h : Nat) (s : St) (sc : List Deed) (dd : Deed) (hh : rows[h]? = some sc) (hd : sc[s.done]? = some dd) : callF prg (n + 1) 25 [ePl k rows, .int h, eSt s] = pure (.bl (isPutM k dd s.ready)) := by
  refine eq_pure fun w => ?_
  rw [c_is_put_next]
  cases dd <;> cases k <;> cases z : s.ready <;> simp [f_is_put_next, Vz0, Vz1, Vz2, Vz3, Vz4, Vz5, Vz6, kx, SZ, beq_self_eq_true, List.contains_cons, List.contains_nil, d_ePl, q_kind, q_inputs, q_rows, d_eKd, i_eKd, e_eKd, h_eKd, n_sweep, n_twice, n_borrow, d_eRows, x_eRows, l_eRows, t_eRows, d_eSc, x_eSc, l_eSc, d_eDeed, x_eDeed, x_eDeed1, d_eCells, x_eCells, l_eCells, t_eCells, a_eCells, d_eCell, x_eCell0, x_eCell1, x_eCell2, s_eCell, d_eSt, x_eSt0, x_eSt1, x_eSt2, x_eSt3, x_eSt4, b_eSt, d_eSg, x_eSg0, x_eSg1, x_eSg2, b_eSg, d_ePic, i_ePic, d_eIs, i_eIs, o_ePic, o_eIs, o_eSt, od_ePic, od_eIs, od_eSt, oi_ePic, oi_eIs, oi_eSt, i_eSt, i_eCells, e_oIs, e_oIs1, h_oIs1, e_ePic, h_ePic, n_eIs, n_ePic, n_eSt, hh, hd, isPutM, wd, z]
theorem t_manner_next (n : Nat) (k : Kd) (rows : List (List Deed)) (h : Nat) (s : St) (sc : List Deed) (dd : Deed) (hh : rows[h]? = some sc) (hd : sc[s.done]? = some dd) : callF prg (n + 2) 26 [ePl k rows, .int h, eSt s] = pure (if isPutM k dd s.ready then .tup [.str s5_put] else .tup [.str s9_look, .int s.now.length]) := by
  refine eq_pure fun w => ?_
  rw [c_manner_next]
  cases z : isPutM k dd s.ready <;> simp [f_manner_next, Vz0, Vz1, Vz2, Vz3, Vz4, Vz5, Vz6, kx, SZ, beq_self_eq_true, List.contains_cons, List.contains_nil, d_ePl, q_kind, q_inputs, q_rows, d_eKd, i_eKd, e_eKd, h_eKd, n_sweep, n_twice, n_borrow, d_eRows, x_eRows, l_eRows, t_eRows, d_eSc, x_eSc, l_eSc, d_eDeed, x_eDeed, x_eDeed1, d_eCells, x_eCells, l_eCells, t_eCells, a_eCells, d_eCell, x_eCell0, x_eCell1, x_eCell2, s_eCell, d_eSt, x_eSt0, x_eSt1, x_eSt2, x_eSt3, x_eSt4, b_eSt, d_eSg, x_eSg0, x_eSg1, x_eSg2, b_eSg, d_ePic, i_ePic, d_eIs, i_eIs, o_ePic, o_eIs, o_eSt, od_ePic, od_eIs, od_eSt, oi_ePic, oi_eIs, oi_eSt, i_eSt, i_eCells, e_oIs, e_oIs1, h_oIs1, e_ePic, h_ePic, n_eIs, n_ePic, n_eSt, t_is_put_next n k rows h s sc dd hh hd, z]
theorem t_numbers_of (n : Nat) (cs : List Cell) (hs : cs.length ≤ 1000) : callF prg (n + 1) 27 [eCells cs] = pure (eIs (nums cs)) := by
  refine eq_pure fun w => ?_
  rw [c_numbers_of]
  simp [f_numbers_of, Vz0, Vz1, Vz2, Vz3, Vz4, Vz5, Vz6, kx, SZ, beq_self_eq_true, List.contains_cons, List.contains_nil, d_ePl, q_kind, q_inputs, q_rows, d_eKd, i_eKd, e_eKd, h_eKd, n_sweep, n_twice, n_borrow, d_eRows, x_eRows, l_eRows, t_eRows, d_eSc, x_eSc, l_eSc, d_eDeed, x_eDeed, x_eDeed1, d_eCells, x_eCells, l_eCells, t_eCells, a_eCells, d_eCell, x_eCell0, x_eCell1, x_eCell2, s_eCell, d_eSt, x_eSt0, x_eSt1, x_eSt2, x_eSt3, x_eSt4, b_eSt, d_eSg, x_eSg0, x_eSg1, x_eSg2, b_eSg, d_ePic, i_ePic, d_eIs, i_eIs, o_ePic, o_eIs, o_eSt, od_ePic, od_eIs, od_eSt, oi_ePic, oi_eIs, oi_eSt, i_eSt, i_eCells, e_oIs, e_oIs1, h_oIs1, e_ePic, h_ePic, n_eIs, n_ePic, n_eSt]
  refine ⟨by omega, wp_lc1 eCell (fun c => .int c.n) cs (fun _ => rfl) (fun a _ => ?_) ?_⟩
  · simp [Vz0, Vz1, Vz2, Vz3, Vz4, Vz5, Vz6, kx, SZ, beq_self_eq_true, List.contains_cons, List.contains_nil, d_ePl, q_kind, q_inputs, q_rows, d_eKd, i_eKd, e_eKd, h_eKd, n_sweep, n_twice, n_borrow, d_eRows, x_eRows, l_eRows, t_eRows, d_eSc, x_eSc, l_eSc, d_eDeed, x_eDeed, x_eDeed1, d_eCells, x_eCells, l_eCells, t_eCells, a_eCells, d_eCell, x_eCell0, x_eCell1, x_eCell2, s_eCell, d_eSt, x_eSt0, x_eSt1, x_eSt2, x_eSt3, x_eSt4, b_eSt, d_eSg, x_eSg0, x_eSg1, x_eSg2, b_eSg, d_ePic, i_ePic, d_eIs, i_eIs, o_ePic, o_eIs, o_eSt, od_ePic, od_eIs, od_eSt, oi_ePic, oi_eIs, oi_eSt, i_eSt, i_eCells, e_oIs, e_oIs1, h_oIs1, e_ePic, h_ePic, n_eIs, n_ePic, n_eSt]
  · simp [Vz0, Vz1, Vz2, Vz3, Vz4, Vz5, Vz6, kx, SZ, beq_self_eq_true, List.contains_cons, List.contains_nil, eIs, nums]
theorem t_picture_of (n : Nat) (cs : List Cell) (hs : cs.length ≤ 1000) : callF prg (n + 1) 28 [eCells cs] = pure (ePic (pict cs)) := by
  refine eq_pure fun w => ?_
  rw [c_picture_of]
  simp [f_picture_of, Vz0, Vz1, Vz2, Vz3, Vz4, Vz5, Vz6, kx, SZ, beq_self_eq_true, List.contains_cons, List.contains_nil, d_ePl, q_kind, q_inputs, q_rows, d_eKd, i_eKd, e_eKd, h_eKd, n_sweep, n_twice, n_borrow, d_eRows, x_eRows, l_eRows, t_eRows, d_eSc, x_eSc, l_eSc, d_eDeed, x_eDeed, x_eDeed1, d_eCells, x_eCells, l_eCells, t_eCells, a_eCells, d_eCell, x_eCell0, x_eCell1, x_eCell2, s_eCell, d_eSt, x_eSt0, x_eSt1, x_eSt2, x_eSt3, x_eSt4, b_eSt, d_eSg, x_eSg0, x_eSg1, x_eSg2, b_eSg, d_ePic, i_ePic, d_eIs, i_eIs, o_ePic, o_eIs, o_eSt, od_ePic, od_eIs, od_eSt, oi_ePic, oi_eIs, oi_eSt, i_eSt, i_eCells, e_oIs, e_oIs1, h_oIs1, e_ePic, h_ePic, n_eIs, n_ePic, n_eSt]
  refine ⟨by omega, wp_lc1 eCell (fun c => eNV (c.n, c.v)) cs (fun _ => rfl) (fun a _ => ?_) ?_⟩
  · simp [Vz0, Vz1, Vz2, Vz3, Vz4, Vz5, Vz6, kx, SZ, beq_self_eq_true, List.contains_cons, List.contains_nil, d_ePl, q_kind, q_inputs, q_rows, d_eKd, i_eKd, e_eKd, h_eKd, n_sweep, n_twice, n_borrow, d_eRows, x_eRows, l_eRows, t_eRows, d_eSc, x_eSc, l_eSc, d_eDeed, x_eDeed, x_eDeed1, d_eCells, x_eCells, l_eCells, t_eCells, a_eCells, d_eCell, x_eCell0, x_eCell1, x_eCell2, s_eCell, d_eSt, x_eSt0, x_eSt1, x_eSt2, x_eSt3, x_eSt4, b_eSt, d_eSg, x_eSg0, x_eSg1, x_eSg2, b_eSg, d_ePic, i_ePic, d_eIs, i_eIs, o_ePic, o_eIs, o_eSt, od_ePic, od_eIs, od_eSt, oi_ePic, oi_eIs, oi_eSt, i_eSt, i_eCells, e_oIs, e_oIs1, h_oIs1, e_ePic, h_ePic, n_eIs, n_ePic, n_eSt]
  · simp [Vz0, Vz1, Vz2, Vz3, Vz4, Vz5, Vz6, kx, SZ, beq_self_eq_true, List.contains_cons, List.contains_nil, ePic, pict]
theorem zip_cells {ns : List Int} {cs : List Cell} {i : Nat} {d : D} (h : (zipD (ns.map .int) (cs.map eCell))[i]? = some d) : ∃ n c, ns[i]? = some n ∧ cs[i]? = some c ∧ d = .tup [.int n, eCell c] := by
  unfold zipD at h
  rw [List.getElem?_zipWith] at h
  rw [List.getElem?_map, List.getElem?_map] at h
  cases h1 : ns[i]? with
  | none => rw [h1] at h; simp at h
  | some n => cases h2 : cs[i]? with
    | none => rw [h1, h2] at h; simp at h
    | some c => rw [h1, h2] at h; simp at h; exact ⟨n, c, rfl, rfl, h.symm⟩
theorem lentM_drop {ns : List Int} {cs : List Cell} {i : Nat} {n : Int} {c : Cell} (h1 : ns[i]? = some n) (h2 : cs[i]? = some c) : lentM (ns.drop i) (cs.drop i) = if n + 2 ≤ c.n then c.p else lentM (ns.drop (i + 1)) (cs.drop (i + 1)) := by
  obtain ⟨l1, e1⟩ := List.getElem?_eq_some_iff.mp h1
  obtain ⟨l2, e2⟩ := List.getElem?_eq_some_iff.mp h2
  rw [List.drop_eq_getElem_cons l1, List.drop_eq_getElem_cons l2, e1, e2, lentM]
theorem lentM_nil {ns : List Int} {cs : List Cell} {i : Nat} (h : ns.length ≤ i ∨ cs.length ≤ i) : lentM (ns.drop i) (cs.drop i) = none := by
  rcases h with h | h
  · rw [List.drop_of_length_le h, lentM]; simp
  · rw [List.drop_of_length_le h]
    cases ns.drop i <;> rw [lentM] <;> simp
theorem t_lent (n : Nat) (ns : List Int) (cs : List Cell) : callF prg (n + 1) 29 [eIs ns, eCells cs] = pure (eO ePic (lentM ns cs)) := by
  refine eq_pure fun w => ?_
  rw [c_lent]
  simp [f_lent, Vz0, Vz1, Vz2, Vz3, Vz4, Vz5, Vz6, kx, SZ, beq_self_eq_true, List.contains_cons, List.contains_nil, d_ePl, q_kind, q_inputs, q_rows, d_eKd, i_eKd, e_eKd, h_eKd, n_sweep, n_twice, n_borrow, d_eRows, x_eRows, l_eRows, t_eRows, d_eSc, x_eSc, l_eSc, d_eDeed, x_eDeed, x_eDeed1, d_eCells, x_eCells, l_eCells, t_eCells, a_eCells, d_eCell, x_eCell0, x_eCell1, x_eCell2, s_eCell, d_eSt, x_eSt0, x_eSt1, x_eSt2, x_eSt3, x_eSt4, b_eSt, d_eSg, x_eSg0, x_eSg1, x_eSg2, b_eSg, d_ePic, i_ePic, d_eIs, i_eIs, o_ePic, o_eIs, o_eSt, od_ePic, od_eIs, od_eSt, oi_ePic, oi_eIs, oi_eSt, i_eSt, i_eCells, e_oIs, e_oIs1, h_oIs1, e_ePic, h_ePic, n_eIs, n_ePic, n_eSt, eIs]
  rw [eCells, zi_t, wp_pure]
  refine wp_forGo0 (fun i e w' => w' = w ∧ lentM ns cs = lentM (ns.drop i) (cs.drop i) ∧ ∃ j1 j2, e = [.val (.tup (ns.map .int)), .val (.tup (cs.map eCell)), j1, j2]) ⟨rfl, by simp, _, _, rfl⟩ (fun i d e w' hd hi => ?_) fun e w' hi => ?_
  · obtain ⟨rfl, hl, j1, j2, rfl⟩ := hi
    obtain ⟨m, c, h1, h2, rfl⟩ := zip_cells hd
    rw [lentM_drop h1 h2] at hl
    by_cases hc : m + 2 ≤ c.n
    · rw [if_pos hc] at hl
      simp [Vz0, Vz1, Vz2, Vz3, Vz4, Vz5, Vz6, kx, SZ, beq_self_eq_true, List.contains_cons, List.contains_nil, d_ePl, q_kind, q_inputs, q_rows, d_eKd, i_eKd, e_eKd, h_eKd, n_sweep, n_twice, n_borrow, d_eRows, x_eRows, l_eRows, t_eRows, d_eSc, x_eSc, l_eSc, d_eDeed, x_eDeed, x_eDeed1, d_eCells, x_eCells, l_eCells, t_eCells, a_eCells, d_eCell, x_eCell0, x_eCell1, x_eCell2, s_eCell, d_eSt, x_eSt0, x_eSt1, x_eSt2, x_eSt3, x_eSt4, b_eSt, d_eSg, x_eSg0, x_eSg1, x_eSg2, b_eSg, d_ePic, i_ePic, d_eIs, i_eIs, o_ePic, o_eIs, o_eSt, od_ePic, od_eIs, od_eSt, oi_ePic, oi_eIs, oi_eSt, i_eSt, i_eCells, e_oIs, e_oIs1, h_oIs1, e_ePic, h_ePic, n_eIs, n_ePic, n_eSt, hc, hl]
    · rw [if_neg hc] at hl
      simp [Vz0, Vz1, Vz2, Vz3, Vz4, Vz5, Vz6, kx, SZ, beq_self_eq_true, List.contains_cons, List.contains_nil, d_ePl, q_kind, q_inputs, q_rows, d_eKd, i_eKd, e_eKd, h_eKd, n_sweep, n_twice, n_borrow, d_eRows, x_eRows, l_eRows, t_eRows, d_eSc, x_eSc, l_eSc, d_eDeed, x_eDeed, x_eDeed1, d_eCells, x_eCells, l_eCells, t_eCells, a_eCells, d_eCell, x_eCell0, x_eCell1, x_eCell2, s_eCell, d_eSt, x_eSt0, x_eSt1, x_eSt2, x_eSt3, x_eSt4, b_eSt, d_eSg, x_eSg0, x_eSg1, x_eSg2, b_eSg, d_ePic, i_ePic, d_eIs, i_eIs, o_ePic, o_eIs, o_eSt, od_ePic, od_eIs, od_eSt, oi_ePic, oi_eIs, oi_eSt, i_eSt, i_eCells, e_oIs, e_oIs1, h_oIs1, e_ePic, h_ePic, n_eIs, n_ePic, n_eSt, hc, hl]
  · obtain ⟨rfl, hl, j1, j2, rfl⟩ := hi
    rw [hl, lentM_nil (by simp [zipD]; omega)]
    simp [Vz0, Vz1, Vz2, Vz3, Vz4, Vz5, Vz6, kx, SZ, beq_self_eq_true, List.contains_cons, List.contains_nil, d_ePl, q_kind, q_inputs, q_rows, d_eKd, i_eKd, e_eKd, h_eKd, n_sweep, n_twice, n_borrow, d_eRows, x_eRows, l_eRows, t_eRows, d_eSc, x_eSc, l_eSc, d_eDeed, x_eDeed, x_eDeed1, d_eCells, x_eCells, l_eCells, t_eCells, a_eCells, d_eCell, x_eCell0, x_eCell1, x_eCell2, s_eCell, d_eSt, x_eSt0, x_eSt1, x_eSt2, x_eSt3, x_eSt4, b_eSt, d_eSg, x_eSg0, x_eSg1, x_eSg2, b_eSg, d_ePic, i_ePic, d_eIs, i_eIs, o_ePic, o_eIs, o_eSt, od_ePic, od_eIs, od_eSt, oi_ePic, oi_eIs, oi_eSt, i_eSt, i_eCells, e_oIs, e_oIs1, h_oIs1, e_ePic, h_ePic, n_eIs, n_ePic, n_eSt, eO]
end K02

set_option maxRecDepth 100000
set_option maxHeartbeats 1000000
namespace K02
open PySem Ev
theorem e_eIs {a b : List Int} : D.eqv (eIs a) (eIs b) = decide (a = b) := eqv_enc _ inj_eIs pl_eIs a b
theorem h_eIs {a b : List Int} : shape2 (eIs a) (eIs b) = true := shape_ok (ok_eIs a) (ok_eIs b) (by omega) (by omega)
theorem t_result_of (n : Nat) (k : Kd) (first last : Option (List Int)) (cs : List Cell) (hs : cs.length ≤ 1000) : callF prg (n + 2) 30 [eKd k, eO eIs first, eO eIs last, eCells cs] = pure (eO ePic (resultM k first last cs)) := by
  refine eq_pure fun w => ?_
  rw [c_result_of]
  unfold resultM
  by_cases h1 : k = .sweep
  · subst h1
    simp [f_result_of, Vz0, Vz1, Vz2, Vz3, Vz4, Vz5, Vz6, kx, SZ, beq_self_eq_true, List.contains_cons, List.contains_nil, d_ePl, q_kind, q_inputs, q_rows, d_eKd, i_eKd, e_eKd, h_eKd, n_sweep, n_twice, n_borrow, d_eRows, x_eRows, l_eRows, t_eRows, d_eSc, x_eSc, l_eSc, d_eDeed, x_eDeed, x_eDeed1, d_eCells, x_eCells, l_eCells, t_eCells, a_eCells, d_eCell, x_eCell0, x_eCell1, x_eCell2, s_eCell, d_eSt, x_eSt0, x_eSt1, x_eSt2, x_eSt3, x_eSt4, b_eSt, d_eSg, x_eSg0, x_eSg1, x_eSg2, b_eSg, d_ePic, i_ePic, d_eIs, i_eIs, o_ePic, o_eIs, o_eSt, od_ePic, od_eIs, od_eSt, oi_ePic, oi_eIs, oi_eSt, i_eSt, i_eCells, e_oIs, e_oIs1, h_oIs1, e_ePic, h_ePic, n_eIs, n_ePic, n_eSt, t_picture_of n cs hs, eO_some]
  · by_cases h2 : last = some (nums cs)
    · simp only [h1, h2, or_true, if_true]
      simp [f_result_of, Vz0, Vz1, Vz2, Vz3, Vz4, Vz5, Vz6, kx, SZ, beq_self_eq_true, List.contains_cons, List.contains_nil, d_ePl, q_kind, q_inputs, q_rows, d_eKd, i_eKd, e_eKd, h_eKd, n_sweep, n_twice, n_borrow, d_eRows, x_eRows, l_eRows, t_eRows, d_eSc, x_eSc, l_eSc, d_eDeed, x_eDeed, x_eDeed1, d_eCells, x_eCells, l_eCells, t_eCells, a_eCells, d_eCell, x_eCell0, x_eCell1, x_eCell2, s_eCell, d_eSt, x_eSt0, x_eSt1, x_eSt2, x_eSt3, x_eSt4, b_eSt, d_eSg, x_eSg0, x_eSg1, x_eSg2, b_eSg, d_ePic, i_ePic, d_eIs, i_eIs, o_ePic, o_eIs, o_eSt, od_ePic, od_eIs, od_eSt, oi_ePic, oi_eIs, oi_eSt, i_eSt, i_eCells, e_oIs, e_oIs1, h_oIs1, e_ePic, h_ePic, n_eIs, n_ePic, n_eSt, t_picture_of n cs hs, t_numbers_of n cs hs, h1, eO_some, e_eIs, h_eIs]
    · by_cases h3 : k = .borrow
      · cases first with
        | none => simp [f_result_of, Vz0, Vz1, Vz2, Vz3, Vz4, Vz5, Vz6, kx, SZ, beq_self_eq_true, List.contains_cons, List.contains_nil, d_ePl, q_kind, q_inputs, q_rows, d_eKd, i_eKd, e_eKd, h_eKd, n_sweep, n_twice, n_borrow, d_eRows, x_eRows, l_eRows, t_eRows, d_eSc, x_eSc, l_eSc, d_eDeed, x_eDeed, x_eDeed1, d_eCells, x_eCells, l_eCells, t_eCells, a_eCells, d_eCell, x_eCell0, x_eCell1, x_eCell2, s_eCell, d_eSt, x_eSt0, x_eSt1, x_eSt2, x_eSt3, x_eSt4, b_eSt, d_eSg, x_eSg0, x_eSg1, x_eSg2, b_eSg, d_ePic, i_ePic, d_eIs, i_eIs, o_ePic, o_eIs, o_eSt, od_ePic, od_eIs, od_eSt, oi_ePic, oi_eIs, oi_eSt, i_eSt, i_eCells, e_oIs, e_oIs1, h_oIs1, e_ePic, h_ePic, n_eIs, n_ePic, n_eSt, t_numbers_of n cs hs, h1, h2, h3, eO_none]
        | some f => simp [f_result_of, Vz0, Vz1, Vz2, Vz3, Vz4, Vz5, Vz6, kx, SZ, beq_self_eq_true, List.contains_cons, List.contains_nil, d_ePl, q_kind, q_inputs, q_rows, d_eKd, i_eKd, e_eKd, h_eKd, n_sweep, n_twice, n_borrow, d_eRows, x_eRows, l_eRows, t_eRows, d_eSc, x_eSc, l_eSc, d_eDeed, x_eDeed, x_eDeed1, d_eCells, x_eCells, l_eCells, t_eCells, a_eCells, d_eCell, x_eCell0, x_eCell1, x_eCell2, s_eCell, d_eSt, x_eSt0, x_eSt1, x_eSt2, x_eSt3, x_eSt4, b_eSt, d_eSg, x_eSg0, x_eSg1, x_eSg2, b_eSg, d_ePic, i_ePic, d_eIs, i_eIs, o_ePic, o_eIs, o_eSt, od_ePic, od_eIs, od_eSt, oi_ePic, oi_eIs, oi_eSt, i_eSt, i_eCells, e_oIs, e_oIs1, h_oIs1, e_ePic, h_ePic, n_eIs, n_ePic, n_eSt, t_numbers_of n cs hs, h1, h2, h3, eO_some, t_lent n]
      · simp [f_result_of, Vz0, Vz1, Vz2, Vz3, Vz4, Vz5, Vz6, kx, SZ, beq_self_eq_true, List.contains_cons, List.contains_nil, d_ePl, q_kind, q_inputs, q_rows, d_eKd, i_eKd, e_eKd, h_eKd, n_sweep, n_twice, n_borrow, d_eRows, x_eRows, l_eRows, t_eRows, d_eSc, x_eSc, l_eSc, d_eDeed, x_eDeed, x_eDeed1, d_eCells, x_eCells, l_eCells, t_eCells, a_eCells, d_eCell, x_eCell0, x_eCell1, x_eCell2, s_eCell, d_eSt, x_eSt0, x_eSt1, x_eSt2, x_eSt3, x_eSt4, b_eSt, d_eSg, x_eSg0, x_eSg1, x_eSg2, b_eSg, d_ePic, i_ePic, d_eIs, i_eIs, o_ePic, o_eIs, o_eSt, od_ePic, od_eIs, od_eSt, oi_ePic, oi_eIs, oi_eSt, i_eSt, i_eCells, e_oIs, e_oIs1, h_oIs1, e_ePic, h_ePic, n_eIs, n_ePic, n_eSt, t_numbers_of n cs hs, h1, h2, h3, eO_none]
/-- behind a whole sweep: the state, what is told -/
def sweptM (k : Kd) (sc : List Deed) (dd : Deed) (s : St) (cs : List Cell) : Option St × Option Pic :=
  match resultM k s.first s.last cs with
  | none => (some ⟨s.done, some (match s.first with | none => nums cs | some f => f), some (nums cs), [], none⟩, none)
  | some p => match dd with
    | .put _ => (some ⟨s.done, none, none, [], some p⟩, none)
    | .see => (freshM sc (s.done + 1), some p)
theorem b_t3 {a b c : D} {i j k : Nat} {e : Ev.Env} : bindTg (.t [.n i, .n j, .n k]) (.tup [a, b, c]) e = bindTg.go [.n i, .n j, .n k] [a, b, c] e := by rw [bi_t]
theorem t_after_sweep (n : Nat) (k : Kd) (rows : List (List Deed)) (h : Nat) (s : St) (cs : List Cell) (sc : List Deed) (dd : Deed) (hh : rows[h]? = some sc) (hd : sc[s.done]? = some dd) (hs : cs.length ≤ 1000) :
    callF prg (n + 3) 31 [ePl k rows, .int h, eSt s, eCells cs] = pure (.tup [.non, eO eSt (sweptM k sc dd s cs).1, eO ePic (sweptM k sc dd s cs).2]) := by
  refine eq_pure fun w => ?_
  rw [c_after_sweep]
  unfold sweptM
  cases hr : resultM k s.first s.last cs with
  | none =>
    have q := t_result_of n k s.first s.last cs hs
    rw [hr] at q
    cases hf : s.first with
    | none => rw [hf] at q; simp [f_after_sweep, Vz0, Vz1, Vz2, Vz3, Vz4, Vz5, Vz6, kx, SZ, beq_self_eq_true, List.contains_cons, List.contains_nil, d_ePl, q_kind, q_inputs, q_rows, d_eKd, i_eKd, e_eKd, h_eKd, n_sweep, n_twice, n_borrow, d_eRows, x_eRows, l_eRows, t_eRows, d_eSc, x_eSc, l_eSc, d_eDeed, x_eDeed, x_eDeed1, d_eCells, x_eCells, l_eCells, t_eCells, a_eCells, d_eCell, x_eCell0, x_eCell1, x_eCell2, s_eCell, d_eSt, x_eSt0, x_eSt1, x_eSt2, x_eSt3, x_eSt4, b_eSt, d_eSg, x_eSg0, x_eSg1, x_eSg2, b_eSg, d_ePic, i_ePic, d_eIs, i_eIs, o_ePic, o_eIs, o_eSt, od_ePic, od_eIs, od_eSt, oi_ePic, oi_eIs, oi_eSt, i_eSt, i_eCells, e_oIs, e_oIs1, h_oIs1, e_ePic, h_ePic, n_eIs, n_ePic, n_eSt, q, hf, t_numbers_of (n + 1) cs hs]; simp [eSt, hf, eO, eCells]
    | some f => rw [hf] at q; simp [f_after_sweep, Vz0, Vz1, Vz2, Vz3, Vz4, Vz5, Vz6, kx, SZ, beq_self_eq_true, List.contains_cons, List.contains_nil, d_ePl, q_kind, q_inputs, q_rows, d_eKd, i_eKd, e_eKd, h_eKd, n_sweep, n_twice, n_borrow, d_eRows, x_eRows, l_eRows, t_eRows, d_eSc, x_eSc, l_eSc, d_eDeed, x_eDeed, x_eDeed1, d_eCells, x_eCells, l_eCells, t_eCells, a_eCells, d_eCell, x_eCell0, x_eCell1, x_eCell2, s_eCell, d_eSt, x_eSt0, x_eSt1, x_eSt2, x_eSt3, x_eSt4, b_eSt, d_eSg, x_eSg0, x_eSg1, x_eSg2, b_eSg, d_ePic, i_ePic, d_eIs, i_eIs, o_ePic, o_eIs, o_eSt, od_ePic, od_eIs, od_eSt, oi_ePic, oi_eIs, oi_eSt, i_eSt, i_eCells, e_oIs, e_oIs1, h_oIs1, e_ePic, h_ePic, n_eIs, n_ePic, n_eSt, q, hf, t_numbers_of (n + 1) cs hs]; simp [eSt, hf, eO, eCells]
  | some p =>
    cases dd with
    | see => simp [f_after_sweep, Vz0, Vz1, Vz2, Vz3, Vz4, Vz5, Vz6, kx, SZ, beq_self_eq_true, List.contains_cons, List.contains_nil, d_ePl, q_kind, q_inputs, q_rows, d_eKd, i_eKd, e_eKd, h_eKd, n_sweep, n_twice, n_borrow, d_eRows, x_eRows, l_eRows, t_eRows, d_eSc, x_eSc, l_eSc, d_eDeed, x_eDeed, x_eDeed1, d_eCells, x_eCells, l_eCells, t_eCells, a_eCells, d_eCell, x_eCell0, x_eCell1, x_eCell2, s_eCell, d_eSt, x_eSt0, x_eSt1, x_eSt2, x_eSt3, x_eSt4, b_eSt, d_eSg, x_eSg0, x_eSg1, x_eSg2, b_eSg, d_ePic, i_ePic, d_eIs, i_eIs, o_ePic, o_eIs, o_eSt, od_ePic, od_eIs, od_eSt, oi_ePic, oi_eIs, oi_eSt, i_eSt, i_eCells, e_oIs, e_oIs1, h_oIs1, e_ePic, h_ePic, n_eIs, n_ePic, n_eSt, t_result_of n k s.first s.last cs hs, hr, hh, hd, wd, t_fresh1 (n + 1) k rows h s.done sc hh, eO_none, eO_some]
    | put v => simp [f_after_sweep, Vz0, Vz1, Vz2, Vz3, Vz4, Vz5, Vz6, kx, SZ, beq_self_eq_true, List.contains_cons, List.contains_nil, d_ePl, q_kind, q_inputs, q_rows, d_eKd, i_eKd, e_eKd, h_eKd, n_sweep, n_twice, n_borrow, d_eRows, x_eRows, l_eRows, t_eRows, d_eSc, x_eSc, l_eSc, d_eDeed, x_eDeed, x_eDeed1, d_eCells, x_eCells, l_eCells, t_eCells, a_eCells, d_eCell, x_eCell0, x_eCell1, x_eCell2, s_eCell, d_eSt, x_eSt0, x_eSt1, x_eSt2, x_eSt3, x_eSt4, b_eSt, d_eSg, x_eSg0, x_eSg1, x_eSg2, b_eSg, d_ePic, i_ePic, d_eIs, i_eIs, o_ePic, o_eIs, o_eSt, od_ePic, od_eIs, od_eSt, oi_ePic, oi_eIs, oi_eSt, i_eSt, i_eCells, e_oIs, e_oIs1, h_oIs1, e_ePic, h_ePic, n_eIs, n_ePic, n_eSt, t_result_of n k s.first s.last cs hs, hr, hh, hd, wd]; simp [eSt, eO, eCells]
/-- behind the next step: what is put, the state, what is told -/
def afterM (k : Kd) (sc : List Deed) (dd : Deed) (c0 : Cell) (cells : List Cell) (s : St) : Option Cell × Option St × Option Pic :=
  match dd with
  | .put v => if isPutM k (.put v) s.ready then (some ⟨c0.n + 1, v, s.ready⟩, freshM sc (s.done + 1), none) else lookM
  | .see => lookM
where lookM : Option Cell × Option St × Option Pic :=
  match cells[s.now.length]? with
  | none => (none, none, none)
  | some c => if s.now.length + 1 = cells.length then (none, sweptM k sc dd s (s.now ++ [c])) else (none, some { s with now := s.now ++ [c], ready := none }, none)
theorem afterM_put {k : Kd} {sc : List Deed} {v : Int} {c0 : Cell} {cells : List Cell} {s : St} (z : isPutM k (.put v) s.ready = true) : afterM k sc (.put v) c0 cells s = (some ⟨c0.n + 1, v, s.ready⟩, freshM sc (s.done + 1), none) := by
  unfold afterM
  dsimp only
  rw [if_pos z]
theorem afterM_look {k : Kd} {sc : List Deed} {dd : Deed} {c0 : Cell} {cells : List Cell} {s : St} (z : isPutM k dd s.ready = false) : afterM k sc dd c0 cells s = afterM.lookM k sc dd cells s := by
  unfold afterM
  cases dd with
  | see => rfl
  | put v => dsimp only; rw [if_neg (by rw [z]; simp)]
theorem t_manner_after (n : Nat) (k : Kd) (rows : List (List Deed)) (h : Nat) (cells : List Cell) (s : St) (sc : List Deed) (dd : Deed) (c0 : Cell) (hh : rows[h]? = some sc) (hd : sc[s.done]? = some dd) (hs : cells.length ≤ 1000) (hc : cells[h]? = some c0) (hn : s.now.length < cells.length) :
    callF prg (n + 4) 32 [ePl k rows, .int h, eCells cells, eSt s] = pure (.tup [eO eCell (afterM k sc dd c0 cells s).1, eO eSt (afterM k sc dd c0 cells s).2.1, eO ePic (afterM k sc dd c0 cells s).2.2]) := by
  refine eq_pure fun w => ?_
  rw [c_manner_after]
  have e0 : cells[s.now.length]? = some cells[s.now.length] := List.getElem?_eq_getElem hn
  cases z : isPutM k dd s.ready with
  | true =>
    cases dd with
    | see => simp [isPutM] at z
    | put v =>
      rw [afterM_put z]
      simp [f_manner_after, Vz0, Vz1, Vz2, Vz3, Vz4, Vz5, Vz6, kx, SZ, beq_self_eq_true, List.contains_cons, List.contains_nil, d_ePl, q_kind, q_inputs, q_rows, d_eKd, i_eKd, e_eKd, h_eKd, n_sweep, n_twice, n_borrow, d_eRows, x_eRows, l_eRows, t_eRows, d_eSc, x_eSc, l_eSc, d_eDeed, x_eDeed, x_eDeed1, d_eCells, x_eCells, l_eCells, t_eCells, a_eCells, d_eCell, x_eCell0, x_eCell1, x_eCell2, s_eCell, d_eSt, x_eSt0, x_eSt1, x_eSt2, x_eSt3, x_eSt4, b_eSt, d_eSg, x_eSg0, x_eSg1, x_eSg2, b_eSg, d_ePic, i_ePic, d_eIs, i_eIs, o_ePic, o_eIs, o_eSt, od_ePic, od_eIs, od_eSt, oi_ePic, oi_eIs, oi_eSt, i_eSt, i_eCells, e_oIs, e_oIs1, h_oIs1, e_ePic, h_ePic, n_eIs, n_ePic, n_eSt, t_is_put_next (n + 2) k rows h s sc _ hh hd, z, hh, hd, hc, t_fresh1 (n + 2) k rows h s.done sc hh]
      simp [eO, eCell]
  | false =>
    rw [afterM_look z]
    unfold afterM.lookM
    rw [e0]
    dsimp only
    by_cases hl : s.now.length + 1 = cells.length
    · rw [if_pos hl]
      have hl2 : (s.now ++ [cells[s.now.length]]).length ≤ 1000 := by simp; omega
      simp [f_manner_after, Vz0, Vz1, Vz2, Vz3, Vz4, Vz5, Vz6, kx, SZ, beq_self_eq_true, List.contains_cons, List.contains_nil, d_ePl, q_kind, q_inputs, q_rows, d_eKd, i_eKd, e_eKd, h_eKd, n_sweep, n_twice, n_borrow, d_eRows, x_eRows, l_eRows, t_eRows, d_eSc, x_eSc, l_eSc, d_eDeed, x_eDeed, x_eDeed1, d_eCells, x_eCells, l_eCells, t_eCells, a_eCells, d_eCell, x_eCell0, x_eCell1, x_eCell2, s_eCell, d_eSt, x_eSt0, x_eSt1, x_eSt2, x_eSt3, x_eSt4, b_eSt, d_eSg, x_eSg0, x_eSg1, x_eSg2, b_eSg, d_ePic, i_ePic, d_eIs, i_eIs, o_ePic, o_eIs, o_eSt, od_ePic, od_eIs, od_eSt, oi_ePic, oi_eIs, oi_eSt, i_eSt, i_eCells, e_oIs, e_oIs1, h_oIs1, e_ePic, h_ePic, n_eIs, n_ePic, n_eSt, t_is_put_next (n + 2) k rows h s sc dd hh hd, z, e0, hl, t_after_sweep n k rows h s _ sc dd hh hd hl2]
      refine ⟨by omega, ?_⟩
      have hl3 : ((s.now.length : Int) + 1) = (cells.length : Int) := by omega
      simp [Vz0, Vz1, Vz2, Vz3, Vz4, Vz5, Vz6, kx, SZ, beq_self_eq_true, List.contains_cons, List.contains_nil, hl3, d_ePl, q_kind, q_inputs, q_rows, d_eKd, i_eKd, e_eKd, h_eKd, n_sweep, n_twice, n_borrow, d_eRows, x_eRows, l_eRows, t_eRows, d_eSc, x_eSc, l_eSc, d_eDeed, x_eDeed, x_eDeed1, d_eCells, x_eCells, l_eCells, t_eCells, a_eCells, d_eCell, x_eCell0, x_eCell1, x_eCell2, s_eCell, d_eSt, x_eSt0, x_eSt1, x_eSt2, x_eSt3, x_eSt4, b_eSt, d_eSg, x_eSg0, x_eSg1, x_eSg2, b_eSg, d_ePic, i_ePic, d_eIs, i_eIs, o_ePic, o_eIs, o_eSt, od_ePic, od_eIs, od_eSt, oi_ePic, oi_eIs, oi_eSt, i_eSt, i_eCells, e_oIs, e_oIs1, h_oIs1, e_ePic, h_ePic, n_eIs, n_ePic, n_eSt, t_after_sweep n k rows h s _ sc dd hh hd hl2, eO]
    · rw [if_neg hl]
      have hl3 : ¬ ((s.now.length : Int) + 1) = (cells.length : Int) := by omega
      simp [f_manner_after, Vz0, Vz1, Vz2, Vz3, Vz4, Vz5, Vz6, kx, SZ, beq_self_eq_true, List.contains_cons, List.contains_nil, d_ePl, q_kind, q_inputs, q_rows, d_eKd, i_eKd, e_eKd, h_eKd, n_sweep, n_twice, n_borrow, d_eRows, x_eRows, l_eRows, t_eRows, d_eSc, x_eSc, l_eSc, d_eDeed, x_eDeed, x_eDeed1, d_eCells, x_eCells, l_eCells, t_eCells, a_eCells, d_eCell, x_eCell0, x_eCell1, x_eCell2, s_eCell, d_eSt, x_eSt0, x_eSt1, x_eSt2, x_eSt3, x_eSt4, b_eSt, d_eSg, x_eSg0, x_eSg1, x_eSg2, b_eSg, d_ePic, i_ePic, d_eIs, i_eIs, o_ePic, o_eIs, o_eSt, od_ePic, od_eIs, od_eSt, oi_ePic, oi_eIs, oi_eSt, i_eSt, i_eCells, e_oIs, e_oIs1, h_oIs1, e_ePic, h_ePic, n_eIs, n_ePic, n_eSt, t_is_put_next (n + 2) k rows h s sc dd hh hd, z, e0, hl3]
      refine ⟨by omega, ?_⟩
      simp [eO, eSt]
def beginsM (k : Kd) (dd : Deed) (s : St) : Bool := s.first.isNone && s.now.isEmpty && !isPutM k dd s.ready
theorem e_now {cs : List Cell} : D.eqv (eCells cs) (.tup []) = cs.isEmpty := by
  cases cs with
  | nil => rfl
  | cons c r => simp [eCells, eqv_tup, D.pyAll, PyData.eqvAll]
theorem ok_eCell (c : Cell) : (eCell c).ok 3 = true := by
  unfold eCell
  rw [ok_tup]
  intro x hx
  simp only [List.mem_cons, List.not_mem_nil, or_false] at hx
  rcases hx with rfl | rfl | rfl
  · exact ok_int
  · exact ok_int
  · exact ok_eO ok_ePic _
theorem ok_eCells (cs : List Cell) : (eCells cs).ok 4 = true := by
  unfold eCells
  rw [ok_tup]
  intro x hx
  obtain ⟨i, _, rfl⟩ := List.mem_map.mp hx
  exact ok_eCell _
theorem h_now {cs : List Cell} : shape2 (eCells cs) (.tup []) = true := shape_ok (k := 4) (l := 4) (ok_eCells cs) (ok_eCells []) (by omega) (by omega)
end K02

set_option maxRecDepth 100000
set_option maxHeartbeats 1000000
namespace K02
open PySem Ev
theorem f_eKd {k : Kd} : flatD (eKd k) = true := by cases k <;> rfl
theorem in_manners {k : Kd} : hasD (eKd k) [eKd .sweep, eKd .twice, eKd .borrow] = true := by cases k <;> simp [hasD, e_eKd]
theorem t_cell_of (n : Nat) (k : Kd) (rows : List (List Deed)) (h : D) : callF prg (n + 2) 41 [ePl k rows, h] = pure (eCell ⟨0, 0, none⟩) := by
  refine eq_pure fun w => ?_
  rw [c_cell_of]
  simp [f_cell_of, Vz0, Vz1, Vz2, Vz3, Vz4, Vz5, Vz6, kx, SZ, beq_self_eq_true, List.contains_cons, List.contains_nil, d_ePl, q_kind, q_inputs, q_rows, d_eKd, i_eKd, e_eKd, h_eKd, n_sweep, n_twice, n_borrow, d_eRows, x_eRows, l_eRows, t_eRows, d_eSc, x_eSc, l_eSc, d_eDeed, x_eDeed, x_eDeed1, d_eCells, x_eCells, l_eCells, t_eCells, a_eCells, d_eCell, x_eCell0, x_eCell1, x_eCell2, s_eCell, d_eSt, x_eSt0, x_eSt1, x_eSt2, x_eSt3, x_eSt4, b_eSt, d_eSg, x_eSg0, x_eSg1, x_eSg2, b_eSg, d_ePic, i_ePic, d_eIs, i_eIs, o_ePic, o_eIs, o_eSt, od_ePic, od_eIs, od_eSt, oi_ePic, oi_eIs, oi_eSt, i_eSt, i_eCells, e_oIs, e_oIs1, h_oIs1, e_ePic, h_ePic, n_eIs, n_ePic, n_eSt, f_eKd, in_manners, t_manner_cell n]
theorem t_state_of (n : Nat) (k : Kd) (rows : List (List Deed)) (h : Nat) (sc : List Deed) (hh : rows[h]? = some sc) : callF prg (n + 3) 42 [ePl k rows, .int h] = pure (eO eSt (freshM sc 0)) := by
  refine eq_pure fun w => ?_
  rw [c_state_of]
  simp [f_state_of, Vz0, Vz1, Vz2, Vz3, Vz4, Vz5, Vz6, kx, SZ, beq_self_eq_true, List.contains_cons, List.contains_nil, d_ePl, q_kind, q_inputs, q_rows, d_eKd, i_eKd, e_eKd, h_eKd, n_sweep, n_twice, n_borrow, d_eRows, x_eRows, l_eRows, t_eRows, d_eSc, x_eSc, l_eSc, d_eDeed, x_eDeed, x_eDeed1, d_eCells, x_eCells, l_eCells, t_eCells, a_eCells, d_eCell, x_eCell0, x_eCell1, x_eCell2, s_eCell, d_eSt, x_eSt0, x_eSt1, x_eSt2, x_eSt3, x_eSt4, b_eSt, d_eSg, x_eSg0, x_eSg1, x_eSg2, b_eSg, d_ePic, i_ePic, d_eIs, i_eIs, o_ePic, o_eIs, o_eSt, od_ePic, od_eIs, od_eSt, oi_ePic, oi_eIs, oi_eSt, i_eSt, i_eCells, e_oIs, e_oIs1, h_oIs1, e_ePic, h_ePic, n_eIs, n_ePic, n_eSt, f_eKd, in_manners, t_manner_state n k rows h sc hh]
theorem t_next_of (n : Nat) (k : Kd) (rows : List (List Deed)) (h : Nat) (s : St) (sc : List Deed) (dd : Deed) (hh : rows[h]? = some sc) (hd : sc[s.done]? = some dd) : callF prg (n + 3) 43 [ePl k rows, .int h, eSt s] = pure (if isPutM k dd s.ready then .tup [.str s5_put] else .tup [.str s9_look, .int s.now.length]) := by
  refine eq_pure fun w => ?_
  rw [c_next_of]
  simp [f_next_of, Vz0, Vz1, Vz2, Vz3, Vz4, Vz5, Vz6, kx, SZ, beq_self_eq_true, List.contains_cons, List.contains_nil, d_ePl, q_kind, q_inputs, q_rows, d_eKd, i_eKd, e_eKd, h_eKd, n_sweep, n_twice, n_borrow, d_eRows, x_eRows, l_eRows, t_eRows, d_eSc, x_eSc, l_eSc, d_eDeed, x_eDeed, x_eDeed1, d_eCells, x_eCells, l_eCells, t_eCells, a_eCells, d_eCell, x_eCell0, x_eCell1, x_eCell2, s_eCell, d_eSt, x_eSt0, x_eSt1, x_eSt2, x_eSt3, x_eSt4, b_eSt, d_eSg, x_eSg0, x_eSg1, x_eSg2, b_eSg, d_ePic, i_ePic, d_eIs, i_eIs, o_ePic, o_eIs, o_eSt, od_ePic, od_eIs, od_eSt, oi_ePic, oi_eIs, oi_eSt, i_eSt, i_eCells, e_oIs, e_oIs1, h_oIs1, e_ePic, h_ePic, n_eIs, n_ePic, n_eSt, f_eKd, in_manners, t_manner_next n k rows h s sc dd hh hd]
theorem t_after_of (n : Nat) (k : Kd) (rows : List (List Deed)) (h : Nat) (cells : List Cell) (s : St) (sc : List Deed) (dd : Deed) (c0 : Cell) (hh : rows[h]? = some sc) (hd : sc[s.done]? = some dd) (hs : cells.length ≤ 1000) (hc : cells[h]? = some c0) (hn : s.now.length < cells.length) :
    callF prg (n + 5) 44 [ePl k rows, .int h, eCells cells, eSt s] = pure (.tup [eO eCell (afterM k sc dd c0 cells s).1, eO eSt (afterM k sc dd c0 cells s).2.1, eO ePic (afterM k sc dd c0 cells s).2.2]) := by
  refine eq_pure fun w => ?_
  rw [c_after_of]
  simp [f_after_of, Vz0, Vz1, Vz2, Vz3, Vz4, Vz5, Vz6, kx, SZ, beq_self_eq_true, List.contains_cons, List.contains_nil, d_ePl, q_kind, q_inputs, q_rows, d_eKd, i_eKd, e_eKd, h_eKd, n_sweep, n_twice, n_borrow, d_eRows, x_eRows, l_eRows, t_eRows, d_eSc, x_eSc, l_eSc, d_eDeed, x_eDeed, x_eDeed1, d_eCells, x_eCells, l_eCells, t_eCells, a_eCells, d_eCell, x_eCell0, x_eCell1, x_eCell2, s_eCell, d_eSt, x_eSt0, x_eSt1, x_eSt2, x_eSt3, x_eSt4, b_eSt, d_eSg, x_eSg0, x_eSg1, x_eSg2, b_eSg, d_ePic, i_ePic, d_eIs, i_eIs, o_ePic, o_eIs, o_eSt, od_ePic, od_eIs, od_eSt, oi_ePic, oi_eIs, oi_eSt, i_eSt, i_eCells, e_oIs, e_oIs1, h_oIs1, e_ePic, h_ePic, n_eIs, n_ePic, n_eSt, f_eKd, in_manners, t_manner_after n k rows h cells s sc dd c0 hh hd hs hc hn]
def begunM (rows : List (List Deed)) : Sg := ⟨List.replicate rows.length ⟨0, 0, none⟩, rows.map fun sc => freshM sc 0, List.replicate rows.length []⟩
theorem t_begun (n : Nat) (k : Kd) (rows : List (List Deed)) (hr : 1 ≤ rows.length ∧ rows.length ≤ 5) : callF prg (n + 4) 45 [ePl k rows] = pure (eSg (begunM rows)) := by
  refine eq_pure fun w => ?_
  rw [c_begun]
  have r1 : rngOk (rows.length : Int) := rngOk_nat (by omega)
  simp [f_begun, Vz0, Vz1, Vz2, Vz3, Vz4, Vz5, Vz6, kx, SZ, beq_self_eq_true, List.contains_cons, List.contains_nil, d_ePl, q_kind, q_inputs, q_rows, d_eKd, i_eKd, e_eKd, h_eKd, n_sweep, n_twice, n_borrow, d_eRows, x_eRows, l_eRows, t_eRows, d_eSc, x_eSc, l_eSc, d_eDeed, x_eDeed, x_eDeed1, d_eCells, x_eCells, l_eCells, t_eCells, a_eCells, d_eCell, x_eCell0, x_eCell1, x_eCell2, s_eCell, d_eSt, x_eSt0, x_eSt1, x_eSt2, x_eSt3, x_eSt4, b_eSt, d_eSg, x_eSg0, x_eSg1, x_eSg2, b_eSg, d_ePic, i_ePic, d_eIs, i_eIs, o_ePic, o_eIs, o_eSt, od_ePic, od_eIs, od_eSt, oi_ePic, oi_eIs, oi_eSt, i_eSt, i_eCells, e_oIs, e_oIs1, h_oIs1, e_ePic, h_ePic, n_eIs, n_ePic, n_eSt, r1, rngD0]
  refine ⟨by omega, wp_lc1 (fun (i : Nat) => D.int (i : Int)) (fun _ => eCell ⟨0, 0, none⟩) _ (fun _ => rfl) (fun a _ => ?_) ?_⟩
  · simp [Vz0, Vz1, Vz2, Vz3, Vz4, Vz5, Vz6, kx, SZ, beq_self_eq_true, List.contains_cons, List.contains_nil, t_cell_of]
  · refine ⟨by omega, wp_lc1 (fun (i : Nat) => D.int (i : Int)) (fun i => eO eSt (freshM (rows.getD i []) 0)) _ (fun _ => rfl) (fun a ha => ?_) ?_⟩
    · have ha' := List.mem_range.mp ha
      have e : rows[a]? = some (rows.getD a []) := by simp [List.getD, List.getElem?_eq_getElem ha']
      simp [Vz0, Vz1, Vz2, Vz3, Vz4, Vz5, Vz6, kx, SZ, beq_self_eq_true, List.contains_cons, List.contains_nil, t_state_of n k rows a _ e]
    · refine ⟨by omega, ?_⟩
      rw [map_range (fun i => eO eSt (freshM (rows.getD i []) 0)) (fun sc => eO eSt (freshM sc 0)) rows fun i a h => by simp [List.getD, h]]
      simp [eSg, begunM, eCells, eTold]
      refine List.ext_getElem (by simp) fun i h1 h2 => by simp
theorem t_first_standing (n : Nat) (k : Kd) (rows : List (List Deed)) (hr : 1 ≤ rows.length ∧ rows.length ≤ 5) : callF prg (n + 5) 46 [ePl k rows] = pure (eSg (begunM rows)) := by
  refine eq_pure fun w => ?_
  rw [c_first_standing]
  simp [f_first_standing, Vz0, Vz1, Vz2, Vz3, Vz4, Vz5, Vz6, kx, SZ, beq_self_eq_true, List.contains_cons, List.contains_nil, d_ePl, q_kind, q_inputs, q_rows, d_eKd, i_eKd, e_eKd, h_eKd, n_sweep, n_twice, n_borrow, d_eRows, x_eRows, l_eRows, t_eRows, d_eSc, x_eSc, l_eSc, d_eDeed, x_eDeed, x_eDeed1, d_eCells, x_eCells, l_eCells, t_eCells, a_eCells, d_eCell, x_eCell0, x_eCell1, x_eCell2, s_eCell, d_eSt, x_eSt0, x_eSt1, x_eSt2, x_eSt3, x_eSt4, b_eSt, d_eSg, x_eSg0, x_eSg1, x_eSg2, b_eSg, d_ePic, i_ePic, d_eIs, i_eIs, o_ePic, o_eIs, o_eSt, od_ePic, od_eIs, od_eSt, oi_ePic, oi_eIs, oi_eSt, i_eSt, i_eCells, e_oIs, e_oIs1, h_oIs1, e_ePic, h_ePic, n_eIs, n_ePic, n_eSt, t_begun n k rows hr]
/-- the hands that are not over -/
def moversM (states : List (Option St)) : List Nat := ((states.zipIdx).filter (·.1.isSome)).map (·.2)
def eHands (hs : List Nat) : D := .tup (hs.map fun (h : Nat) => .int (h : Int))
theorem t_movers (n : Nat) (sg : Sg) (hs : sg.states.length ≤ 1000) : callF prg (n + 1) 47 [eSg sg] = pure (eHands (moversM sg.states)) := by
  refine eq_pure fun w => ?_
  rw [c_movers]
  simp [f_movers, Vz0, Vz1, Vz2, Vz3, Vz4, Vz5, Vz6, kx, SZ, beq_self_eq_true, List.contains_cons, List.contains_nil, d_ePl, q_kind, q_inputs, q_rows, d_eKd, i_eKd, e_eKd, h_eKd, n_sweep, n_twice, n_borrow, d_eRows, x_eRows, l_eRows, t_eRows, d_eSc, x_eSc, l_eSc, d_eDeed, x_eDeed, x_eDeed1, d_eCells, x_eCells, l_eCells, t_eCells, a_eCells, d_eCell, x_eCell0, x_eCell1, x_eCell2, s_eCell, d_eSt, x_eSt0, x_eSt1, x_eSt2, x_eSt3, x_eSt4, b_eSt, d_eSg, x_eSg0, x_eSg1, x_eSg2, b_eSg, d_ePic, i_ePic, d_eIs, i_eIs, o_ePic, o_eIs, o_eSt, od_ePic, od_eIs, od_eSt, oi_ePic, oi_eIs, oi_eSt, i_eSt, i_eCells, e_oIs, e_oIs1, h_oIs1, e_ePic, h_ePic, n_eIs, n_ePic, n_eSt, enumD_map]
  refine ⟨by omega, wp_lc (fun (p : Option St × Nat) => .tup [.int p.2, eO eSt p.1]) (fun p => p.1.isSome) (fun p => .int p.2) _ (fun a _ => ?_) ?_⟩
  · cases z : a.1 <;> simp [Vz0, Vz1, Vz2, Vz3, Vz4, Vz5, Vz6, kx, SZ, beq_self_eq_true, List.contains_cons, List.contains_nil, d_ePl, q_kind, q_inputs, q_rows, d_eKd, i_eKd, e_eKd, h_eKd, n_sweep, n_twice, n_borrow, d_eRows, x_eRows, l_eRows, t_eRows, d_eSc, x_eSc, l_eSc, d_eDeed, x_eDeed, x_eDeed1, d_eCells, x_eCells, l_eCells, t_eCells, a_eCells, d_eCell, x_eCell0, x_eCell1, x_eCell2, s_eCell, d_eSt, x_eSt0, x_eSt1, x_eSt2, x_eSt3, x_eSt4, b_eSt, d_eSg, x_eSg0, x_eSg1, x_eSg2, b_eSg, d_ePic, i_ePic, d_eIs, i_eIs, o_ePic, o_eIs, o_eSt, od_ePic, od_eIs, od_eSt, oi_ePic, oi_eIs, oi_eSt, i_eSt, i_eCells, e_oIs, e_oIs1, h_oIs1, e_ePic, h_ePic, n_eIs, n_ePic, n_eSt, z]
  · simp [Vz0, Vz1, Vz2, Vz3, Vz4, Vz5, Vz6, kx, SZ, beq_self_eq_true, List.contains_cons, List.contains_nil, eHands, moversM]
theorem t_can_step (n : Nat) (p : D) (sg : Sg) (hs : sg.states.length ≤ 1000) : callF prg (n + 2) 48 [p, eSg sg] = pure (eHands (moversM sg.states)) := by
  refine eq_pure fun w => ?_
  rw [c_can_step]
  simp [f_can_step, Vz0, Vz1, Vz2, Vz3, Vz4, Vz5, Vz6, kx, SZ, beq_self_eq_true, List.contains_cons, List.contains_nil, d_ePl, q_kind, q_inputs, q_rows, d_eKd, i_eKd, e_eKd, h_eKd, n_sweep, n_twice, n_borrow, d_eRows, x_eRows, l_eRows, t_eRows, d_eSc, x_eSc, l_eSc, d_eDeed, x_eDeed, x_eDeed1, d_eCells, x_eCells, l_eCells, t_eCells, a_eCells, d_eCell, x_eCell0, x_eCell1, x_eCell2, s_eCell, d_eSt, x_eSt0, x_eSt1, x_eSt2, x_eSt3, x_eSt4, b_eSt, d_eSg, x_eSg0, x_eSg1, x_eSg2, b_eSg, d_ePic, i_ePic, d_eIs, i_eIs, o_ePic, o_eIs, o_eSt, od_ePic, od_eIs, od_eSt, oi_ePic, oi_eIs, oi_eSt, i_eSt, i_eCells, e_oIs, e_oIs1, h_oIs1, e_ePic, h_ePic, n_eIs, n_ePic, n_eSt, t_movers n sg hs]
theorem mem_movers {states : List (Option St)} {h : Nat} : h ∈ moversM states ↔ ∃ s, states[h]? = some (some s) := by
  unfold moversM
  simp only [List.mem_map, List.mem_filter, Prod.exists, List.mem_zipIdx_iff_getElem?]
  constructor
  · rintro ⟨a, b, ⟨h1, h2⟩, rfl⟩
    cases a with
    | none => simp at h2
    | some s => exact ⟨s, h1⟩
  · rintro ⟨s, hs⟩
    exact ⟨some s, h, ⟨hs, rfl⟩, rfl⟩
theorem movers_len {states : List (Option St)} : (moversM states).length ≤ states.length := by
  unfold moversM
  rw [List.length_map]
  refine Nat.le_trans (List.length_filter_le _ _) (by simp)
end K02

set_option maxRecDepth 100000
set_option maxHeartbeats 1000000
namespace K02
open PySem Ev
/-- a play's scripts -/
structure RowsOk (rows : List (List Deed)) : Prop where
  l1 : 1 ≤ rows.length
  l5 : rows.length ≤ 5
  sc : ∀ sc ∈ rows, sc.length ≤ 6
  val : ∀ sc ∈ rows, ∀ v, Deed.put v ∈ sc → 0 ≤ v ∧ v < 1000
/-- what stands in a hand's place -/
structure HandIs (k : Kd) (rows : List (List Deed)) (sg : Sg) (h : Nat) (s : St) (sc : List Deed) (dd : Deed) (c0 : Cell) : Prop where
  st : sg.states[h]? = some (some s)
  row : rows[h]? = some sc
  deed : sc[s.done]? = some dd
  cell : sg.cells[h]? = some c0
  now : s.now.length < rows.length
structure Wf (k : Kd) (rows : List (List Deed)) (sg : Sg) : Prop where
  lc : sg.cells.length = rows.length
  ls : sg.states.length = rows.length
  lt : sg.told.length = rows.length
  st : ∀ (h : Nat) (s : St), sg.states[h]? = some (some s) → s.now.length < rows.length ∧ ∃ sc, rows[h]? = some sc ∧ s.done < sc.length
  tl : ∀ (h : Nat) (t : List Pic) (sc : List Deed) (o : Option St), sg.told[h]? = some t → rows[h]? = some sc → sg.states[h]? = some o → t.length ≤ (match o with | some s => s.done | none => sc.length)
  rd : ∀ (h : Nat) (s : St), sg.states[h]? = some (some s) → s.ready.isSome = true → k = .borrow ∧ s.first = none ∧ s.now = [] ∧ ∃ sc v, rows[h]? = some sc ∧ sc[s.done]? = some (.put v)
theorem Wf.hand {k : Kd} {rows : List (List Deed)} {sg : Sg} (W : Wf k rows sg) {h : Nat} {s : St} (hs : sg.states[h]? = some (some s)) : ∃ sc dd c0, HandIs k rows sg h s sc dd c0 := by
  obtain ⟨h1, sc, h2, h3⟩ := W.st h s hs
  have hl : h < rows.length := by
    have := (List.getElem?_eq_some_iff.mp h2).1
    exact this
  exact ⟨sc, sc[s.done], sg.cells[h]'(by rw [W.lc]; exact hl), ⟨hs, h2, List.getElem?_eq_getElem h3, List.getElem?_eq_getElem _, h1⟩⟩
/-- the standing behind a step -/
def stepC (k : Kd) (sg : Sg) (h : Nat) (s : St) (sc : List Deed) (dd : Deed) (c0 : Cell) : Sg :=
  ⟨match (afterM k sc dd c0 sg.cells s).1 with | some c => sg.cells.set h c | none => sg.cells, sg.states.set h (afterM k sc dd c0 sg.cells s).2.1,
    match (afterM k sc dd c0 sg.cells s).2.2 with | some p => sg.told.set h (sg.told.getD h [] ++ [p]) | none => sg.told⟩
def stepM (k : Kd) (rows : List (List Deed)) (sg : Sg) (h : Nat) : Sg :=
  match sg.states[h]? with
  | some (some s) => (match rows[h]? with
    | some sc => (match sc[s.done]? with
      | some dd => (match sg.cells[h]? with
        | some c0 => stepC k sg h s sc dd c0
        | none => sg)
      | none => sg)
    | none => sg)
  | _ => sg
theorem stepM_is {k : Kd} {rows : List (List Deed)} {sg : Sg} {h : Nat} {s : St} {sc : List Deed} {dd : Deed} {c0 : Cell} (H : HandIs k rows sg h s sc dd c0) : stepM k rows sg h = stepC k sg h s sc dd c0 := by
  unfold stepM
  rw [H.st]
  dsimp only
  rw [H.row]
  dsimp only
  rw [H.deed]
  dsimp only
  rw [H.cell]
theorem afterM_cell {k : Kd} {sc : List Deed} {dd : Deed} {c0 : Cell} {cells : List Cell} {s : St} : (afterM k sc dd c0 cells s).1.isSome = isPutM k dd s.ready := by
  cases z : isPutM k dd s.ready with
  | true =>
    cases dd with
    | see => simp [isPutM] at z
    | put v => rw [afterM_put z]; rfl
  | false =>
    rw [afterM_look z]
    unfold afterM.lookM
    split
    · rfl
    · split <;> rfl
theorem t_replaced_c (n : Nat) (cs : List Cell) (k : Nat) (c : Cell) (h : k < cs.length) (hs : cs.length ≤ 1000) : callF prg (n + 1) 6 [eCells cs, .int k, eCell c] = pure (eCells (cs.set k c)) := by
  unfold eCells
  rw [t_replaced n _ k _ (by simpa using h) (by simpa using hs), List.map_set]
theorem t_after_step (n : Nat) (k : Kd) (rows : List (List Deed)) (sg : Sg) (h : Nat) (s : St) (sc : List Deed) (dd : Deed) (c0 : Cell) (R : RowsOk rows) (W : Wf k rows sg) (H : HandIs k rows sg h s sc dd c0) :
    callF prg (n + 6) 49 [ePl k rows, eSg sg, .int h] = pure (eSg (stepC k sg h s sc dd c0)) := by
  refine eq_pure fun w => ?_
  rw [c_after_step]
  have l5 := R.l5
  have l1 := W.lc
  have l2 := W.ls
  have l3 := W.lt
  have hr := (List.getElem?_eq_some_iff.mp H.row).1
  have ta := t_after_of n k rows h sg.cells s sc dd c0 H.row H.deed (by omega) H.cell (by rw [l1]; exact H.now)
  have tn := t_next_of (n + 2) k rows h s sc dd H.row H.deed
  have ac := afterM_cell (k := k) (sc := sc) (dd := dd) (c0 := c0) (cells := sg.cells) (s := s)
  obtain ⟨t, ht⟩ : ∃ t, sg.told[h]? = some t := ⟨sg.told[h]'(by omega), List.getElem?_eq_getElem _⟩
  have tl := W.tl h t sc (some s) ht H.row H.st
  have ts := R.sc sc (List.mem_of_getElem? H.row)
  have td := (List.getElem?_eq_some_iff.mp H.deed).1
  dsimp only at tl
  have htd : sg.told.getD h [] = t := by simp [List.getD, ht]
  unfold stepC
  rw [htd]
  generalize hres : afterM k sc dd c0 sg.cells s = res at ta ac
  obtain ⟨c, st, it⟩ := res
  dsimp only at ta ac ⊢
  have r1 := fun x => t_replaced_c (n + 4) sg.cells h x (by omega) (by omega)
  have r2 := fun x => t_replaced (n + 4) (sg.states.map (eO eSt)) h x (by simp; omega) (by simp; omega)
  have r3 := fun x => t_replaced (n + 4) (sg.told.map eTold) h x (by simp; omega) (by simp; omega)
  cases c with
  | some c =>
    rw [show isPutM k dd s.ready = true from ac.symm] at tn
    cases it with
    | none => simp [f_after_step, Vz0, Vz1, Vz2, Vz3, Vz4, Vz5, Vz6, kx, SZ, beq_self_eq_true, List.contains_cons, List.contains_nil, d_ePl, q_kind, q_inputs, q_rows, d_eKd, i_eKd, e_eKd, h_eKd, n_sweep, n_twice, n_borrow, d_eRows, x_eRows, l_eRows, t_eRows, d_eSc, x_eSc, l_eSc, d_eDeed, x_eDeed, x_eDeed1, d_eCells, x_eCells, l_eCells, t_eCells, a_eCells, d_eCell, x_eCell0, x_eCell1, x_eCell2, s_eCell, d_eSt, x_eSt0, x_eSt1, x_eSt2, x_eSt3, x_eSt4, b_eSt, d_eSg, x_eSg0, x_eSg1, x_eSg2, b_eSg, d_ePic, i_ePic, d_eIs, i_eIs, o_ePic, o_eIs, o_eSt, od_ePic, od_eIs, od_eSt, oi_ePic, oi_eIs, oi_eSt, i_eSt, i_eCells, e_oIs, e_oIs1, h_oIs1, e_ePic, h_ePic, n_eIs, n_ePic, n_eSt, H.st, eO_some, ta, tn, eqv_tup, D.pyAll, D.py, PyData.eqvAll, PyData.eqv, shape2, D.shp, D.shpAll, D.dep, D.depAll, r1, r2, eO_none, eSg, List.map_set]
    | some p =>
      simp [f_after_step, Vz0, Vz1, Vz2, Vz3, Vz4, Vz5, Vz6, kx, SZ, beq_self_eq_true, List.contains_cons, List.contains_nil, d_ePl, q_kind, q_inputs, q_rows, d_eKd, i_eKd, e_eKd, h_eKd, n_sweep, n_twice, n_borrow, d_eRows, x_eRows, l_eRows, t_eRows, d_eSc, x_eSc, l_eSc, d_eDeed, x_eDeed, x_eDeed1, d_eCells, x_eCells, l_eCells, t_eCells, a_eCells, d_eCell, x_eCell0, x_eCell1, x_eCell2, s_eCell, d_eSt, x_eSt0, x_eSt1, x_eSt2, x_eSt3, x_eSt4, b_eSt, d_eSg, x_eSg0, x_eSg1, x_eSg2, b_eSg, d_ePic, i_ePic, d_eIs, i_eIs, o_ePic, o_eIs, o_eSt, od_ePic, od_eIs, od_eSt, oi_ePic, oi_eIs, oi_eSt, i_eSt, i_eCells, e_oIs, e_oIs1, h_oIs1, e_ePic, h_ePic, n_eIs, n_ePic, n_eSt, H.st, eO_some, ta, tn, eqv_tup, D.pyAll, D.py, PyData.eqvAll, PyData.eqv, shape2, D.shp, D.shpAll, D.dep, D.depAll, r1, r2, r3, eO_none, ht, eTold]
      refine ⟨by omega, ?_⟩
      simp [Vz0, Vz1, Vz2, Vz3, Vz4, Vz5, Vz6, kx, SZ, beq_self_eq_true, List.contains_cons, List.contains_nil, r2, r3, eSg, eTold, List.map_set]
  | none =>
    rw [show isPutM k dd s.ready = false from ac.symm] at tn
    cases it with
    | none => simp [f_after_step, Vz0, Vz1, Vz2, Vz3, Vz4, Vz5, Vz6, kx, SZ, beq_self_eq_true, List.contains_cons, List.contains_nil, d_ePl, q_kind, q_inputs, q_rows, d_eKd, i_eKd, e_eKd, h_eKd, n_sweep, n_twice, n_borrow, d_eRows, x_eRows, l_eRows, t_eRows, d_eSc, x_eSc, l_eSc, d_eDeed, x_eDeed, x_eDeed1, d_eCells, x_eCells, l_eCells, t_eCells, a_eCells, d_eCell, x_eCell0, x_eCell1, x_eCell2, s_eCell, d_eSt, x_eSt0, x_eSt1, x_eSt2, x_eSt3, x_eSt4, b_eSt, d_eSg, x_eSg0, x_eSg1, x_eSg2, b_eSg, d_ePic, i_ePic, d_eIs, i_eIs, o_ePic, o_eIs, o_eSt, od_ePic, od_eIs, od_eSt, oi_ePic, oi_eIs, oi_eSt, i_eSt, i_eCells, e_oIs, e_oIs1, h_oIs1, e_ePic, h_ePic, n_eIs, n_ePic, n_eSt, H.st, eO_some, ta, tn, eqv_tup, D.pyAll, D.py, PyData.eqvAll, PyData.eqv, shape2, D.shp, D.shpAll, D.dep, D.depAll, r1, r2, eO_none, eSg, List.map_set]
    | some p =>
      simp [f_after_step, Vz0, Vz1, Vz2, Vz3, Vz4, Vz5, Vz6, kx, SZ, beq_self_eq_true, List.contains_cons, List.contains_nil, d_ePl, q_kind, q_inputs, q_rows, d_eKd, i_eKd, e_eKd, h_eKd, n_sweep, n_twice, n_borrow, d_eRows, x_eRows, l_eRows, t_eRows, d_eSc, x_eSc, l_eSc, d_eDeed, x_eDeed, x_eDeed1, d_eCells, x_eCells, l_eCells, t_eCells, a_eCells, d_eCell, x_eCell0, x_eCell1, x_eCell2, s_eCell, d_eSt, x_eSt0, x_eSt1, x_eSt2, x_eSt3, x_eSt4, b_eSt, d_eSg, x_eSg0, x_eSg1, x_eSg2, b_eSg, d_ePic, i_ePic, d_eIs, i_eIs, o_ePic, o_eIs, o_eSt, od_ePic, od_eIs, od_eSt, oi_ePic, oi_eIs, oi_eSt, i_eSt, i_eCells, e_oIs, e_oIs1, h_oIs1, e_ePic, h_ePic, n_eIs, n_ePic, n_eSt, H.st, eO_some, ta, tn, eqv_tup, D.pyAll, D.py, PyData.eqvAll, PyData.eqv, shape2, D.shp, D.shpAll, D.dep, D.depAll, r1, r2, r3, eO_none, ht, eTold]
      refine ⟨by omega, ?_⟩
      simp [Vz0, Vz1, Vz2, Vz3, Vz4, Vz5, Vz6, kx, SZ, beq_self_eq_true, List.contains_cons, List.contains_nil, r2, r3, eSg, eTold, List.map_set]
end K02

set_option maxRecDepth 100000
set_option maxHeartbeats 1000000
namespace K02
open PySem Ev
theorem freshM_some {sc : List Deed} {d : Nat} {s : St} (h : freshM sc d = some s) : s = ⟨d, none, none, [], none⟩ ∧ d < sc.length := by
  unfold freshM at h
  split at h
  · exact ⟨(Option.some.inj h).symm, by assumption⟩
  · cases h
theorem freshM_none {sc : List Deed} {d : Nat} (h : freshM sc d = none) : sc.length ≤ d := by
  unfold freshM at h
  split at h
  · cases h
  · omega
def doneM (sc : List Deed) : Option St → Nat
  | some s => s.done
  | none => sc.length
theorem afterM_spec {k : Kd} {sc : List Deed} {dd : Deed} {c0 : Cell} {cells : List Cell} {s : St} (hd : sc[s.done]? = some dd) (hn : s.now.length < cells.length) (hr : s.ready.isSome = true → k = .borrow) :
    (∀ s', (afterM k sc dd c0 cells s).2.1 = some s' → s'.now.length < cells.length ∧ s'.done < sc.length ∧ (s'.ready.isSome = true → k = .borrow ∧ s'.first = none ∧ s'.now = [] ∧ (∃ v, dd = .put v) ∧ s'.done = s.done)) ∧
    (∀ l, l ≤ s.done → ((afterM k sc dd c0 cells s).2.2 = none → l ≤ doneM sc (afterM k sc dd c0 cells s).2.1) ∧ (∀ p, (afterM k sc dd c0 cells s).2.2 = some p → l + 1 ≤ doneM sc (afterM k sc dd c0 cells s).2.1)) := by
  have hl : s.done < sc.length := (List.getElem?_eq_some_iff.mp hd).1
  have fr : ∀ s', freshM sc (s.done + 1) = some s' → s'.now.length < cells.length ∧ s'.done < sc.length ∧ (s'.ready.isSome = true → k = .borrow ∧ s'.first = none ∧ s'.now = [] ∧ (∃ v, dd = .put v) ∧ s'.done = s.done) := fun s' h => by
    obtain ⟨rfl, h2⟩ := freshM_some h
    exact ⟨by simp; omega, h2, fun z => by simp at z⟩
  have fd : s.done + 1 ≤ doneM sc (freshM sc (s.done + 1)) := by
    cases z : freshM sc (s.done + 1) with
    | none => have := freshM_none z; simp [doneM]; omega
    | some s' => obtain ⟨rfl, _⟩ := freshM_some z; simp [doneM]
  cases z : isPutM k dd s.ready with
  | true =>
    cases dd with
    | see => simp [isPutM] at z
    | put v =>
      rw [afterM_put z]
      refine ⟨fr, fun l h => ⟨fun _ => ?_, fun p hp => by cases hp⟩⟩
      dsimp only
      omega
  | false =>
    rw [afterM_look z]
    unfold afterM.lookM
    rw [List.getElem?_eq_getElem hn]
    dsimp only
    by_cases hw : s.now.length + 1 = cells.length
    · rw [if_pos hw]
      dsimp only
      unfold sweptM
      split
      · rename_i hq
        refine ⟨fun s' h => ?_, fun l h => ⟨fun _ => ?_, fun p hp => by cases hp⟩⟩
        · cases h
          exact ⟨by simp; omega, hl, fun z => by simp at z⟩
        · simp [doneM]; omega
      · rename_i p hq
        cases dd with
        | see =>
          refine ⟨fr, fun l h => ⟨fun q => absurd q (by simp), fun p hp => ?_⟩⟩
          dsimp only
          omega
        | put v =>
          refine ⟨fun s' h => ?_, fun l h => ⟨fun _ => ?_, fun p hp => by cases hp⟩⟩
          · cases h
            refine ⟨by simp; omega, hl, fun _ => ⟨?_, rfl, rfl, ⟨v, rfl⟩, rfl⟩⟩
            unfold isPutM at z
            simp at z
            exact z.1
          · simp [doneM]; omega
    · rw [if_neg hw]
      refine ⟨fun s' h => ?_, fun l h => ⟨fun _ => ?_, fun p hp => by cases hp⟩⟩
      · cases h
        exact ⟨by simp; omega, hl, fun z => by simp at z⟩
      · simp [doneM]; omega
theorem Wf.step {k : Kd} {rows : List (List Deed)} {sg : Sg} {h : Nat} {s : St} {sc : List Deed} {dd : Deed} {c0 : Cell} (W : Wf k rows sg) (H : HandIs k rows sg h s sc dd c0) : Wf k rows (stepC k sg h s sc dd c0) := by
  have hl : h < rows.length := (List.getElem?_eq_some_iff.mp H.row).1
  have S := afterM_spec (k := k) (c0 := c0) (cells := sg.cells) H.deed (by rw [W.lc]; exact H.now) fun z => (W.rd h s H.st z).1
  have lc := W.lc
  have ls := W.ls
  have lt := W.lt
  unfold stepC
  generalize afterM k sc dd c0 sg.cells s = res at S
  obtain ⟨c, st, it⟩ := res
  dsimp only at S ⊢
  have L : (sg.states.set h st).length = rows.length := by simpa using ls
  have at1 : ∀ j o, (sg.states.set h st)[j]? = some o → (j = h ∧ o = st) ∨ (j ≠ h ∧ sg.states[j]? = some o) := fun j o q => by
    by_cases e : j = h
    · subst e
      rw [List.getElem?_set_self (by omega)] at q
      exact .inl ⟨rfl, (Option.some.inj q).symm⟩
    · rw [List.getElem?_set_ne (Ne.symm e)] at q
      exact .inr ⟨e, q⟩
  refine ⟨?_, L, ?_, fun j s' q => ?_, fun j t sc' o h1 h2 h3 => ?_, fun j s' q z => ?_⟩
  · cases c <;> simp [lc]
  · cases it <;> simp [lt]
  · rcases at1 j _ q with ⟨rfl, e⟩ | ⟨_, e⟩
    · obtain ⟨a, b, _⟩ := S.1 s' e.symm
      exact ⟨by rw [← lc]; exact a, sc, H.row, b⟩
    · exact W.st j s' e
  · show t.length ≤ doneM sc' o
    rcases at1 j _ h3 with ⟨rfl, rfl⟩ | ⟨ne, e⟩
    · rw [H.row] at h2
      cases h2
      obtain ⟨t0, ht0⟩ : ∃ t0, sg.told[j]? = some t0 := ⟨sg.told[j]'(by omega), List.getElem?_eq_getElem _⟩
      have tl := W.tl j t0 sc (some s) ht0 H.row H.st
      cases it with
      | none =>
        dsimp only at h1
        rw [ht0] at h1
        cases h1
        exact (S.2 _ tl).1 rfl
      | some p =>
        dsimp only at h1
        rw [List.getElem?_set_self (by omega)] at h1
        cases h1
        have := (S.2 _ tl).2 p rfl
        simpa [List.getD, ht0] using this
    · have h1' : sg.told[j]? = some t := by
        cases it with
        | none => exact h1
        | some p =>
          dsimp only at h1
          rw [List.getElem?_set_ne (Ne.symm ne)] at h1
          exact h1
      exact W.tl j t sc' o h1' h2 e
  · rcases at1 j _ q with ⟨rfl, e⟩ | ⟨_, e⟩
    · obtain ⟨_, _, c⟩ := S.1 s' e.symm
      obtain ⟨c1, c2, c3, ⟨v, rfl⟩, c5⟩ := c z
      exact ⟨c1, c2, c3, sc, v, H.row, by rw [c5]; exact H.deed⟩
    · exact W.rd j s' e z
theorem wf_begun (k : Kd) {rows : List (List Deed)} (R : RowsOk rows) : Wf k rows (begunM rows) := by
  have l1 := R.l1
  have st : ∀ (h : Nat) (s : St), (begunM rows).states[h]? = some (some s) → ∃ sc, rows[h]? = some sc ∧ s = ⟨0, none, none, [], none⟩ ∧ 0 < sc.length := fun h s q => by
    simp only [begunM, List.getElem?_map] at q
    obtain ⟨sc, h1, h2⟩ := Option.map_eq_some_iff.mp q
    obtain ⟨e, l⟩ := freshM_some h2
    exact ⟨sc, h1, e, l⟩
  refine ⟨by simp [begunM], by simp [begunM], by simp [begunM], fun h s q => ?_, fun h t sc o h1 h2 h3 => ?_, fun h s q z => ?_⟩
  · obtain ⟨sc, h1, rfl, h3⟩ := st h s q
    exact ⟨by simp; omega, sc, h1, h3⟩
  · simp only [begunM, List.getElem?_replicate] at h1
    split at h1
    · cases h1; simp
    · cases h1
  · obtain ⟨sc, h1, rfl, h3⟩ := st h s q
    simp at z
/-- the standing behind i steps -/
def sgAt (k : Kd) (rows : List (List Deed)) (W : List Nat) : Nat → Sg
  | 0 => begunM rows
  | i + 1 => match W[i]? with
    | some h => stepM k rows (sgAt k rows W i) h
    | none => sgAt k rows W i
/-- each step is of a hand that is not over -/
def Woven (k : Kd) (rows : List (List Deed)) (W : List Nat) : Prop := ∀ i h, W[i]? = some h → ∃ s, (sgAt k rows W i).states[h]? = some (some s)
theorem sgAt_wf {k : Kd} {rows : List (List Deed)} (R : RowsOk rows) {W : List Nat} (V : Woven k rows W) : ∀ i, Wf k rows (sgAt k rows W i)
  | 0 => wf_begun k R
  | i + 1 => by
    have ih := sgAt_wf R V i
    rw [sgAt]
    cases hw : W[i]? with
    | none => exact ih
    | some h =>
      dsimp only
      obtain ⟨s, hs⟩ := V i h hw
      obtain ⟨sc, dd, c0, H⟩ := ih.hand hs
      rw [stepM_is H]
      exact ih.step H
theorem t_is_hand (n : Nat) (k : Kd) (rows : List (List Deed)) (i : Int) : callF prg (n + 4) 16 [ePl k rows, .int i] = pure (.bl (decide (0 ≤ i ∧ i < rows.length))) := by
  refine eq_pure fun w => ?_
  rw [c_is_hand]
  simp [f_is_hand, Vz0, Vz1, Vz2, Vz3, Vz4, Vz5, Vz6, kx, SZ, beq_self_eq_true, List.contains_cons, List.contains_nil, d_ePl, q_kind, q_inputs, q_rows, d_eKd, i_eKd, e_eKd, h_eKd, n_sweep, n_twice, n_borrow, d_eRows, x_eRows, l_eRows, t_eRows, d_eSc, x_eSc, l_eSc, d_eDeed, x_eDeed, x_eDeed1, d_eCells, x_eCells, l_eCells, t_eCells, a_eCells, d_eCell, x_eCell0, x_eCell1, x_eCell2, s_eCell, d_eSt, x_eSt0, x_eSt1, x_eSt2, x_eSt3, x_eSt4, b_eSt, d_eSg, x_eSg0, x_eSg1, x_eSg2, b_eSg, d_ePic, i_ePic, d_eIs, i_eIs, o_ePic, o_eIs, o_eSt, od_ePic, od_eIs, od_eSt, oi_ePic, oi_eIs, oi_eSt, i_eSt, i_eCells, e_oIs, e_oIs1, h_oIs1, e_ePic, h_ePic, n_eIs, n_ePic, n_eSt, t_is_below n]
theorem t_check_hand (n : Nat) (k : Kd) (rows : List (List Deed)) (h : Nat) (hl : h < rows.length) : callF prg (n + 5) 17 [ePl k rows, .int h] = pure .non := by
  refine eq_pure fun w => ?_
  rw [c_check_hand]
  have e : decide (0 ≤ (h : Int) ∧ (h : Int) < rows.length) = true := by simp; omega
  have q := t_is_hand n k rows h
  rw [e] at q
  simp [f_check_hand, Vz0, Vz1, Vz2, Vz3, Vz4, Vz5, Vz6, kx, SZ, beq_self_eq_true, List.contains_cons, List.contains_nil, d_ePl, q_kind, q_inputs, q_rows, d_eKd, i_eKd, e_eKd, h_eKd, n_sweep, n_twice, n_borrow, d_eRows, x_eRows, l_eRows, t_eRows, d_eSc, x_eSc, l_eSc, d_eDeed, x_eDeed, x_eDeed1, d_eCells, x_eCells, l_eCells, t_eCells, a_eCells, d_eCell, x_eCell0, x_eCell1, x_eCell2, s_eCell, d_eSt, x_eSt0, x_eSt1, x_eSt2, x_eSt3, x_eSt4, b_eSt, d_eSg, x_eSg0, x_eSg1, x_eSg2, b_eSg, d_ePic, i_ePic, d_eIs, i_eIs, o_ePic, o_eIs, o_eSt, od_ePic, od_eIs, od_eSt, oi_ePic, oi_eIs, oi_eSt, i_eSt, i_eCells, e_oIs, e_oIs1, h_oIs1, e_ePic, h_ePic, n_eIs, n_ePic, n_eSt, q]
theorem t_check_step (n : Nat) (k : Kd) (rows : List (List Deed)) (sg : Sg) (h : Nat) (s : St) (hl : h < rows.length) (hs : sg.states[h]? = some (some s)) : callF prg (n + 6) 50 [ePl k rows, eSg sg, .int h] = pure .non := by
  refine eq_pure fun w => ?_
  rw [c_check_step]
  simp [f_check_step, Vz0, Vz1, Vz2, Vz3, Vz4, Vz5, Vz6, kx, SZ, beq_self_eq_true, List.contains_cons, List.contains_nil, d_ePl, q_kind, q_inputs, q_rows, d_eKd, i_eKd, e_eKd, h_eKd, n_sweep, n_twice, n_borrow, d_eRows, x_eRows, l_eRows, t_eRows, d_eSc, x_eSc, l_eSc, d_eDeed, x_eDeed, x_eDeed1, d_eCells, x_eCells, l_eCells, t_eCells, a_eCells, d_eCell, x_eCell0, x_eCell1, x_eCell2, s_eCell, d_eSt, x_eSt0, x_eSt1, x_eSt2, x_eSt3, x_eSt4, b_eSt, d_eSg, x_eSg0, x_eSg1, x_eSg2, b_eSg, d_ePic, i_ePic, d_eIs, i_eIs, o_ePic, o_eIs, o_eSt, od_ePic, od_eIs, od_eSt, oi_ePic, oi_eIs, oi_eSt, i_eSt, i_eCells, e_oIs, e_oIs1, h_oIs1, e_ePic, h_ePic, n_eIs, n_ePic, n_eSt, t_check_hand n k rows h hl, hs]
theorem t_step (n : Nat) (k : Kd) (rows : List (List Deed)) (sg : Sg) (h : Nat) (s : St) (sc : List Deed) (dd : Deed) (c0 : Cell) (R : RowsOk rows) (W : Wf k rows sg) (H : HandIs k rows sg h s sc dd c0) :
    callF prg (n + 7) 51 [ePl k rows, eSg sg, .int h] = pure (eSg (stepC k sg h s sc dd c0)) := by
  refine eq_pure fun w => ?_
  rw [c_step]
  simp [f_step, Vz0, Vz1, Vz2, Vz3, Vz4, Vz5, Vz6, kx, SZ, beq_self_eq_true, List.contains_cons, List.contains_nil, d_ePl, q_kind, q_inputs, q_rows, d_eKd, i_eKd, e_eKd, h_eKd, n_sweep, n_twice, n_borrow, d_eRows, x_eRows, l_eRows, t_eRows, d_eSc, x_eSc, l_eSc, d_eDeed, x_eDeed, x_eDeed1, d_eCells, x_eCells, l_eCells, t_eCells, a_eCells, d_eCell, x_eCell0, x_eCell1, x_eCell2, s_eCell, d_eSt, x_eSt0, x_eSt1, x_eSt2, x_eSt3, x_eSt4, b_eSt, d_eSg, x_eSg0, x_eSg1, x_eSg2, b_eSg, d_ePic, i_ePic, d_eIs, i_eIs, o_ePic, o_eIs, o_eSt, od_ePic, od_eIs, od_eSt, oi_ePic, oi_eIs, oi_eSt, i_eSt, i_eCells, e_oIs, e_oIs1, h_oIs1, e_ePic, h_ePic, n_eIs, n_ePic, n_eSt, t_check_step n k rows sg h s (List.getElem?_eq_some_iff.mp H.row).1 H.st, t_after_step n k rows sg h s sc dd c0 R W H]
end K02

set_option maxRecDepth 100000
set_option maxHeartbeats 1000000
namespace K02
open PySem Ev
/-! ### data -/
def NDF (d : D) : Prop := d = .non ∨ (∃ i, d = .int i) ∨ (∃ b, d = .bl b) ∨ ∃ s, d = .str s ∧ PyData.strOk s = true
/-- numbers, flags, texts, None, tuples of such, so deep -/
def Nd : Nat → D → Prop
  | 0, d => NDF d
  | m + 1, d => NDF d ∨ ∃ xs, d = .tup xs ∧ xs.length ≤ 100000 ∧ ∀ x ∈ xs, Nd m x
theorem Nd.flat {m : Nat} {d : D} (h : NDF d) : Nd m d := by
  cases m with
  | zero => exact h
  | succ m => exact .inl h
theorem Nd.int {m : Nat} {i : Int} : Nd m (.int i) := .flat (.inr (.inl ⟨i, rfl⟩))
theorem Nd.bl {m : Nat} {i : Bool} : Nd m (.bl i) := .flat (.inr (.inr (.inl ⟨i, rfl⟩)))
theorem Nd.non {m : Nat} : Nd m .non := .flat (.inl rfl)
theorem Nd.str {m : Nat} {s : Str} (h : PyData.strOk s = true) : Nd m (.str s) := .flat (.inr (.inr (.inr ⟨s, rfl, h⟩)))
theorem Nd.tup {m : Nat} {xs : List D} (h : xs.length ≤ 100000) (hx : ∀ x ∈ xs, Nd m x) : Nd (m + 1) (.tup xs) := .inr ⟨xs, rfl, h, hx⟩
theorem NDF.tup {xs : List D} (h : NDF (.tup xs)) : False := by
  rcases h with h | ⟨i, h⟩ | ⟨b, h⟩ | ⟨s, h, _⟩ <;> cases h
theorem Nd.of {m : Nat} {xs : List D} (h : Nd (m + 1) (.tup xs)) : xs.length ≤ 100000 ∧ ∀ x ∈ xs, Nd m x := by
  rcases h with h | ⟨ys, e, h1, h2⟩
  · exact h.tup.elim
  · cases e; exact ⟨h1, h2⟩
theorem Nd.up : ∀ {m k : Nat} {d : D}, Nd m d → m ≤ k → Nd k d
  | 0, k, d, h, _ => .flat h
  | m + 1, 0, d, h, l => by omega
  | m + 1, k + 1, d, h, l => by
    rcases h with h | ⟨xs, rfl, h1, h2⟩
    · exact .flat h
    · exact .tup h1 fun x hx => (h2 x hx).up (by omega)
theorem ndf_ok {d : D} {k : Nat} (h : NDF d) : D.ok k d = true := by
  rcases h with rfl | ⟨i, rfl⟩ | ⟨b, rfl⟩ | ⟨s, rfl, h⟩
  · exact ok_non
  · exact ok_int
  · unfold D.ok; rfl
  · simp [D.ok, D.shp, D.dep, h]
theorem Nd.ok : ∀ {m : Nat} {d : D}, Nd m d → D.ok m d = true
  | 0, d, h => ndf_ok h
  | m + 1, d, h => by
    rcases h with h | ⟨xs, rfl, h1, h2⟩
    · exact ndf_ok h
    · exact ok_tup.mpr fun x hx => (h2 x hx).ok
theorem Nd.shape {m k : Nat} {a b : D} (h : Nd m a) (g : Nd k b) (hm : m ≤ 60) (hk : k ≤ 60) : shape2 a b = true := shape_ok h.ok g.ok hm hk
mutual
theorem py_refl : ∀ d : D, PyData.eqv d.py d.py = true
  | .non => by simp [D.py, PyData.eqv]
  | .bl b => by simp [D.py, PyData.eqv]
  | .int i => by simp [D.py, PyData.eqv]
  | .str s => by simp [D.py, PyData.eqv]
  | .tup xs => by rw [D.py, PyData.eqv]; exact py_reflAll xs
  | .lst xs => by rw [D.py, PyData.eqv]; exact py_reflAll xs
  | .dic _ => by simp [D.py, PyData.eqv]
  | .ins _ _ => by simp [D.py, PyData.eqv]
  | .cel _ => by simp [D.py, PyData.eqv]
  | .fn _ => by simp [D.py, PyData.eqv]
  | .scr _ => by simp [D.py, PyData.eqv]
theorem py_reflAll : ∀ xs : List D, PyData.eqvAll (D.pyAll xs) (D.pyAll xs) = true
  | [] => by simp [D.pyAll, PyData.eqvAll]
  | x :: r => by rw [D.pyAll, PyData.eqvAll, py_refl x, py_reflAll r]; rfl
end
theorem eqv_self (d : D) : D.eqv d d = true := py_refl d
/-! ### the same -/
def SmI (d : D) (i : Nat) (e : Ev.Env) (w w' : Wd) : Prop := w' = w ∧ ∃ j2 j3, e = [.val d, .val d, j2, j3]
theorem same_flat (n : Nat) (d : D) (h : NDF d) : callF prg (n + 2) 57 [d, d] = pure (.bl true) := by
  refine eq_pure fun w => ?_
  rw [c__law_same]
  rcases h with rfl | ⟨i, rfl⟩ | ⟨b, rfl⟩ | ⟨s, rfl, hs⟩
  · simp [f__law_same, Vz0, Vz1, Vz2, Vz3, Vz4, Vz5, Vz6, kx, SZ, beq_self_eq_true, List.contains_cons, List.contains_nil]
  · have q := B.l_is_integer n (.int i) trivial
    simp [f__law_same, Vz0, Vz1, Vz2, Vz3, Vz4, Vz5, Vz6, kx, SZ, beq_self_eq_true, List.contains_cons, List.contains_nil, isBl, q, B.isIntD]
  · cases b <;> simp [f__law_same, Vz0, Vz1, Vz2, Vz3, Vz4, Vz5, Vz6, kx, SZ, beq_self_eq_true, List.contains_cons, List.contains_nil, isBl]
  · have sp := B.strOk_shape hs hs
    simp [f__law_same, Vz0, Vz1, Vz2, Vz3, Vz4, Vz5, Vz6, kx, SZ, beq_self_eq_true, List.contains_cons, List.contains_nil, isBl, sp]
theorem t_same : ∀ (m n : Nat) (d : D), Nd m d → callF prg (n + m + 2) 57 [d, d] = pure (.bl true)
  | 0, n, d, h => same_flat n d h
  | m + 1, n, d, h => by
    rcases h with h | ⟨xs, rfl, hl, hx⟩
    · exact same_flat (n + (m + 1)) d h
    · refine eq_pure fun w => ?_
      show wp (callF prg (n + m + 2 + 1) _ _) w _ _
      rw [c__law_same]
      simp [f__law_same, Vz0, Vz1, Vz2, Vz3, Vz4, Vz5, Vz6, kx, SZ, beq_self_eq_true, List.contains_cons, List.contains_nil, isBl, isas_t, B.zip2]
      refine wp_forGo0 (fun i e w' => SmI (.tup xs) i e w w') ⟨rfl, _, _, rfl⟩ (fun i d e w' hd hi => ?_) fun e w' hi => ?_
      · obtain ⟨rfl, j2, j3, rfl⟩ := hi
        rw [List.getElem?_map] at hd
        obtain ⟨p, hp, rfl⟩ := Option.map_eq_some_iff.mp hd
        rw [List.getElem?_zip_eq_some] at hp
        obtain ⟨p1, p2⟩ := hp
        have e : p.2 = p.1 := by rw [p1] at p2; exact (Option.some.inj p2).symm
        have q := t_same m n p.1 (hx _ (List.mem_of_getElem? p1))
        simp [Vz0, Vz1, Vz2, Vz3, Vz4, Vz5, Vz6, kx, SZ, beq_self_eq_true, List.contains_cons, List.contains_nil, e, q]
        exact ⟨rfl, _, _, rfl⟩
      · obtain ⟨rfl, j2, j3, rfl⟩ := hi
        simp [Vz0, Vz1, Vz2, Vz3, Vz4, Vz5, Vz6, kx, SZ, beq_self_eq_true, List.contains_cons, List.contains_nil]
theorem nd_hands {m : Nat} {W : List Nat} (h : W.length ≤ 100000) : Nd (m + 1) (eHands W) := by
  refine .tup (by simpa using h) fun x hx => ?_
  obtain ⟨i, _, rfl⟩ := List.mem_map.mp hx
  exact .int
/-! ### the hands that are over -/
theorem sh_ints (i : Int) (W : List Nat) : shapes (.int i) (W.map fun (h : Nat) => .int (h : Int)) = true := by
  have a : ∀ l : List Nat, D.shpAll (l.map fun (h : Nat) => .int (h : Int)) = true := fun l => by
    induction l with
    | nil => rfl
    | cons a r ih => simp [D.shpAll, D.shp, ih]
  have b : ∀ l : List Nat, D.depAll (l.map fun (h : Nat) => .int (h : Int)) = 0 := fun l => by
    induction l with
    | nil => rfl
    | cons a r ih => simp [D.depAll, D.dep, ih]
  unfold shapes
  rw [a, b]
  simp [D.shp, D.dep]
theorem has_ints (i : Int) (W : List Nat) : hasD (.int i) (W.map fun (h : Nat) => .int (h : Int)) = decide (∃ h ∈ W, (h : Int) = i) := by
  unfold hasD
  rw [List.any_map]
  rw [Bool.eq_iff_iff]
  simp [eqv_int, Function.comp_def]

section
variable {k : Kd} {rows : List (List Deed)} {W : List Nat}
theorem cells_look {sg : Sg} {h : Nat} {s : St} {sc : List Deed} {dd : Deed} {c0 : Cell} (hp : isPutM k dd s.ready = false) : (stepC k sg h s sc dd c0).cells = sg.cells := by
  unfold stepC
  have q := afterM_cell (k := k) (sc := sc) (dd := dd) (c0 := c0) (cells := sg.cells) (s := s)
  rw [hp, Option.isSome_eq_false_iff, Option.isNone_iff_eq_none] at q
  rw [q]
theorem cells_put {sg : Sg} {h : Nat} {s : St} {sc : List Deed} {v : Int} {c0 : Cell} (hp : isPutM k (.put v) s.ready = true) : (stepC k sg h s sc (.put v) c0).cells = sg.cells.set h ⟨c0.n + 1, v, s.ready⟩ := by
  unfold stepC
  rw [afterM_put hp]
theorem freshM_first {sc : List Deed} {d : Nat} {s : St} (h : freshM sc d = some s) : s.first = none ∧ s.last = none ∧ s.now = [] ∧ s.ready = none := by
  obtain ⟨rfl, _⟩ := freshM_some h
  exact ⟨rfl, rfl, rfl, rfl⟩
/-- the state behind a look's step -/
inductive LookEnd (k : Kd) (sc : List Deed) (dd : Deed) (s : St) (m : Nat) (c : Cell) : Option St → Option Pic → Prop where
  | on (h : s.now.length + 1 ≠ m) : LookEnd k sc dd s m c (some { s with now := s.now ++ [c], ready := none }) none
  | more (h : s.now.length + 1 = m) (hr : resultM k s.first s.last (s.now ++ [c]) = none) :
      LookEnd k sc dd s m c (some ⟨s.done, some (match s.first with | none => nums (s.now ++ [c]) | some f => f), some (nums (s.now ++ [c])), [], none⟩) none
  | see {p : Pic} {st : Option St} (h : s.now.length + 1 = m) (hd : dd = .see) (hr : resultM k s.first s.last (s.now ++ [c]) = some p) (hf : st = freshM sc (s.done + 1)) : LookEnd k sc dd s m c st (some p)
  | put {p : Pic} {v : Int} (h : s.now.length + 1 = m) (hd : dd = .put v) (hr : resultM k s.first s.last (s.now ++ [c]) = some p) : LookEnd k sc dd s m c (some ⟨s.done, none, none, [], some p⟩) none
theorem look_end {sc : List Deed} {dd : Deed} {c0 c : Cell} {cells : List Cell} {s : St} (hp : isPutM k dd s.ready = false) (hc : cells[s.now.length]? = some c) : LookEnd k sc dd s cells.length c (afterM k sc dd c0 cells s).2.1 (afterM k sc dd c0 cells s).2.2 := by
  rw [afterM_look hp]
  unfold afterM.lookM
  rw [hc]
  dsimp only
  by_cases hw : s.now.length + 1 = cells.length
  · rw [if_pos hw]
    unfold sweptM
    dsimp only
    split
    · exact .more hw (by assumption)
    · cases dd with
      | see => exact .see hw rfl (by assumption) rfl
      | put v => exact .put hw rfl (by assumption)
  · rw [if_neg hw]
    exact .on hw
end
def CellOk (m : Nat) (c : Cell) : Prop := ∀ p, c.p = some p → p.length ≤ m
theorem lentM_mem : ∀ {ns : List Int} {cs : List Cell} {p : Pic}, lentM ns cs = some p → ∃ c ∈ cs, c.p = some p
  | [], _, _, h => by simp [lentM] at h
  | _ :: _, [], _, h => by simp [lentM] at h
  | n :: ns, c :: cs, p, h => by
    rw [lentM] at h
    split at h
    · exact ⟨c, List.mem_cons_self .., h⟩
    · obtain ⟨c', h1, h2⟩ := lentM_mem h
      exact ⟨c', List.mem_cons_of_mem _ h1, h2⟩
theorem resultM_len {k : Kd} {f l : Option (List Int)} {cs : List Cell} {m : Nat} {p : Pic} (hc : ∀ c ∈ cs, CellOk m c) (hl : cs.length ≤ m) (h : resultM k f l cs = some p) : p.length ≤ m := by
  unfold resultM at h
  split at h
  · cases h; simpa [pict] using hl
  · split at h
    · split at h
      · obtain ⟨c, h1, h2⟩ := lentM_mem h
        exact hc c h1 p h2
      · cases h
    · cases h
def StOk (m : Nat) (s : St) : Prop := (∀ c ∈ s.now, CellOk m c) ∧ ∀ p, s.ready = some p → p.length ≤ m
theorem afterM_pics {k : Kd} {sc : List Deed} {dd : Deed} {c0 : Cell} {cells : List Cell} {s : St} {m : Nat} (hc : ∀ c ∈ cells, CellOk m c) (hs : StOk m s) (hl : cells.length ≤ m) (hn : s.now.length < cells.length) :
    (∀ c, (afterM k sc dd c0 cells s).1 = some c → CellOk m c) ∧ (∀ s', (afterM k sc dd c0 cells s).2.1 = some s' → StOk m s') ∧ ∀ p, (afterM k sc dd c0 cells s).2.2 = some p → p.length ≤ m := by
  have fr : ∀ d s', freshM sc d = some s' → StOk m s' := fun d s' z => by
    obtain ⟨rfl, _⟩ := freshM_some z
    exact ⟨fun c h => by simp at h, fun p h => by simp at h⟩
  cases y : isPutM k dd s.ready with
  | true =>
    cases dd with
    | see => simp [isPutM] at y
    | put v =>
      rw [afterM_put y]
      refine ⟨fun c h => ?_, fr _, fun p h => by simp at h⟩
      cases h
      exact hs.2
  | false =>
    rw [afterM_look y]
    unfold afterM.lookM
    rw [List.getElem?_eq_getElem hn]
    dsimp only
    have hall : ∀ c ∈ s.now ++ [cells[s.now.length]], CellOk m c := fun c h => by
      rcases List.mem_append.mp h with h | h
      · exact hs.1 c h
      · rw [List.mem_singleton.mp h]
        exact hc _ (List.getElem_mem hn)
    by_cases hw : s.now.length + 1 = cells.length
    · rw [if_pos hw]
      unfold sweptM
      dsimp only
      split
      · refine ⟨fun c h => by simp at h, fun s' h => ?_, fun p h => by simp at h⟩
        cases h
        exact ⟨fun c h => by simp at h, fun p h => by simp at h⟩
      · rename_i p hr
        have hp := resultM_len hall (by simp; omega) hr
        cases dd with
        | see =>
          refine ⟨fun c h => by simp at h, fr _, fun p' h => ?_⟩
          cases h
          exact hp
        | put v =>
          refine ⟨fun c h => by simp at h, fun s' h => ?_, fun p h => by simp at h⟩
          cases h
          refine ⟨fun c h => by simp at h, fun p' h => ?_⟩
          cases h
          exact hp
    · rw [if_neg hw]
      refine ⟨fun c h => by simp at h, fun s' h => ?_, fun p h => by simp at h⟩
      cases h
      exact ⟨hall, fun p h => by simp at h⟩

theorem nd_ints {m : Nat} {l : List Int} (h : l.length ≤ 100000) : Nd (m + 1) (eIs l) := by
  refine .tup (by simpa using h) fun x hx => ?_
  obtain ⟨i, _, rfl⟩ := List.mem_map.mp hx
  exact .int
def FlOk (m : Nat) (s : St) : Prop := (∀ f, s.first = some f → f.length ≤ m) ∧ ∀ l, s.last = some l → l.length ≤ m
theorem fresh_fl {m : Nat} {sc : List Deed} {d : Nat} {s : St} (h : freshM sc d = some s) : FlOk m s := by
  obtain ⟨a, b, _⟩ := freshM_first h
  exact ⟨fun f e => (by rw [a] at e; cases e), fun f e => (by rw [b] at e; cases e)⟩
theorem afterM_fl {k : Kd} {sc : List Deed} {dd : Deed} {c0 : Cell} {cells : List Cell} {s : St} {m : Nat} (hs : FlOk m s) (hl : cells.length ≤ m) (hn : s.now.length < cells.length) {s' : St} (e : (afterM k sc dd c0 cells s).2.1 = some s') : FlOk m s' := by
  cases y : isPutM k dd s.ready with
  | true =>
    cases dd with
    | see => simp [isPutM] at y
    | put v =>
      rw [afterM_put y] at e
      exact fresh_fl e
  | false =>
    have le := look_end (k := k) (sc := sc) (dd := dd) (c0 := c0) y (List.getElem?_eq_getElem hn)
    rw [e] at le
    generalize (afterM k sc dd c0 cells s).2.2 = it at le
    have ln : ∀ c, s.now.length + 1 = cells.length → (nums (s.now ++ [c])).length ≤ m := fun c h => by simp [nums]; omega
    cases le with
    | on q => exact hs
    | more q hr =>
      refine ⟨fun f z => ?_, fun l z => ?_⟩
      · have z := Option.some.inj z
        rw [← z]
        cases hf : s.first with
        | none => exact ln _ q
        | some f => exact hs.1 f hf
      · have z := Option.some.inj z
        rw [← z]
        exact ln _ q
    | see q hd hr hf => exact fresh_fl hf.symm
    | put q hd hr => exact ⟨fun f z => (by cases z), fun f z => (by cases z)⟩
structure MzI (m : Nat) (g : Sg) : Prop where
  c : ∀ c ∈ g.cells, CellOk m c
  s : ∀ s, some s ∈ g.states → StOk m s ∧ FlOk m s
  t : ∀ t ∈ g.told, ∀ p ∈ t, p.length ≤ m
theorem MzI.step {k : Kd} {rows : List (List Deed)} {g : Sg} {h : Nat} {s : St} {sc : List Deed} {dd : Deed} {c0 : Cell} (P : MzI rows.length g) (W : Wf k rows g) (H : HandIs k rows g h s sc dd c0) : MzI rows.length (stepC k g h s sc dd c0) := by
  have S := P.s s (List.mem_of_getElem? H.st)
  have hn : s.now.length < g.cells.length := by rw [W.lc]; exact H.now
  obtain ⟨a1, a2, a3⟩ := afterM_pics (k := k) (sc := sc) (dd := dd) (c0 := c0) P.c S.1 (Nat.le_of_eq W.lc) hn
  have a4 := fun s' e => afterM_fl (k := k) (sc := sc) (dd := dd) (c0 := c0) S.2 (Nat.le_of_eq W.lc) hn (s' := s') e
  unfold stepC
  generalize afterM k sc dd c0 g.cells s = res at a1 a2 a3 a4
  obtain ⟨a, b, d⟩ := res
  dsimp only at a1 a2 a3 a4 ⊢
  refine ⟨fun c hc => ?_, fun s' hs => ?_, fun t ht p hp => ?_⟩
  · cases a with
    | none => exact P.c c hc
    | some c2 =>
      rcases List.mem_or_eq_of_mem_set hc with q | q
      · exact P.c c q
      · rw [q]; exact a1 c2 rfl
  · rcases List.mem_or_eq_of_mem_set hs with q | q
    · exact P.s s' q
    · exact ⟨a2 s' q.symm, a4 s' q.symm⟩
  · cases d with
    | none => exact P.t t ht p hp
    | some p2 =>
      rcases List.mem_or_eq_of_mem_set ht with q | q
      · exact P.t t q p hp
      · rw [q] at hp
        rcases List.mem_append.mp hp with hp | hp
        · cases z : g.told[h]? with
          | none => rw [List.getD, z] at hp; cases hp
          | some t2 =>
            rw [List.getD, z] at hp
            exact P.t t2 (List.mem_of_getElem? z) p hp
        · rw [List.mem_singleton.mp hp]; exact a3 p2 rfl
theorem nd_pic {m : Nat} {p : Pic} (h : p.length ≤ 100000) : Nd (m + 2) (ePic p) := by
  refine .tup (by simpa using h) fun x hx => ?_
  obtain ⟨q, _, rfl⟩ := List.mem_map.mp hx
  refine .tup (by simp) fun y hy => ?_
  simp only [List.mem_cons, List.not_mem_nil, or_false] at hy
  rcases hy with rfl | rfl <;> exact .int
theorem nd_cell {m n : Nat} {c : Cell} (h : CellOk n c) (hn : n ≤ 1000) : Nd (m + 3) (eCell c) := by
  refine .tup (by simp) fun y hy => ?_
  simp only [List.mem_cons, List.not_mem_nil, or_false] at hy
  rcases hy with rfl | rfl | rfl
  · exact .int
  · exact .int
  · cases z : c.p with
    | none => exact .non
    | some p => exact nd_pic (Nat.le_trans (h p z) (by omega))
theorem nd_st {m n : Nat} {s : St} (h : StOk n s) (f : FlOk n s) (hn : n ≤ 1000) (hl : s.now.length ≤ n) : Nd (m + 5) (eSt s) := by
  refine .tup (by simp) fun y hy => ?_
  simp only [List.mem_cons, List.not_mem_nil, or_false] at hy
  rcases hy with rfl | rfl | rfl | rfl | rfl
  · exact .int
  · cases z : s.first with
    | none => exact .non
    | some p => exact nd_ints (Nat.le_trans (f.1 p z) (by omega))
  · cases z : s.last with
    | none => exact .non
    | some p => exact nd_ints (Nat.le_trans (f.2 p z) (by omega))
  · refine .tup (by simp; omega) fun x hx => ?_
    obtain ⟨c, hc, rfl⟩ := List.mem_map.mp hx
    exact nd_cell (h.1 c hc) hn
  · cases z : s.ready with
    | none => exact .non
    | some p => exact nd_pic (Nat.le_trans (h.2 p z) (by omega))
theorem deed_is : ∀ {d : D}, B.deedB d = true → ∃ dd : Deed, d = eDeed dd ∧ ∀ v, dd = .put v → 0 ≤ v ∧ v < 1000
  | .tup [.str x], h => by
    have e : x = s4_see := eq_of_beq h
    subst e
    exact ⟨.see, rfl, fun v e => by cases e⟩
  | .tup [.str x, y], h => by
    rw [B.deedB, Bool.and_eq_true] at h
    have e : x = s5_put := eq_of_beq h.1
    subst e
    obtain ⟨i, rfl, h1, h2⟩ := B.intIn_is h.2
    exact ⟨.put i, rfl, fun v e => by cases e; omega⟩
  | .tup [], h => by cases h
  | .tup [.non], h => by cases h
  | .tup [.bl _], h => by cases h
  | .tup [.int _], h => by cases h
  | .tup [.tup _], h => by cases h
  | .tup [.lst _], h => by cases h
  | .tup [.dic _], h => by cases h
  | .tup [.ins _ _], h => by cases h
  | .tup [.cel _], h => by cases h
  | .tup [.fn _], h => by cases h
  | .tup [.scr _], h => by cases h
  | .tup [.non, _], h => by cases h
  | .tup [.bl _, _], h => by cases h
  | .tup [.int _, _], h => by cases h
  | .tup [.tup _, _], h => by cases h
  | .tup [.lst _, _], h => by cases h
  | .tup [.dic _, _], h => by cases h
  | .tup [.ins _ _, _], h => by cases h
  | .tup [.cel _, _], h => by cases h
  | .tup [.fn _, _], h => by cases h
  | .tup [.scr _, _], h => by cases h
  | .tup (a :: b :: c :: r), h => by cases a <;> cases h
  | .non, h => by cases h
  | .bl _, h => by cases h
  | .int _, h => by cases h
  | .str _, h => by cases h
  | .lst _, h => by cases h
  | .dic _, h => by cases h
  | .ins _ _, h => by cases h
  | .cel _, h => by cases h
  | .fn _, h => by cases h
  | .scr _, h => by cases h
theorem list_is {α : Type} (f : α → D) (P : α → Prop) : ∀ (xs : List D), (∀ x ∈ xs, ∃ a, x = f a ∧ P a) → ∃ as : List α, xs = as.map f ∧ ∀ a ∈ as, P a
  | [], _ => ⟨[], rfl, fun _ h => by cases h⟩
  | x :: r, h => by
    obtain ⟨a, rfl, pa⟩ := h x (List.mem_cons_self ..)
    obtain ⟨as, rfl, q⟩ := list_is f P r fun y hy => h y (List.mem_cons_of_mem _ hy)
    refine ⟨a :: as, rfl, fun b hb => ?_⟩
    rcases List.mem_cons.mp hb with rfl | hb
    · exact pa
    · exact q b hb
theorem script_is2 {d : D} (h : B.scriptB d = true) : ∃ sc : List Deed, d = eSc sc ∧ (sc.length ≤ 6 ∧ ∀ v, Deed.put v ∈ sc → 0 ≤ v ∧ v < 1000) := by
  obtain ⟨xs, rfl, h1, h2⟩ := B.script_is h
  obtain ⟨sc, rfl, q⟩ := list_is eDeed (fun dd => ∀ v, dd = .put v → 0 ≤ v ∧ v < 1000) xs fun x hx => deed_is (h2 x hx)
  exact ⟨sc, rfl, by simpa using h1, fun v hv => q _ hv v rfl⟩
theorem rows_is {d : D} (h : B.rowB B.scriptB d = true) : ∃ rows : List (List Deed), d = eRows rows ∧ RowsOk rows := by
  obtain ⟨xs, rfl, h1, h5, h3⟩ := B.row_is h
  obtain ⟨rows, rfl, q⟩ := list_is eSc (fun sc => sc.length ≤ 6 ∧ ∀ v, Deed.put v ∈ sc → 0 ≤ v ∧ v < 1000) xs fun x hx => script_is2 (h3 x hx)
  exact ⟨rows, rfl, by simpa using h1, by simpa using h5, fun sc hs => (q sc hs).1, fun sc hs => (q sc hs).2⟩
/-! ### data whose repr is not long -/
def bI (i : Int) : Prop := i.natAbs < 10 ^ 36
def FB (d : D) : Prop := d = .non ∨ (∃ b, d = .bl b) ∨ ∃ i, d = .int i ∧ bI i
/-- so deep, so many things -/
def Nb : Nat → Nat → D → Prop
  | 0, n, d => 1 ≤ n ∧ FB d
  | m + 1, n, d => (1 ≤ n ∧ FB d) ∨ ∃ xs k, d = .tup xs ∧ (∀ x ∈ xs, Nb m k x) ∧ 1 + xs.length * (k + 1) ≤ n
theorem Nb.flat {m n : Nat} {d : D} (h : FB d) (hn : 1 ≤ n) : Nb m n d := by cases m with | zero => exact ⟨hn, h⟩ | succ m => exact .inl ⟨hn, h⟩
theorem Nb.int {m n : Nat} {i : Int} (h : bI i) (hn : 1 ≤ n := by omega) : Nb m n (.int i) := .flat (.inr (.inr ⟨i, rfl, h⟩)) hn
theorem Nb.bl {m n : Nat} {b : Bool} (hn : 1 ≤ n := by omega) : Nb m n (.bl b) := .flat (.inr (.inl ⟨b, rfl⟩)) hn
theorem Nb.non {m n : Nat} (hn : 1 ≤ n := by omega) : Nb m n .non := .flat (.inl rfl) hn
theorem Nb.tup {m n k : Nat} {xs : List D} (hx : ∀ x ∈ xs, Nb m k x) (hn : 1 + xs.length * (k + 1) ≤ n) : Nb (m + 1) n (.tup xs) := .inr ⟨xs, k, rfl, hx, hn⟩
theorem Nb.mono : ∀ {m n m' n' : Nat} {d : D}, Nb m n d → m ≤ m' → n ≤ n' → Nb m' n' d
  | 0, n, m', n', d, h, _, hn => .flat h.2 (Nat.le_trans h.1 hn)
  | m + 1, n, 0, n', d, h, hm, _ => by omega
  | m + 1, n, m' + 1, n', d, h, hm, hn => by
    rcases h with h | ⟨xs, k, rfl, h1, h2⟩
    · exact .flat h.2 (Nat.le_trans h.1 hn)
    · exact .tup (fun x hx => (h1 x hx).mono (by omega) (Nat.le_refl k)) (Nat.le_trans h2 hn)
theorem bI_of {i : Int} {b : Nat} (h : i.natAbs ≤ b) (hb : b < 10 ^ 36) : bI i := Nat.lt_of_le_of_lt h hb
theorem sk_str (s : String) : PyData.strOk (Str.ofString s) = true := by
  unfold PyData.strOk
  rw [Str.ofString_eq_toList]
  rw [Array.all_eq_true']
  intro c hc
  simp only [List.mem_toArray, List.mem_map] at hc
  obtain ⟨ch, _, rfl⟩ := hc
  have := ch.valid
  simp only [decide_eq_true_eq]
  rcases this with h | ⟨_, h⟩
  · show ch.val.toNat < _
    have : ch.val.toNat < 0xD800 := h
    omega
  · exact h
theorem sk_app {a b : Str} (ha : PyData.strOk a = true) (hb : PyData.strOk b = true) : PyData.strOk (a ++ b) = true := by
  unfold PyData.strOk at *
  show (a.cps ++ b.cps).all _ = true
  rw [Array.all_append, ha, hb]
  rfl
theorem sk_join : ∀ ts : List Str, (∀ t ∈ ts, PyData.strOk t = true) → PyData.strOk (Str.join ", " ts) = true
  | [], _ => by show PyData.strOk Str.empty = true; simp [PyData.strOk, Str.empty]
  | [x], h => h x (by simp)
  | x :: y :: r, h => sk_app (sk_app (h x (by simp)) (sk_str ", ")) (sk_join (y :: r) fun t ht => h t (List.mem_cons_of_mem _ ht))
theorem piled_le {k : Nat} : ∀ ts : List Str, (∀ t ∈ ts, t.length ≤ k) → piled ts ≤ ts.length * (k + 2)
  | [], _ => by simp [piled]
  | t :: r, h => by
    rw [piled_cons, List.length_cons, Nat.add_mul]
    have := piled_le r fun x hx => h x (List.mem_cons_of_mem _ hx)
    have := h t (List.mem_cons_self ..)
    omega
theorem pyAll_map : ∀ xs : List D, D.pyAll xs = xs.map D.py
  | [] => rfl
  | x :: r => by rw [D.pyAll, pyAll_map r]; rfl
theorem shownAll_map : ∀ xs : List PyData, PyData.shownAll xs = xs.map PyData.shown
  | [] => rfl
  | x :: r => by rw [PyData.shownAll, shownAll_map r]; rfl
theorem showableAll_all : ∀ xs : List PyData, PyData.showableAll xs = xs.all PyData.showable
  | [] => rfl
  | x :: r => by rw [PyData.showableAll, showableAll_all r]; rfl
theorem fb_shown {d : D} (h : FB d) : d.py.showable = true ∧ d.py.shown.length ≤ 38 ∧ PyData.strOk d.py.shown = true := by
  rcases h with rfl | ⟨b, rfl⟩ | ⟨i, rfl, h⟩
  · exact ⟨rfl, by decide, sk_str "None"⟩
  · cases b
    · exact ⟨rfl, by decide, sk_str "False"⟩
    · exact ⟨rfl, by decide, sk_str "True"⟩
  · refine ⟨?_, ?_, sk_str _⟩
    · rw [D.py, PyData.showable]
      refine decide_eq_true ?_
      by_cases z : i.natAbs = 0
      · rw [z]; decide
      · refine (Nat.log2_lt z).mpr (Nat.lt_trans h (Nat.lt_of_lt_of_le (show 10 ^ 36 < 2 ^ 120 by decide) (Nat.pow_le_pow_right (by decide) (by decide))))
    · show (Str.ofString (toString i)).length ≤ 38
      have := int_text_length_le10 (a := i) (k := 36) (by omega) h
      have e : (Str.ofString (toString i)).length = (toString i).length := PySem.ofString_length _
      rw [e]
      omega
theorem nb_shown : ∀ {m n : Nat} {d : D}, Nb m n d → d.py.showable = true ∧ d.py.shown.length ≤ 40 * n ∧ PyData.strOk d.py.shown = true
  | 0, n, d, h => by
    obtain ⟨a, b, c⟩ := fb_shown h.2
    exact ⟨a, by have := h.1; omega, c⟩
  | m + 1, n, d, h => by
    rcases h with ⟨hn, h⟩ | ⟨xs, k, rfl, h1, h2⟩
    · obtain ⟨a, b, c⟩ := fb_shown h
      exact ⟨a, by omega, c⟩
    · have ih := fun x hx => nb_shown (h1 x hx)
      rw [D.py, PyData.showable, PyData.shown, showableAll_all, shownAll_map, pyAll_map]
      refine ⟨?_, ?_, ?_⟩
      · rw [List.all_map, List.all_eq_true]
        exact fun x hx => (ih x hx).1
      · rw [List.map_map]
        have hl : ∀ t ∈ xs.map (PyData.shown ∘ D.py), t.length ≤ 40 * k := fun t ht => by
          obtain ⟨x, hx, rfl⟩ := List.mem_map.mp ht
          exact (ih x hx).2.1
        have pl := piled_le _ hl
        rw [List.length_map] at pl
        have jl : (Str.join ", " (xs.map (PyData.shown ∘ D.py))).length ≤ piled (xs.map (PyData.shown ∘ D.py)) := by
          by_cases z : xs.map (PyData.shown ∘ D.py) = []
          · rw [z]; exact Nat.zero_le _
          · have := join_length_add _ z
            omega
        unfold tupleText
        rw [strLen_append, strLen_append]
        have e1 : ((if ((xs.map (PyData.shown ∘ D.py)).length == 1) = true then ",)" else ")" : String) : Str).length ≤ 2 := by split <;> decide
        have e2 : (("(" : String) : Str).length = 1 := by decide
        have e3 : xs.length * (40 * k + 2) ≤ 40 * (xs.length * (k + 1)) := by
          rw [Nat.mul_left_comm]
          exact Nat.mul_le_mul_left _ (by omega)
        omega
      · unfold tupleText
        refine sk_app (sk_app (sk_str "(") (sk_join _ fun t ht => ?_)) ?_
        · rw [List.map_map] at ht
          obtain ⟨x, hx, rfl⟩ := List.mem_map.mp ht
          exact (ih x hx).2.2
        · split
          · exact sk_str ",)"
          · exact sk_str ")"
theorem rep_ok {m n k : Nat} {d : D} (h : Nb m n d) (hn : n ≤ 400000) (g : Nd k d) (hk : k ≤ 60) : repOk d ∧ PyData.strOk d.py.shown = true := by
  obtain ⟨a, b, c⟩ := nb_shown h
  have q := ok_iff.mp g.ok
  exact ⟨⟨q.1, by omega, a, by show _ ≤ 16777216; omega⟩, c⟩

theorem three_nb {m n : Nat} {a b c : D} (ha : Nb m n a) (hb : Nb m n b) (hc : Nb m n c) (hk : 1 + 3 * (n + 1) ≤ k) : Nb (m + 1) k (.tup [a, b, c]) := .tup (k := n) (fun x hx => by
  simp only [List.mem_cons, List.not_mem_nil, or_false] at hx
  rcases hx with rfl | rfl | rfl <;> assumption) (by simpa using hk)
theorem row_nb {α : Type} {m n k : Nat} {f : α → D} {xs : List α} (h : ∀ x ∈ xs, Nb m n (f x)) (hl : xs.length ≤ j) (hk : 1 + j * (n + 1) ≤ k) : Nb (m + 1) k (.tup (xs.map f)) := .tup (k := n) (fun x hx => by
  obtain ⟨a, ha, rfl⟩ := List.mem_map.mp hx
  exact h a ha) (Nat.le_trans (Nat.add_le_add_left (Nat.mul_le_mul_right _ (by rw [List.length_map]; exact hl)) 1) hk)
theorem nb_ints {m : Nat} {l : List Int} {j : Nat} (hl : l.length ≤ j) (h : ∀ x ∈ l, bI x) : Nb (m + 1) (1 + j * 2) (eIs l) := row_nb (n := 1) (fun x hx => .int (h x hx)) hl (by omega)
/-! ### manners: numbers stay small -/
def PicN (b : Nat) (p : Pic) : Prop := ∀ q ∈ p, q.1.natAbs ≤ b ∧ q.2.natAbs ≤ b
def CellN (b : Nat) (c : Cell) : Prop := c.n.natAbs ≤ b ∧ c.v.natAbs ≤ b ∧ ∀ p, c.p = some p → PicN b p
def NumN (b : Nat) (l : Option (List Int)) : Prop := ∀ f, l = some f → ∀ x ∈ f, x.natAbs ≤ b
def StN (b : Nat) (s : St) : Prop := (∀ c ∈ s.now, CellN b c) ∧ NumN b s.first ∧ NumN b s.last ∧ ∀ p, s.ready = some p → PicN b p
theorem PicN.up {b : Nat} {p : Pic} (h : PicN b p) : PicN (b + 1) p := fun q hq => ⟨Nat.le_succ_of_le (h q hq).1, Nat.le_succ_of_le (h q hq).2⟩
theorem CellN.up {b : Nat} {c : Cell} (h : CellN b c) : CellN (b + 1) c := ⟨Nat.le_succ_of_le h.1, Nat.le_succ_of_le h.2.1, fun p e => (h.2.2 p e).up⟩
theorem NumN.up {b : Nat} {l : Option (List Int)} (h : NumN b l) : NumN (b + 1) l := fun f e x hx => Nat.le_succ_of_le (h f e x hx)
theorem StN.up {b : Nat} {s : St} (h : StN b s) : StN (b + 1) s := ⟨fun c hc => (h.1 c hc).up, h.2.1.up, h.2.2.1.up, fun p e => (h.2.2.2 p e).up⟩
theorem fresh_n {b : Nat} {sc : List Deed} {d : Nat} {s : St} (h : freshM sc d = some s) : StN b s := by
  obtain ⟨a, c, e, f⟩ := freshM_first h
  refine ⟨fun x hx => ?_, fun g z => ?_, fun g z => ?_, fun p z => ?_⟩
  · rw [e] at hx; cases hx
  · rw [a] at z; cases z
  · rw [c] at z; cases z
  · rw [f] at z; cases z
theorem pict_n {b : Nat} {cs : List Cell} (h : ∀ c ∈ cs, CellN b c) : PicN b (pict cs) := fun q hq => by
  unfold pict at hq
  obtain ⟨c, hc, rfl⟩ := List.mem_map.mp hq
  exact ⟨(h c hc).1, (h c hc).2.1⟩
theorem nums_n {b : Nat} {cs : List Cell} (h : ∀ c ∈ cs, CellN b c) : ∀ x ∈ nums cs, x.natAbs ≤ b := fun x hx => by
  unfold nums at hx
  obtain ⟨c, hc, rfl⟩ := List.mem_map.mp hx
  exact (h c hc).1
theorem result_n {k : Kd} {f l : Option (List Int)} {cs : List Cell} {b : Nat} {p : Pic} (hc : ∀ c ∈ cs, CellN b c) (h : resultM k f l cs = some p) : PicN b p := by
  unfold resultM at h
  split at h
  · cases h; exact pict_n hc
  · split at h
    · split at h
      · obtain ⟨c, h1, h2⟩ := lentM_mem h
        exact (hc c h1).2.2 p h2
      · cases h
    · cases h
structure MnI (b : Nat) (g : Sg) : Prop where
  c : ∀ c ∈ g.cells, CellN b c
  s : ∀ s, some s ∈ g.states → StN b s
  t : ∀ t ∈ g.told, ∀ p ∈ t, PicN b p
theorem MnI.up {b : Nat} {g : Sg} (h : MnI b g) : MnI (b + 1) g := ⟨fun c hc => (h.c c hc).up, fun s hs => (h.s s hs).up, fun t ht p hp => (h.t t ht p hp).up⟩
theorem after_n {k : Kd} {sc : List Deed} {dd : Deed} {c0 : Cell} {cells : List Cell} {s : St} {b : Nat} (hb : 1000 ≤ b) (hv : ∀ v, dd = .put v → 0 ≤ v ∧ v < 1000) (h0 : CellN b c0) (hc : ∀ c ∈ cells, CellN b c) (hs : StN b s) (hn : s.now.length < cells.length) :
    (∀ c, (afterM k sc dd c0 cells s).1 = some c → CellN (b + 1) c) ∧ (∀ s', (afterM k sc dd c0 cells s).2.1 = some s' → StN (b + 1) s') ∧ ∀ p, (afterM k sc dd c0 cells s).2.2 = some p → PicN (b + 1) p := by
  cases y : isPutM k dd s.ready with
  | true =>
    cases dd with
    | see => simp [isPutM] at y
    | put v =>
      rw [afterM_put y]
      have := hv v rfl
      refine ⟨fun c e => ?_, fun s' e => fresh_n e, fun p e => (by cases e)⟩
      cases e
      refine ⟨?_, ?_, fun p e => (hs.2.2.2 p e).up⟩
      · have := h0.1
        show (c0.n + 1).natAbs ≤ b + 1
        omega
      · show v.natAbs ≤ b + 1
        omega
  | false =>
    have cl : cells[s.now.length]? = some cells[s.now.length] := List.getElem?_eq_getElem hn
    have le := look_end (k := k) (sc := sc) (dd := dd) (c0 := c0) y cl
    have hall : ∀ c ∈ s.now ++ [cells[s.now.length]], CellN b c := fun c hm => by
      rcases List.mem_append.mp hm with hm | hm
      · exact hs.1 c hm
      · rw [List.mem_singleton.mp hm]; exact hc _ (List.getElem_mem hn)
    have h1 : (afterM k sc dd c0 cells s).1 = none := by
      have q := afterM_cell (k := k) (sc := sc) (dd := dd) (c0 := c0) (cells := cells) (s := s)
      rw [y, Option.isSome_eq_false_iff, Option.isNone_iff_eq_none] at q
      exact q
    refine ⟨fun c e => (by rw [h1] at e; cases e), ?_⟩
    generalize (afterM k sc dd c0 cells s).2.1 = o at le ⊢
    generalize (afterM k sc dd c0 cells s).2.2 = it at le ⊢
    cases le with
    | on q =>
      refine ⟨fun s' e => ?_, fun p e => (by cases e)⟩
      cases e
      exact ⟨fun c hm => (hall c hm).up, hs.2.1.up, hs.2.2.1.up, fun p e => (by cases e)⟩
    | more q hr =>
      refine ⟨fun s' e => ?_, fun p e => (by cases e)⟩
      cases e
      refine ⟨fun c hm => (by cases hm), fun f z => ?_, fun f z => ?_, fun p e => (by cases e)⟩
      · have z := Option.some.inj z
        rw [← z]
        cases hf : s.first with
        | none => exact fun x hx => Nat.le_succ_of_le (nums_n hall x hx)
        | some f => exact fun x hx => Nat.le_succ_of_le (hs.2.1 f hf x hx)
      · have z := Option.some.inj z
        rw [← z]
        exact fun x hx => Nat.le_succ_of_le (nums_n hall x hx)
    | see q hd hr hf =>
      refine ⟨fun s' e => fresh_n (hf.symm.trans e), fun p e => ?_⟩
      cases e
      exact (result_n hall hr).up
    | put q hd hr =>
      refine ⟨fun s' e => ?_, fun p e => (by cases e)⟩
      cases e
      refine ⟨fun c hm => (by cases hm), fun f z => (by cases z), fun f z => (by cases z), fun p e => ?_⟩
      cases e
      exact (result_n hall hr).up
theorem MnI.step {k : Kd} {rows : List (List Deed)} {g : Sg} {h b : Nat} {s : St} {sc : List Deed} {dd : Deed} {c0 : Cell} (R : RowsOk rows) (hb : 1000 ≤ b) (P : MnI b g) (W : Wf k rows g) (H : HandIs k rows g h s sc dd c0) : MnI (b + 1) (stepC k g h s sc dd c0) := by
  have S := P.s s (List.mem_of_getElem? H.st)
  have hn : s.now.length < g.cells.length := by rw [W.lc]; exact H.now
  obtain ⟨a1, a2, a3⟩ := after_n (k := k) (sc := sc) (dd := dd) (c0 := c0) hb (fun v e => R.val sc (List.mem_of_getElem? H.row) v (e ▸ List.mem_of_getElem? H.deed)) (P.c c0 (List.mem_of_getElem? H.cell)) P.c S hn
  unfold stepC
  generalize afterM k sc dd c0 g.cells s = res at a1 a2 a3
  obtain ⟨a, o, d⟩ := res
  dsimp only at a1 a2 a3 ⊢
  refine ⟨fun c hc => ?_, fun s' hs => ?_, fun t ht p hp => ?_⟩
  · cases a with
    | none => exact (P.c c hc).up
    | some c2 =>
      rcases List.mem_or_eq_of_mem_set hc with q | q
      · exact (P.c c q).up
      · rw [q]; exact a1 c2 rfl
  · rcases List.mem_or_eq_of_mem_set hs with q | q
    · exact (P.s s' q).up
    · exact a2 s' q.symm
  · cases d with
    | none => exact (P.t t ht p hp).up
    | some p2 =>
      rcases List.mem_or_eq_of_mem_set ht with q | q
      · exact (P.t t q p hp).up
      · rw [q] at hp
        rcases List.mem_append.mp hp with hp | hp
        · cases z : g.told[h]? with
          | none => rw [List.getD, z] at hp; cases hp
          | some t2 =>
            rw [List.getD, z] at hp
            exact (P.t t2 (List.mem_of_getElem? z) p hp).up
        · rw [List.mem_singleton.mp hp]; exact a3 p2 rfl
theorem b_small {b : Nat} {i : Int} (h : i.natAbs ≤ b) (hb : b ≤ 5000) : bI i := bI_of (Nat.le_trans h hb) (by decide)
theorem nb_pic {m b : Nat} {p : Pic} (h : PicN b p) (hb : b ≤ 5000) (hl : p.length ≤ 5) : Nb (m + 2) 31 (ePic p) := row_nb (j := 5) (n := 5) (fun q hq => .tup (k := 1) (fun y hy => by
  simp only [List.mem_cons, List.not_mem_nil, or_false] at hy
  rcases hy with rfl | rfl
  · exact .int (b_small (h q hq).1 hb)
  · exact .int (b_small (h q hq).2 hb)) (by simp)) hl (by omega)
theorem nb_cell {m b : Nat} {c : Cell} (h : CellN b c) (hb : b ≤ 5000) (hl : CellOk 5 c) : Nb (m + 3) 97 (eCell c) := .tup (k := 31) (fun y hy => by
  simp only [List.mem_cons, List.not_mem_nil, or_false] at hy
  rcases hy with rfl | rfl | rfl
  · exact .int (b_small h.1 hb)
  · exact .int (b_small h.2.1 hb)
  · cases z : c.p with
    | none => exact .non
    | some p => exact nb_pic (h.2.2 p z) hb (hl p z)) (by simp)
theorem nb_st {m b : Nat} {s : St} (h : StN b s) (hb : b ≤ 5000) (so : StOk 5 s) (f : FlOk 5 s) (hl : s.now.length ≤ 5) (hd : s.done ≤ 5000) : Nb (m + 5) 2500 (eSt s) := .tup (k := 491) (fun y hy => by
  simp only [List.mem_cons, List.not_mem_nil, or_false] at hy
  rcases hy with rfl | rfl | rfl | rfl | rfl
  · exact .int (bI_of (b := 5000) (by omega) (by decide))
  · cases z : s.first with
    | none => exact .non
    | some p => exact (nb_ints (m := m + 3) (j := 5) (f.1 p z) fun x hx => b_small (h.2.1 p z x hx) hb).mono (by omega) (by omega)
  · cases z : s.last with
    | none => exact .non
    | some p => exact (nb_ints (m := m + 3) (j := 5) (f.2 p z) fun x hx => b_small (h.2.2.1 p z x hx) hb).mono (by omega) (by omega)
  · exact row_nb (j := 5) (n := 97) (fun c hc => nb_cell (m := m) (h.1 c hc) hb (so.1 c hc)) hl (by omega)
  · cases z : s.ready with
    | none => exact .non
    | some p => exact (nb_pic (m := m + 2) (h.2.2.2 p z) hb (so.2 p z)).mono (by omega) (by omega)) (by simp)
theorem CellOk.mono {m n : Nat} {c : Cell} (h : CellOk m c) (l : m ≤ n) : CellOk n c := fun p e => Nat.le_trans (h p e) l
theorem sg_nb {k : Kd} {rows : List (List Deed)} (R : RowsOk rows) {g : Sg} {b : Nat} (hb : b ≤ 5000) (N : MnI b g) (E : MzI rows.length g) (K : Wf k rows g) : Nb 8 400000 (eSg g) := by
  have lc := K.lc
  have ls := K.ls
  have lt := K.lt
  have m5 := R.l5
  have r6 := R.sc
  refine three_nb (m := 7) (n := 13000) ?_ ?_ ?_ (by omega)
  · exact row_nb (j := 5) (n := 97) (fun c hc => nb_cell (m := 3) (N.c c hc) hb ((E.c c hc).mono m5)) (by omega) (by omega)
  · refine row_nb (j := 5) (n := 2500) (fun o ho => ?_) (by omega) (by omega)
    cases o with
    | none => exact .non
    | some s =>
      obtain ⟨h, hs⟩ := List.mem_iff_getElem?.mp ho
      obtain ⟨so, fo⟩ := E.s s ho
      obtain ⟨nl, sc, e1, e2⟩ := K.st h s hs
      have := r6 sc (List.mem_of_getElem? e1)
      exact nb_st (m := 1) (N.s s ho) hb ⟨fun c hc => (so.1 c hc).mono m5, fun p e => Nat.le_trans (so.2 p e) m5⟩ ⟨fun f e => Nat.le_trans (fo.1 f e) m5, fun f e => Nat.le_trans (fo.2 f e) m5⟩ (by omega) (by omega)
  · refine row_nb (j := 5) (n := 200) (fun t ht => ?_) (by omega) (by omega)
    obtain ⟨h, hh⟩ := List.mem_iff_getElem?.mp ht
    have hl := (List.getElem?_eq_some_iff.mp hh).1
    have hr : rows[h]? = some (rows[h]'(by omega)) := List.getElem?_eq_getElem _
    have hsc := r6 _ (List.mem_of_getElem? hr)
    have tl := K.tl h t _ (g.states[h]'(by omega)) hh hr (List.getElem?_eq_getElem _)
    have l6 : t.length ≤ 6 := by
      cases z : g.states[h]'(by omega) with
      | none => rw [z] at tl; exact Nat.le_trans tl hsc
      | some s =>
        rw [z] at tl
        obtain ⟨_, sc, e1, e2⟩ := K.st h s (by rw [List.getElem?_eq_getElem (by omega), z])
        rw [hr] at e1
        cases e1
        have tl : t.length ≤ s.done := tl
        omega
    exact row_nb (j := 6) (n := 31) (fun p hp => nb_pic (m := 3) (N.t t ht p hp) hb (Nat.le_trans (E.t t ht p hp) m5)) l6 (by omega)
end K02

set_option maxRecDepth 100000
set_option maxHeartbeats 1000000
namespace K02
open PySem Ev
/-! ### the law's own machine of the manners -/
theorem x_eIs {l : List Int} {i : Nat} : idxop (eIs l) (.int (i : Int)) = ofO ((l[i]?).map .int) := by simp [eIs, Vz0, Vz1, Vz2, Vz3, Vz4, Vz5, Vz6, kx, SZ, beq_self_eq_true, List.contains_cons, List.contains_nil]
theorem l_put_at (n : Nat) (xs : List D) (k : Nat) (x : D) (h : k < xs.length) (hs : xs.length ≤ 1000) : callF prg (n + 1) 61 [.tup xs, .int k, x] = pure (.tup (xs.set k x)) := by
  refine eq_pure fun w => ?_
  rw [c__law_put_at]
  simp [f__law_put_at, Vz0, Vz1, Vz2, Vz3, Vz4, Vz5, Vz6, kx, SZ, beq_self_eq_true, List.contains_cons, List.contains_nil, take_drop_set h]
  omega
theorem l_is_put (n : Nat) (k : Kd) (rows : List (List Deed)) (sg : Sg) (h : Nat) (s : St) (sc : List Deed) (dd : Deed) (c0 : Cell) (H : HandIs k rows sg h s sc dd c0) : callF prg (n + 1) 62 [eKd k, eRows rows, eSg sg, .int h] = pure (.bl (isPutM k dd s.ready)) := by
  refine eq_pure fun w => ?_
  rw [c__law_is_put]
  have h1 := H.st
  have h2 := H.row
  have h3 := H.deed
  cases dd <;> cases k <;> cases z : s.ready <;> simp [f__law_is_put, Vz0, Vz1, Vz2, Vz3, Vz4, Vz5, Vz6, kx, SZ, beq_self_eq_true, List.contains_cons, List.contains_nil, d_ePl, q_kind, q_inputs, q_rows, d_eKd, i_eKd, e_eKd, h_eKd, n_sweep, n_twice, n_borrow, d_eRows, x_eRows, l_eRows, t_eRows, d_eSc, x_eSc, l_eSc, d_eDeed, x_eDeed, x_eDeed1, d_eCells, x_eCells, l_eCells, t_eCells, a_eCells, d_eCell, x_eCell0, x_eCell1, x_eCell2, s_eCell, d_eSt, x_eSt0, x_eSt1, x_eSt2, x_eSt3, x_eSt4, b_eSt, d_eSg, x_eSg0, x_eSg1, x_eSg2, b_eSg, d_ePic, i_ePic, d_eIs, i_eIs, o_ePic, o_eIs, o_eSt, od_ePic, od_eIs, od_eSt, oi_ePic, oi_eIs, oi_eSt, i_eSt, i_eCells, e_oIs, e_oIs1, h_oIs1, e_ePic, h_ePic, n_eIs, n_ePic, n_eSt, h1, h2, h3, eO_some, isPutM, wd, z]
theorem l_next (n : Nat) (k : Kd) (rows : List (List Deed)) (sg : Sg) (h : Nat) (s : St) (sc : List Deed) (dd : Deed) (c0 : Cell) (H : HandIs k rows sg h s sc dd c0) : callF prg (n + 2) 63 [eKd k, eRows rows, eSg sg, .int h] = pure (if isPutM k dd s.ready then .tup [.str s5_put] else .tup [.str s9_look, .int s.now.length]) := by
  refine eq_pure fun w => ?_
  rw [c__law_next]
  cases z : isPutM k dd s.ready <;> simp [f__law_next, Vz0, Vz1, Vz2, Vz3, Vz4, Vz5, Vz6, kx, SZ, beq_self_eq_true, List.contains_cons, List.contains_nil, d_ePl, q_kind, q_inputs, q_rows, d_eKd, i_eKd, e_eKd, h_eKd, n_sweep, n_twice, n_borrow, d_eRows, x_eRows, l_eRows, t_eRows, d_eSc, x_eSc, l_eSc, d_eDeed, x_eDeed, x_eDeed1, d_eCells, x_eCells, l_eCells, t_eCells, a_eCells, d_eCell, x_eCell0, x_eCell1, x_eCell2, s_eCell, d_eSt, x_eSt0, x_eSt1, x_eSt2, x_eSt3, x_eSt4, b_eSt, d_eSg, x_eSg0, x_eSg1, x_eSg2, b_eSg, d_ePic, i_ePic, d_eIs, i_eIs, o_ePic, o_eIs, o_eSt, od_ePic, od_eIs, od_eSt, oi_ePic, oi_eIs, oi_eSt, i_eSt, i_eCells, e_oIs, e_oIs1, h_oIs1, e_ePic, h_ePic, n_eIs, n_ePic, n_eSt, l_is_put n k rows sg h s sc dd c0 H, z, H.st, eO_some]
theorem l_behind (n : Nat) (rows : List (List Deed)) (h d : Nat) (sc : List Deed) (hh : rows[h]? = some sc) (hd : d < sc.length) : callF prg (n + 1) 64 [eRows rows, .int h, .int d] = pure (eO eSt (freshM sc (d + 1))) := by
  refine eq_pure fun w => ?_
  rw [c__law_behind]
  unfold freshM
  by_cases hz : d + 1 = sc.length
  · have z1 : ((d : Int) + 1 = (sc.length : Int)) := by omega
    have z2 : ¬ d + 1 < sc.length := by omega
    simp [f__law_behind, Vz0, Vz1, Vz2, Vz3, Vz4, Vz5, Vz6, kx, SZ, beq_self_eq_true, List.contains_cons, List.contains_nil, d_ePl, q_kind, q_inputs, q_rows, d_eKd, i_eKd, e_eKd, h_eKd, n_sweep, n_twice, n_borrow, d_eRows, x_eRows, l_eRows, t_eRows, d_eSc, x_eSc, l_eSc, d_eDeed, x_eDeed, x_eDeed1, d_eCells, x_eCells, l_eCells, t_eCells, a_eCells, d_eCell, x_eCell0, x_eCell1, x_eCell2, s_eCell, d_eSt, x_eSt0, x_eSt1, x_eSt2, x_eSt3, x_eSt4, b_eSt, d_eSg, x_eSg0, x_eSg1, x_eSg2, b_eSg, d_ePic, i_ePic, d_eIs, i_eIs, o_ePic, o_eIs, o_eSt, od_ePic, od_eIs, od_eSt, oi_ePic, oi_eIs, oi_eSt, i_eSt, i_eCells, e_oIs, e_oIs1, h_oIs1, e_ePic, h_ePic, n_eIs, n_ePic, n_eSt, hh, z1, z2, eO]
  · have z1 : ¬ ((d : Int) + 1 = (sc.length : Int)) := by omega
    have z2 : d + 1 < sc.length := by omega
    simp [f__law_behind, Vz0, Vz1, Vz2, Vz3, Vz4, Vz5, Vz6, kx, SZ, beq_self_eq_true, List.contains_cons, List.contains_nil, d_ePl, q_kind, q_inputs, q_rows, d_eKd, i_eKd, e_eKd, h_eKd, n_sweep, n_twice, n_borrow, d_eRows, x_eRows, l_eRows, t_eRows, d_eSc, x_eSc, l_eSc, d_eDeed, x_eDeed, x_eDeed1, d_eCells, x_eCells, l_eCells, t_eCells, a_eCells, d_eCell, x_eCell0, x_eCell1, x_eCell2, s_eCell, d_eSt, x_eSt0, x_eSt1, x_eSt2, x_eSt3, x_eSt4, b_eSt, d_eSg, x_eSg0, x_eSg1, x_eSg2, b_eSg, d_ePic, i_ePic, d_eIs, i_eIs, o_ePic, o_eIs, o_eSt, od_ePic, od_eIs, od_eSt, oi_ePic, oi_eIs, oi_eSt, i_eSt, i_eCells, e_oIs, e_oIs1, h_oIs1, e_ePic, h_ePic, n_eIs, n_ePic, n_eSt, hh, z1, z2, eO, eSt, eCells]
/-- the hands that put twice since -/
def lendB (f : List Int) (cs : List Cell) (k : Nat) : Bool := decide (f.getD k 0 + 1 < (nums cs).getD k 0)
def lendL (f : List Int) (cs : List Cell) : List Nat := (List.range cs.length).filter (lendB f cs)
theorem lend_lent : ∀ (f : List Int) (cs : List Cell), f.length = cs.length → (lendL f cs = [] → lentM f cs = none) ∧ ∀ k r, lendL f cs = k :: r → ∃ c, cs[k]? = some c ∧ lentM f cs = c.p
  | [], [], _ => ⟨fun _ => rfl, fun k r h => by cases h⟩
  | n :: f, c :: cs, h => by
    have ih := lend_lent f cs (by simpa using h)
    have e : lendL (n :: f) (c :: cs) = if n + 1 < c.n then 0 :: (lendL f cs).map Nat.succ else (lendL f cs).map Nat.succ := by
      unfold lendL
      rw [List.length_cons, List.range_succ_eq_map, List.filter_cons, List.filter_map]
      have e1 : (lendB (n :: f) (c :: cs)) ∘ Nat.succ = lendB f cs := by
        funext i
        simp [lendB, nums]
      have e0 : lendB (n :: f) (c :: cs) 0 = decide (n + 1 < c.n) := by simp [lendB, nums]
      rw [e1, e0]
      by_cases z : n + 1 < c.n <;> simp [z]
    rw [e, lentM]
    by_cases z : n + 1 < c.n
    · rw [if_pos z, if_pos (by omega)]
      refine ⟨fun q => (by cases q), fun k r q => ?_⟩
      cases q
      exact ⟨c, rfl, rfl⟩
    · rw [if_neg z, if_neg (by omega)]
      refine ⟨fun q => ih.1 (by simpa using q), fun k r q => ?_⟩
      cases y : lendL f cs with
      | nil => rw [y] at q; cases q
      | cons a t =>
        rw [y] at q
        cases q
        obtain ⟨c', h1, h2⟩ := ih.2 a t y
        exact ⟨c', h1, h2⟩
  | [], _ :: _, h => by simp at h
  | _ :: _, [], h => by simp at h
theorem l_seen (n : Nat) (k : Kd) (first last : Option (List Int)) (cs : List Cell) (hs : cs.length ≤ 1000) (hf : ∀ f, first = some f → f.length = cs.length) : callF prg (n + 1) 65 [eKd k, eO eIs first, eO eIs last, eCells cs] = pure (eO ePic (resultM k first last cs)) := by
  refine eq_pure fun w => ?_
  rw [c__law_seen, wp_endF]
  have e7 : f__law_seen.body = .cons (B.hdS 0 f__law_seen.body) (B.tlS 1 f__law_seen.body) := rfl
  rw [e7]
  refine wp_seq (fun e w' => w' = w ∧ e = [.val (eKd k), .val (eO eIs first), .val (eO eIs last), .val (eCells cs), .val (eIs (nums cs)), .un, .un, .un]) ?_ ?_
  · simp [f__law_seen, B.hdS, Vz0, Vz1, Vz2, Vz3, Vz4, Vz5, Vz6, kx, SZ, beq_self_eq_true, List.contains_cons, List.contains_nil, d_ePl, q_kind, q_inputs, q_rows, d_eKd, i_eKd, e_eKd, h_eKd, n_sweep, n_twice, n_borrow, d_eRows, x_eRows, l_eRows, t_eRows, d_eSc, x_eSc, l_eSc, d_eDeed, x_eDeed, x_eDeed1, d_eCells, x_eCells, l_eCells, t_eCells, a_eCells, d_eCell, x_eCell0, x_eCell1, x_eCell2, s_eCell, d_eSt, x_eSt0, x_eSt1, x_eSt2, x_eSt3, x_eSt4, b_eSt, d_eSg, x_eSg0, x_eSg1, x_eSg2, b_eSg, d_ePic, i_ePic, d_eIs, i_eIs, o_ePic, o_eIs, o_eSt, od_ePic, od_eIs, od_eSt, oi_ePic, oi_eIs, oi_eSt, i_eSt, i_eCells, e_oIs, e_oIs1, h_oIs1, e_ePic, h_ePic, n_eIs, n_ePic, n_eSt]
    refine ⟨by omega, wp_lc1 eCell (fun c => .int c.n) cs (fun _ => rfl) (fun a _ => ?_) ?_⟩
    · simp [Vz0, Vz1, Vz2, Vz3, Vz4, Vz5, Vz6, kx, SZ, beq_self_eq_true, List.contains_cons, List.contains_nil, d_ePl, q_kind, q_inputs, q_rows, d_eKd, i_eKd, e_eKd, h_eKd, n_sweep, n_twice, n_borrow, d_eRows, x_eRows, l_eRows, t_eRows, d_eSc, x_eSc, l_eSc, d_eDeed, x_eDeed, x_eDeed1, d_eCells, x_eCells, l_eCells, t_eCells, a_eCells, d_eCell, x_eCell0, x_eCell1, x_eCell2, s_eCell, d_eSt, x_eSt0, x_eSt1, x_eSt2, x_eSt3, x_eSt4, b_eSt, d_eSg, x_eSg0, x_eSg1, x_eSg2, b_eSg, d_ePic, i_ePic, d_eIs, i_eIs, o_ePic, o_eIs, o_eSt, od_ePic, od_eIs, od_eSt, oi_ePic, oi_eIs, oi_eSt, i_eSt, i_eCells, e_oIs, e_oIs1, h_oIs1, e_ePic, h_ePic, n_eIs, n_ePic, n_eSt]
    · simp [Vz0, Vz1, Vz2, Vz3, Vz4, Vz5, Vz6, kx, SZ, beq_self_eq_true, List.contains_cons, List.contains_nil, eIs, nums]
  rintro e w1 ⟨rfl, rfl⟩
  unfold resultM
  by_cases h1 : k = .sweep
  · subst h1
    simp [f__law_seen, B.tlS, Vz0, Vz1, Vz2, Vz3, Vz4, Vz5, Vz6, kx, SZ, beq_self_eq_true, List.contains_cons, List.contains_nil, d_ePl, q_kind, q_inputs, q_rows, d_eKd, i_eKd, e_eKd, h_eKd, n_sweep, n_twice, n_borrow, d_eRows, x_eRows, l_eRows, t_eRows, d_eSc, x_eSc, l_eSc, d_eDeed, x_eDeed, x_eDeed1, d_eCells, x_eCells, l_eCells, t_eCells, a_eCells, d_eCell, x_eCell0, x_eCell1, x_eCell2, s_eCell, d_eSt, x_eSt0, x_eSt1, x_eSt2, x_eSt3, x_eSt4, b_eSt, d_eSg, x_eSg0, x_eSg1, x_eSg2, b_eSg, d_ePic, i_ePic, d_eIs, i_eIs, o_ePic, o_eIs, o_eSt, od_ePic, od_eIs, od_eSt, oi_ePic, oi_eIs, oi_eSt, i_eSt, i_eCells, e_oIs, e_oIs1, h_oIs1, e_ePic, h_ePic, n_eIs, n_ePic, n_eSt]
    refine ⟨by omega, wp_lc1 eCell (fun c => eNV (c.n, c.v)) cs (fun _ => rfl) (fun a _ => ?_) ?_⟩
    · simp [Vz0, Vz1, Vz2, Vz3, Vz4, Vz5, Vz6, kx, SZ, beq_self_eq_true, List.contains_cons, List.contains_nil, d_ePl, q_kind, q_inputs, q_rows, d_eKd, i_eKd, e_eKd, h_eKd, n_sweep, n_twice, n_borrow, d_eRows, x_eRows, l_eRows, t_eRows, d_eSc, x_eSc, l_eSc, d_eDeed, x_eDeed, x_eDeed1, d_eCells, x_eCells, l_eCells, t_eCells, a_eCells, d_eCell, x_eCell0, x_eCell1, x_eCell2, s_eCell, d_eSt, x_eSt0, x_eSt1, x_eSt2, x_eSt3, x_eSt4, b_eSt, d_eSg, x_eSg0, x_eSg1, x_eSg2, b_eSg, d_ePic, i_ePic, d_eIs, i_eIs, o_ePic, o_eIs, o_eSt, od_ePic, od_eIs, od_eSt, oi_ePic, oi_eIs, oi_eSt, i_eSt, i_eCells, e_oIs, e_oIs1, h_oIs1, e_ePic, h_ePic, n_eIs, n_ePic, n_eSt]
    · simp [Vz0, Vz1, Vz2, Vz3, Vz4, Vz5, Vz6, kx, SZ, beq_self_eq_true, List.contains_cons, List.contains_nil, ePic, pict, eO]
  · by_cases h2 : last = some (nums cs)
    · subst h2
      simp only [h1, or_true, if_true]
      simp [f__law_seen, B.tlS, Vz0, Vz1, Vz2, Vz3, Vz4, Vz5, Vz6, kx, SZ, beq_self_eq_true, List.contains_cons, List.contains_nil, d_ePl, q_kind, q_inputs, q_rows, d_eKd, i_eKd, e_eKd, h_eKd, n_sweep, n_twice, n_borrow, d_eRows, x_eRows, l_eRows, t_eRows, d_eSc, x_eSc, l_eSc, d_eDeed, x_eDeed, x_eDeed1, d_eCells, x_eCells, l_eCells, t_eCells, a_eCells, d_eCell, x_eCell0, x_eCell1, x_eCell2, s_eCell, d_eSt, x_eSt0, x_eSt1, x_eSt2, x_eSt3, x_eSt4, b_eSt, d_eSg, x_eSg0, x_eSg1, x_eSg2, b_eSg, d_ePic, i_ePic, d_eIs, i_eIs, o_ePic, o_eIs, o_eSt, od_ePic, od_eIs, od_eSt, oi_ePic, oi_eIs, oi_eSt, i_eSt, i_eCells, e_oIs, e_oIs1, h_oIs1, e_ePic, h_ePic, n_eIs, n_ePic, n_eSt, h1, eO_some, e_eIs, h_eIs]
      refine ⟨by omega, wp_lc1 eCell (fun c => eNV (c.n, c.v)) cs (fun _ => rfl) (fun a _ => ?_) ?_⟩
      · simp [Vz0, Vz1, Vz2, Vz3, Vz4, Vz5, Vz6, kx, SZ, beq_self_eq_true, List.contains_cons, List.contains_nil, d_ePl, q_kind, q_inputs, q_rows, d_eKd, i_eKd, e_eKd, h_eKd, n_sweep, n_twice, n_borrow, d_eRows, x_eRows, l_eRows, t_eRows, d_eSc, x_eSc, l_eSc, d_eDeed, x_eDeed, x_eDeed1, d_eCells, x_eCells, l_eCells, t_eCells, a_eCells, d_eCell, x_eCell0, x_eCell1, x_eCell2, s_eCell, d_eSt, x_eSt0, x_eSt1, x_eSt2, x_eSt3, x_eSt4, b_eSt, d_eSg, x_eSg0, x_eSg1, x_eSg2, b_eSg, d_ePic, i_ePic, d_eIs, i_eIs, o_ePic, o_eIs, o_eSt, od_ePic, od_eIs, od_eSt, oi_ePic, oi_eIs, oi_eSt, i_eSt, i_eCells, e_oIs, e_oIs1, h_oIs1, e_ePic, h_ePic, n_eIs, n_ePic, n_eSt]
      · simp [Vz0, Vz1, Vz2, Vz3, Vz4, Vz5, Vz6, kx, SZ, beq_self_eq_true, List.contains_cons, List.contains_nil, ePic, pict]
    · simp only [h1, h2, or_self, if_false]
      have cut : ∀ w, wp (ex (cg n) (B.hdS 0 (B.tlS 1 f__law_seen.body)) [.val (eKd k), .val (eO eIs first), .val (eO eIs last), .val (eCells cs), .val (eIs (nums cs)), .un, .un, .un]) w (fun f w' => ∃ e', f = .nx e' ∧ (fun e w' => w' = w ∧ e = [.val (eKd k), .val (eO eIs first), .val (eO eIs last), .val (eCells cs), .val (eIs (nums cs)), .un, .un, .un]) e' w') NoE := fun w => by
        cases last with
        | none => simp [f__law_seen, B.hdS, B.tlS, Vz0, Vz1, Vz2, Vz3, Vz4, Vz5, Vz6, kx, SZ, beq_self_eq_true, List.contains_cons, List.contains_nil, d_ePl, q_kind, q_inputs, q_rows, d_eKd, i_eKd, e_eKd, h_eKd, n_sweep, n_twice, n_borrow, d_eRows, x_eRows, l_eRows, t_eRows, d_eSc, x_eSc, l_eSc, d_eDeed, x_eDeed, x_eDeed1, d_eCells, x_eCells, l_eCells, t_eCells, a_eCells, d_eCell, x_eCell0, x_eCell1, x_eCell2, s_eCell, d_eSt, x_eSt0, x_eSt1, x_eSt2, x_eSt3, x_eSt4, b_eSt, d_eSg, x_eSg0, x_eSg1, x_eSg2, b_eSg, d_ePic, i_ePic, d_eIs, i_eIs, o_ePic, o_eIs, o_eSt, od_ePic, od_eIs, od_eSt, oi_ePic, oi_eIs, oi_eSt, i_eSt, i_eCells, e_oIs, e_oIs1, h_oIs1, e_ePic, h_ePic, n_eIs, n_ePic, n_eSt, h1, eO_none]
        | some l =>
          have h3 : ¬ l = nums cs := fun z => h2 (by rw [z])
          simp [f__law_seen, B.hdS, B.tlS, Vz0, Vz1, Vz2, Vz3, Vz4, Vz5, Vz6, kx, SZ, beq_self_eq_true, List.contains_cons, List.contains_nil, d_ePl, q_kind, q_inputs, q_rows, d_eKd, i_eKd, e_eKd, h_eKd, n_sweep, n_twice, n_borrow, d_eRows, x_eRows, l_eRows, t_eRows, d_eSc, x_eSc, l_eSc, d_eDeed, x_eDeed, x_eDeed1, d_eCells, x_eCells, l_eCells, t_eCells, a_eCells, d_eCell, x_eCell0, x_eCell1, x_eCell2, s_eCell, d_eSt, x_eSt0, x_eSt1, x_eSt2, x_eSt3, x_eSt4, b_eSt, d_eSg, x_eSg0, x_eSg1, x_eSg2, b_eSg, d_ePic, i_ePic, d_eIs, i_eIs, o_ePic, o_eIs, o_eSt, od_ePic, od_eIs, od_eSt, oi_ePic, oi_eIs, oi_eSt, i_eSt, i_eCells, e_oIs, e_oIs1, h_oIs1, e_ePic, h_ePic, n_eIs, n_ePic, n_eSt, h1, eO_some, e_eIs, h_eIs, h3]
      have e8 : B.tlS 1 f__law_seen.body = .cons (B.hdS 0 (B.tlS 1 f__law_seen.body)) (B.tlS 2 f__law_seen.body) := rfl
      rw [e8]
      refine wp_seq _ (cut w1) ?_
      rintro e w2 ⟨rfl, rfl⟩
      by_cases h3 : k = .borrow
      · subst h3
        cases first with
        | none => simp [f__law_seen, B.tlS, Vz0, Vz1, Vz2, Vz3, Vz4, Vz5, Vz6, kx, SZ, beq_self_eq_true, List.contains_cons, List.contains_nil, d_ePl, q_kind, q_inputs, q_rows, d_eKd, i_eKd, e_eKd, h_eKd, n_sweep, n_twice, n_borrow, d_eRows, x_eRows, l_eRows, t_eRows, d_eSc, x_eSc, l_eSc, d_eDeed, x_eDeed, x_eDeed1, d_eCells, x_eCells, l_eCells, t_eCells, a_eCells, d_eCell, x_eCell0, x_eCell1, x_eCell2, s_eCell, d_eSt, x_eSt0, x_eSt1, x_eSt2, x_eSt3, x_eSt4, b_eSt, d_eSg, x_eSg0, x_eSg1, x_eSg2, b_eSg, d_ePic, i_ePic, d_eIs, i_eIs, o_ePic, o_eIs, o_eSt, od_ePic, od_eIs, od_eSt, oi_ePic, oi_eIs, oi_eSt, i_eSt, i_eCells, e_oIs, e_oIs1, h_oIs1, e_ePic, h_ePic, n_eIs, n_ePic, n_eSt, eO_none]
        | some f =>
          have hf := hf f rfl
          have rg : rngOk (cs.length : Int) := rngOk_nat (by omega)
          have ln : (nums cs).length = cs.length := by simp [nums]
          obtain ⟨q1, q2⟩ := lend_lent f cs hf
          simp [f__law_seen, B.tlS, Vz0, Vz1, Vz2, Vz3, Vz4, Vz5, Vz6, kx, SZ, beq_self_eq_true, List.contains_cons, List.contains_nil, d_ePl, q_kind, q_inputs, q_rows, d_eKd, i_eKd, e_eKd, h_eKd, n_sweep, n_twice, n_borrow, d_eRows, x_eRows, l_eRows, t_eRows, d_eSc, x_eSc, l_eSc, d_eDeed, x_eDeed, x_eDeed1, d_eCells, x_eCells, l_eCells, t_eCells, a_eCells, d_eCell, x_eCell0, x_eCell1, x_eCell2, s_eCell, d_eSt, x_eSt0, x_eSt1, x_eSt2, x_eSt3, x_eSt4, b_eSt, d_eSg, x_eSg0, x_eSg1, x_eSg2, b_eSg, d_ePic, i_ePic, d_eIs, i_eIs, o_ePic, o_eIs, o_eSt, od_ePic, od_eIs, od_eSt, oi_ePic, oi_eIs, oi_eSt, i_eSt, i_eCells, e_oIs, e_oIs1, h_oIs1, e_ePic, h_ePic, n_eIs, n_ePic, n_eSt, eO_some, rg, rngD0]
          refine ⟨by omega, wp_lc (fun (i : Nat) => D.int (i : Int)) (lendB f cs) (fun i => .int (i : Int)) _ (fun a ha => ?_) ?_⟩
          · have ha := List.mem_range.mp ha
            obtain ⟨x, fa⟩ : ∃ x, f[a]? = some x := ⟨_, List.getElem?_eq_getElem (show a < f.length by omega)⟩
            obtain ⟨y, ca⟩ : ∃ y, (nums cs)[a]? = some y := ⟨_, List.getElem?_eq_getElem (show a < (nums cs).length by omega)⟩
            have eb : lendB f cs a = decide (x + 1 < y) := by simp [lendB, List.getD, fa, ca]
            simp [Vz0, Vz1, Vz2, Vz3, Vz4, Vz5, Vz6, kx, SZ, beq_self_eq_true, List.contains_cons, List.contains_nil, d_ePl, q_kind, q_inputs, q_rows, d_eKd, i_eKd, e_eKd, h_eKd, n_sweep, n_twice, n_borrow, d_eRows, x_eRows, l_eRows, t_eRows, d_eSc, x_eSc, l_eSc, d_eDeed, x_eDeed, x_eDeed1, d_eCells, x_eCells, l_eCells, t_eCells, a_eCells, d_eCell, x_eCell0, x_eCell1, x_eCell2, s_eCell, d_eSt, x_eSt0, x_eSt1, x_eSt2, x_eSt3, x_eSt4, b_eSt, d_eSg, x_eSg0, x_eSg1, x_eSg2, b_eSg, d_ePic, i_ePic, d_eIs, i_eIs, o_ePic, o_eIs, o_eSt, od_ePic, od_eIs, od_eSt, oi_ePic, oi_eIs, oi_eSt, i_eSt, i_eCells, e_oIs, e_oIs1, h_oIs1, e_ePic, h_ePic, n_eIs, n_ePic, n_eSt, x_eIs, fa, ca, eb]
          · rw [show (List.range cs.length).filter (lendB f cs) = lendL f cs from rfl]
            cases z : lendL f cs with
            | nil => simp [Vz0, Vz1, Vz2, Vz3, Vz4, Vz5, Vz6, kx, SZ, beq_self_eq_true, List.contains_cons, List.contains_nil, d_ePl, q_kind, q_inputs, q_rows, d_eKd, i_eKd, e_eKd, h_eKd, n_sweep, n_twice, n_borrow, d_eRows, x_eRows, l_eRows, t_eRows, d_eSc, x_eSc, l_eSc, d_eDeed, x_eDeed, x_eDeed1, d_eCells, x_eCells, l_eCells, t_eCells, a_eCells, d_eCell, x_eCell0, x_eCell1, x_eCell2, s_eCell, d_eSt, x_eSt0, x_eSt1, x_eSt2, x_eSt3, x_eSt4, b_eSt, d_eSg, x_eSg0, x_eSg1, x_eSg2, b_eSg, d_ePic, i_ePic, d_eIs, i_eIs, o_ePic, o_eIs, o_eSt, od_ePic, od_eIs, od_eSt, oi_ePic, oi_eIs, oi_eSt, i_eSt, i_eCells, e_oIs, e_oIs1, h_oIs1, e_ePic, h_ePic, n_eIs, n_ePic, n_eSt, q1 z, eO_none]
            | cons a r =>
              obtain ⟨c, c1, c2⟩ := q2 a r z
              have nz : ¬ ((r.length : Int) + 1 ≤ 0) := by omega
              simp [Vz0, Vz1, Vz2, Vz3, Vz4, Vz5, Vz6, kx, SZ, beq_self_eq_true, List.contains_cons, List.contains_nil, d_ePl, q_kind, q_inputs, q_rows, d_eKd, i_eKd, e_eKd, h_eKd, n_sweep, n_twice, n_borrow, d_eRows, x_eRows, l_eRows, t_eRows, d_eSc, x_eSc, l_eSc, d_eDeed, x_eDeed, x_eDeed1, d_eCells, x_eCells, l_eCells, t_eCells, a_eCells, d_eCell, x_eCell0, x_eCell1, x_eCell2, s_eCell, d_eSt, x_eSt0, x_eSt1, x_eSt2, x_eSt3, x_eSt4, b_eSt, d_eSg, x_eSg0, x_eSg1, x_eSg2, b_eSg, d_ePic, i_ePic, d_eIs, i_eIs, o_ePic, o_eIs, o_eSt, od_ePic, od_eIs, od_eSt, oi_ePic, oi_eIs, oi_eSt, i_eSt, i_eCells, e_oIs, e_oIs1, h_oIs1, e_ePic, h_ePic, n_eIs, n_ePic, n_eSt, c1, c2, nz]
      · simp [f__law_seen, B.tlS, Vz0, Vz1, Vz2, Vz3, Vz4, Vz5, Vz6, kx, SZ, beq_self_eq_true, List.contains_cons, List.contains_nil, d_ePl, q_kind, q_inputs, q_rows, d_eKd, i_eKd, e_eKd, h_eKd, n_sweep, n_twice, n_borrow, d_eRows, x_eRows, l_eRows, t_eRows, d_eSc, x_eSc, l_eSc, d_eDeed, x_eDeed, x_eDeed1, d_eCells, x_eCells, l_eCells, t_eCells, a_eCells, d_eCell, x_eCell0, x_eCell1, x_eCell2, s_eCell, d_eSt, x_eSt0, x_eSt1, x_eSt2, x_eSt3, x_eSt4, b_eSt, d_eSg, x_eSg0, x_eSg1, x_eSg2, b_eSg, d_ePic, i_ePic, d_eIs, i_eIs, o_ePic, o_eIs, o_eSt, od_ePic, od_eIs, od_eSt, oi_ePic, oi_eIs, oi_eSt, i_eSt, i_eCells, e_oIs, e_oIs1, h_oIs1, e_ePic, h_ePic, n_eIs, n_ePic, n_eSt, h3, eO_none]
/-- .. so many numbers -/
def FqI (m : Nat) (s : St) : Prop := ∀ f, s.first = some f → f.length = m
theorem l_stepped (n : Nat) (k : Kd) (rows : List (List Deed)) (sg : Sg) (h : Nat) (s : St) (sc : List Deed) (dd : Deed) (c0 : Cell) (R : RowsOk rows) (W : Wf k rows sg) (H : HandIs k rows sg h s sc dd c0) (hf : FqI rows.length s) :
    callF prg (n + 2) 66 [eKd k, eRows rows, eSg sg, .int h] = pure (eSg (stepC k sg h s sc dd c0)) := by
  refine eq_pure fun w => ?_
  rw [c__law_stepped]
  have l5 := R.l5
  have l1 := W.lc
  have l2 := W.ls
  have l3 := W.lt
  have hr := (List.getElem?_eq_some_iff.mp H.row).1
  have hd := (List.getElem?_eq_some_iff.mp H.deed).1
  have H1 := H.st
  have H2 := H.row
  have H3 := H.deed
  have H4 := H.cell
  have H5 := H.now
  have ip := l_is_put n k rows sg h s sc dd c0 H
  have pc : ∀ x, callF prg (n + 1) 61 [eCells sg.cells, .int (h : Int), x] = pure (.tup ((sg.cells.map eCell).set h x)) := fun x => l_put_at n (sg.cells.map eCell) h x (by simp; omega) (by simp; omega)
  have ps : ∀ x, callF prg (n + 1) 61 [.tup (sg.states.map (eO eSt)), .int (h : Int), x] = pure (.tup ((sg.states.map (eO eSt)).set h x)) := fun x => l_put_at n _ h x (by simp; omega) (by simp; omega)
  have pt : ∀ x, callF prg (n + 1) 61 [.tup (sg.told.map eTold), .int (h : Int), x] = pure (.tup ((sg.told.map eTold).set h x)) := fun x => l_put_at n _ h x (by simp; omega) (by simp; omega)
  have pb := l_behind n rows h s.done sc H.row hd
  obtain ⟨t, ht⟩ : ∃ t, sg.told[h]? = some t := ⟨sg.told[h]'(by omega), List.getElem?_eq_getElem _⟩
  have tl := W.tl h t sc (some s) ht H.row H.st
  have ts := R.sc sc (List.mem_of_getElem? H.row)
  dsimp only at tl
  have htd : sg.told.getD h [] = t := by simp [List.getD, ht]
  unfold stepC
  rw [htd]
  cases z : isPutM k dd s.ready with
  | true =>
    rw [z] at ip
    cases dd with
    | see => simp [isPutM] at z
    | put v =>
      rw [afterM_put z]
      simp [f__law_stepped, Vz0, Vz1, Vz2, Vz3, Vz4, Vz5, Vz6, kx, SZ, beq_self_eq_true, List.contains_cons, List.contains_nil, d_ePl, q_kind, q_inputs, q_rows, d_eKd, i_eKd, e_eKd, h_eKd, n_sweep, n_twice, n_borrow, d_eRows, x_eRows, l_eRows, t_eRows, d_eSc, x_eSc, l_eSc, d_eDeed, x_eDeed, x_eDeed1, d_eCells, x_eCells, l_eCells, t_eCells, a_eCells, d_eCell, x_eCell0, x_eCell1, x_eCell2, s_eCell, d_eSt, x_eSt0, x_eSt1, x_eSt2, x_eSt3, x_eSt4, b_eSt, d_eSg, x_eSg0, x_eSg1, x_eSg2, b_eSg, d_ePic, i_ePic, d_eIs, i_eIs, o_ePic, o_eIs, o_eSt, od_ePic, od_eIs, od_eSt, oi_ePic, oi_eIs, oi_eSt, i_eSt, i_eCells, e_oIs, e_oIs1, h_oIs1, e_ePic, h_ePic, n_eIs, n_ePic, n_eSt, H1, eO_some, H2, H3, ip, H4, pc, ps, pb]
      simp [eSg, eCells, eCell, List.map_set]
  | false =>
    rw [z] at ip
    have rd : s.ready = none := by
      cases y : s.ready with
      | none => rfl
      | some p =>
        obtain ⟨r1, _, _, sc', v, r2, r3⟩ := W.rd h s H1 (by rw [y]; rfl)
        rw [H2] at r2
        cases r2
        rw [H3] at r3
        cases r3
        rw [y, r1] at z
        simp [isPutM] at z
    have e0 : sg.cells[s.now.length]? = some (sg.cells[s.now.length]'(by omega)) := List.getElem?_eq_getElem _
    rw [afterM_look z]
    unfold afterM.lookM
    generalize sg.cells[s.now.length]'(by omega) = c at e0
    rw [e0]
    dsimp only
    have sz : (s.now.length : Int) + 1 ≤ 16777216 := by omega
    by_cases hl : s.now.length + 1 = sg.cells.length
    · rw [if_pos hl]
      have se := l_seen n k s.first s.last (s.now ++ [c]) (by simp; omega) (fun f e => by rw [hf f e]; simp; omega)
      have em : s.now.map eCell ++ [eCell c] = (s.now ++ [c]).map eCell := by simp
      have nl : ¬ ((s.now.length : Int) + 1 < (sg.cells.length : Int)) := by omega
      unfold sweptM
      cases hr : resultM k s.first s.last (s.now ++ [c]) with
      | none =>
        rw [hr] at se
        cases hfi : s.first with
        | none =>
          rw [hfi] at se
          simp only [eO_none] at se
          simp [f__law_stepped, Vz0, Vz1, Vz2, Vz3, Vz4, Vz5, Vz6, kx, SZ, beq_self_eq_true, List.contains_cons, List.contains_nil, d_ePl, q_kind, q_inputs, q_rows, d_eKd, i_eKd, e_eKd, h_eKd, n_sweep, n_twice, n_borrow, d_eRows, x_eRows, l_eRows, t_eRows, d_eSc, x_eSc, l_eSc, d_eDeed, x_eDeed, x_eDeed1, d_eCells, x_eCells, l_eCells, t_eCells, a_eCells, d_eCell, x_eCell0, x_eCell1, x_eCell2, s_eCell, d_eSt, x_eSt0, x_eSt1, x_eSt2, x_eSt3, x_eSt4, b_eSt, d_eSg, x_eSg0, x_eSg1, x_eSg2, b_eSg, d_ePic, i_ePic, d_eIs, i_eIs, o_ePic, o_eIs, o_eSt, od_ePic, od_eIs, od_eSt, oi_ePic, oi_eIs, oi_eSt, i_eSt, i_eCells, e_oIs, e_oIs1, h_oIs1, e_ePic, h_ePic, n_eIs, n_ePic, n_eSt, H1, eO_some, eO_none, H2, H3, ip, e0, nl, se, hfi, rd]
          refine ⟨by omega, ?_⟩
          rw [em]
          refine wp_lc1 eCell (fun c => .int c.n) (s.now ++ [c]) (fun _ => rfl) (fun a _ => ?_) ?_
          · simp [Vz0, Vz1, Vz2, Vz3, Vz4, Vz5, Vz6, kx, SZ, beq_self_eq_true, List.contains_cons, List.contains_nil, d_ePl, q_kind, q_inputs, q_rows, d_eKd, i_eKd, e_eKd, h_eKd, n_sweep, n_twice, n_borrow, d_eRows, x_eRows, l_eRows, t_eRows, d_eSc, x_eSc, l_eSc, d_eDeed, x_eDeed, x_eDeed1, d_eCells, x_eCells, l_eCells, t_eCells, a_eCells, d_eCell, x_eCell0, x_eCell1, x_eCell2, s_eCell, d_eSt, x_eSt0, x_eSt1, x_eSt2, x_eSt3, x_eSt4, b_eSt, d_eSg, x_eSg0, x_eSg1, x_eSg2, b_eSg, d_ePic, i_ePic, d_eIs, i_eIs, o_ePic, o_eIs, o_eSt, od_ePic, od_eIs, od_eSt, oi_ePic, oi_eIs, oi_eSt, i_eSt, i_eCells, e_oIs, e_oIs1, h_oIs1, e_ePic, h_ePic, n_eIs, n_ePic, n_eSt]
          · simp [Vz0, Vz1, Vz2, Vz3, Vz4, Vz5, Vz6, kx, SZ, beq_self_eq_true, List.contains_cons, List.contains_nil, d_ePl, q_kind, q_inputs, q_rows, d_eKd, i_eKd, e_eKd, h_eKd, n_sweep, n_twice, n_borrow, d_eRows, x_eRows, l_eRows, t_eRows, d_eSc, x_eSc, l_eSc, d_eDeed, x_eDeed, x_eDeed1, d_eCells, x_eCells, l_eCells, t_eCells, a_eCells, d_eCell, x_eCell0, x_eCell1, x_eCell2, s_eCell, d_eSt, x_eSt0, x_eSt1, x_eSt2, x_eSt3, x_eSt4, b_eSt, d_eSg, x_eSg0, x_eSg1, x_eSg2, b_eSg, d_ePic, i_ePic, d_eIs, i_eIs, o_ePic, o_eIs, o_eSt, od_ePic, od_eIs, od_eSt, oi_ePic, oi_eIs, oi_eSt, i_eSt, i_eCells, e_oIs, e_oIs1, h_oIs1, e_ePic, h_ePic, n_eIs, n_ePic, n_eSt, ps]
            simp [eSg, eCells, eSt, eO, eIs, nums, List.map_set, Function.comp_def]
        | some f =>
          rw [hfi] at se
          simp only [eO_none, eO_some] at se
          simp [f__law_stepped, Vz0, Vz1, Vz2, Vz3, Vz4, Vz5, Vz6, kx, SZ, beq_self_eq_true, List.contains_cons, List.contains_nil, d_ePl, q_kind, q_inputs, q_rows, d_eKd, i_eKd, e_eKd, h_eKd, n_sweep, n_twice, n_borrow, d_eRows, x_eRows, l_eRows, t_eRows, d_eSc, x_eSc, l_eSc, d_eDeed, x_eDeed, x_eDeed1, d_eCells, x_eCells, l_eCells, t_eCells, a_eCells, d_eCell, x_eCell0, x_eCell1, x_eCell2, s_eCell, d_eSt, x_eSt0, x_eSt1, x_eSt2, x_eSt3, x_eSt4, b_eSt, d_eSg, x_eSg0, x_eSg1, x_eSg2, b_eSg, d_ePic, i_ePic, d_eIs, i_eIs, o_ePic, o_eIs, o_eSt, od_ePic, od_eIs, od_eSt, oi_ePic, oi_eIs, oi_eSt, i_eSt, i_eCells, e_oIs, e_oIs1, h_oIs1, e_ePic, h_ePic, n_eIs, n_ePic, n_eSt, H1, eO_some, eO_none, H2, H3, ip, e0, nl, se, hfi, rd]
          refine ⟨by omega, ?_⟩
          rw [em]
          refine wp_lc1 eCell (fun c => .int c.n) (s.now ++ [c]) (fun _ => rfl) (fun a _ => ?_) ?_
          · simp [Vz0, Vz1, Vz2, Vz3, Vz4, Vz5, Vz6, kx, SZ, beq_self_eq_true, List.contains_cons, List.contains_nil, d_ePl, q_kind, q_inputs, q_rows, d_eKd, i_eKd, e_eKd, h_eKd, n_sweep, n_twice, n_borrow, d_eRows, x_eRows, l_eRows, t_eRows, d_eSc, x_eSc, l_eSc, d_eDeed, x_eDeed, x_eDeed1, d_eCells, x_eCells, l_eCells, t_eCells, a_eCells, d_eCell, x_eCell0, x_eCell1, x_eCell2, s_eCell, d_eSt, x_eSt0, x_eSt1, x_eSt2, x_eSt3, x_eSt4, b_eSt, d_eSg, x_eSg0, x_eSg1, x_eSg2, b_eSg, d_ePic, i_ePic, d_eIs, i_eIs, o_ePic, o_eIs, o_eSt, od_ePic, od_eIs, od_eSt, oi_ePic, oi_eIs, oi_eSt, i_eSt, i_eCells, e_oIs, e_oIs1, h_oIs1, e_ePic, h_ePic, n_eIs, n_ePic, n_eSt]
          · simp [Vz0, Vz1, Vz2, Vz3, Vz4, Vz5, Vz6, kx, SZ, beq_self_eq_true, List.contains_cons, List.contains_nil, d_ePl, q_kind, q_inputs, q_rows, d_eKd, i_eKd, e_eKd, h_eKd, n_sweep, n_twice, n_borrow, d_eRows, x_eRows, l_eRows, t_eRows, d_eSc, x_eSc, l_eSc, d_eDeed, x_eDeed, x_eDeed1, d_eCells, x_eCells, l_eCells, t_eCells, a_eCells, d_eCell, x_eCell0, x_eCell1, x_eCell2, s_eCell, d_eSt, x_eSt0, x_eSt1, x_eSt2, x_eSt3, x_eSt4, b_eSt, d_eSg, x_eSg0, x_eSg1, x_eSg2, b_eSg, d_ePic, i_ePic, d_eIs, i_eIs, o_ePic, o_eIs, o_eSt, od_ePic, od_eIs, od_eSt, oi_ePic, oi_eIs, oi_eSt, i_eSt, i_eCells, e_oIs, e_oIs1, h_oIs1, e_ePic, h_ePic, n_eIs, n_ePic, n_eSt, ps]
            simp [eSg, eCells, eSt, eO, eIs, nums, List.map_set, Function.comp_def]
      | some p =>
        rw [hr] at se
        simp only [eO_some] at se
        cases dd with
        | see =>
          simp [f__law_stepped, Vz0, Vz1, Vz2, Vz3, Vz4, Vz5, Vz6, kx, SZ, beq_self_eq_true, List.contains_cons, List.contains_nil, d_ePl, q_kind, q_inputs, q_rows, d_eKd, i_eKd, e_eKd, h_eKd, n_sweep, n_twice, n_borrow, d_eRows, x_eRows, l_eRows, t_eRows, d_eSc, x_eSc, l_eSc, d_eDeed, x_eDeed, x_eDeed1, d_eCells, x_eCells, l_eCells, t_eCells, a_eCells, d_eCell, x_eCell0, x_eCell1, x_eCell2, s_eCell, d_eSt, x_eSt0, x_eSt1, x_eSt2, x_eSt3, x_eSt4, b_eSt, d_eSg, x_eSg0, x_eSg1, x_eSg2, b_eSg, d_ePic, i_ePic, d_eIs, i_eIs, o_ePic, o_eIs, o_eSt, od_ePic, od_eIs, od_eSt, oi_ePic, oi_eIs, oi_eSt, i_eSt, i_eCells, e_oIs, e_oIs1, h_oIs1, e_ePic, h_ePic, n_eIs, n_ePic, n_eSt, H1, eO_some, eO_none, H2, H3, ip, e0, nl, se, rd, ht, ps, pt, pb, wd, eTold]
          refine ⟨by omega, by omega, ?_⟩
          simp [eSg, eCells, eSt, eO, eTold, List.map_set]
        | put v =>
          simp [f__law_stepped, Vz0, Vz1, Vz2, Vz3, Vz4, Vz5, Vz6, kx, SZ, beq_self_eq_true, List.contains_cons, List.contains_nil, d_ePl, q_kind, q_inputs, q_rows, d_eKd, i_eKd, e_eKd, h_eKd, n_sweep, n_twice, n_borrow, d_eRows, x_eRows, l_eRows, t_eRows, d_eSc, x_eSc, l_eSc, d_eDeed, x_eDeed, x_eDeed1, d_eCells, x_eCells, l_eCells, t_eCells, a_eCells, d_eCell, x_eCell0, x_eCell1, x_eCell2, s_eCell, d_eSt, x_eSt0, x_eSt1, x_eSt2, x_eSt3, x_eSt4, b_eSt, d_eSg, x_eSg0, x_eSg1, x_eSg2, b_eSg, d_ePic, i_ePic, d_eIs, i_eIs, o_ePic, o_eIs, o_eSt, od_ePic, od_eIs, od_eSt, oi_ePic, oi_eIs, oi_eSt, i_eSt, i_eCells, e_oIs, e_oIs1, h_oIs1, e_ePic, h_ePic, n_eIs, n_ePic, n_eSt, H1, eO_some, eO_none, H2, H3, ip, e0, nl, se, rd, ps, wd]
          refine ⟨by omega, ?_⟩
          simp [eSg, eCells, eSt, eO, List.map_set]
    · rw [if_neg hl]
      have nl : (s.now.length : Int) + 1 < (sg.cells.length : Int) := by omega
      simp [f__law_stepped, Vz0, Vz1, Vz2, Vz3, Vz4, Vz5, Vz6, kx, SZ, beq_self_eq_true, List.contains_cons, List.contains_nil, d_ePl, q_kind, q_inputs, q_rows, d_eKd, i_eKd, e_eKd, h_eKd, n_sweep, n_twice, n_borrow, d_eRows, x_eRows, l_eRows, t_eRows, d_eSc, x_eSc, l_eSc, d_eDeed, x_eDeed, x_eDeed1, d_eCells, x_eCells, l_eCells, t_eCells, a_eCells, d_eCell, x_eCell0, x_eCell1, x_eCell2, s_eCell, d_eSt, x_eSt0, x_eSt1, x_eSt2, x_eSt3, x_eSt4, b_eSt, d_eSg, x_eSg0, x_eSg1, x_eSg2, b_eSg, d_ePic, i_ePic, d_eIs, i_eIs, o_ePic, o_eIs, o_eSt, od_ePic, od_eIs, od_eSt, oi_ePic, oi_eIs, oi_eSt, i_eSt, i_eCells, e_oIs, e_oIs1, h_oIs1, e_ePic, h_ePic, n_eIs, n_ePic, n_eSt, H1, eO_some, eO_none, H2, H3, ip, e0, nl, rd, ps]
      refine ⟨by omega, ?_⟩
      simp [eSg, eCells, eSt, eO, List.map_set]
end K02

set_option maxRecDepth 100000
set_option maxHeartbeats 1000000
namespace K02
open PySem Ev
/-! ### what stays true of standings -/
theorem fresh_fq {m : Nat} {sc : List Deed} {d : Nat} {s : St} (h : freshM sc d = some s) : FqI m s := by
  obtain ⟨a, _⟩ := freshM_first h
  intro f e
  rw [a] at e
  cases e
theorem afterM_fq {k : Kd} {sc : List Deed} {dd : Deed} {c0 : Cell} {cells : List Cell} {s : St} {m : Nat} (hs : FqI m s) (hl : cells.length = m) (hn : s.now.length < cells.length) {s' : St} (e : (afterM k sc dd c0 cells s).2.1 = some s') : FqI m s' := by
  cases y : isPutM k dd s.ready with
  | true =>
    cases dd with
    | see => simp [isPutM] at y
    | put v =>
      rw [afterM_put y] at e
      exact fresh_fq e
  | false =>
    have le := look_end (k := k) (sc := sc) (dd := dd) (c0 := c0) y (List.getElem?_eq_getElem hn)
    rw [e] at le
    generalize (afterM k sc dd c0 cells s).2.2 = it at le
    have ln : ∀ c, s.now.length + 1 = cells.length → (nums (s.now ++ [c])).length = m := fun c h => by simp [nums]; omega
    cases le with
    | on q => exact hs
    | more q hr =>
      intro f z
      have z := Option.some.inj z
      rw [← z]
      cases hf : s.first with
      | none => exact ln _ q
      | some f => exact hs f hf
    | see q hd hr hf => exact fresh_fq hf.symm
    | put q hd hr => intro f z; cases z
structure Gd (k : Kd) (rows : List (List Deed)) (b : Nat) (g : Sg) : Prop where
  wf : Wf k rows g
  fq : ∀ s, some s ∈ g.states → FqI rows.length s
  mz : MzI rows.length g
  mn : MnI b g
theorem Gd.step {k : Kd} {rows : List (List Deed)} {g : Sg} {h b : Nat} {s : St} {sc : List Deed} {dd : Deed} {c0 : Cell} (R : RowsOk rows) (hb : 1000 ≤ b) (G : Gd k rows b g) (H : HandIs k rows g h s sc dd c0) : Gd k rows (b + 1) (stepC k g h s sc dd c0) := by
  refine ⟨G.wf.step H, fun s' hs => ?_, G.mz.step G.wf H, G.mn.step R hb G.wf H⟩
  unfold stepC at hs
  rcases List.mem_or_eq_of_mem_set hs with q | q
  · exact G.fq s' q
  · exact afterM_fq (G.fq s (List.mem_of_getElem? H.st)) G.wf.lc (by rw [G.wf.lc]; exact H.now) q.symm
theorem Gd.up {k : Kd} {rows : List (List Deed)} {g : Sg} {b : Nat} (G : Gd k rows b g) : Gd k rows (b + 1) g := ⟨G.wf, G.fq, G.mz, G.mn.up⟩
theorem gd_begun (k : Kd) {rows : List (List Deed)} (R : RowsOk rows) : Gd k rows 1000 (begunM rows) := by
  refine ⟨wf_begun k R, fun s hs => ?_, ⟨fun c hc => ?_, fun s hs => ?_, fun t ht p hp => ?_⟩, ⟨fun c hc => ?_, fun s hs => ?_, fun t ht p hp => ?_⟩⟩
  · simp only [begunM] at hs
    obtain ⟨sc, _, h⟩ := List.mem_map.mp hs
    exact fresh_fq h
  · simp only [begunM] at hc
    rw [(List.mem_replicate.mp hc).2]
    intro p e
    cases e
  · simp only [begunM] at hs
    obtain ⟨sc, _, h⟩ := List.mem_map.mp hs
    refine ⟨?_, fresh_fl h⟩
    obtain ⟨rfl, _⟩ := freshM_some h
    exact ⟨fun c hc => (by cases hc), fun p e => (by cases e)⟩
  · simp only [begunM] at ht
    rw [(List.mem_replicate.mp ht).2] at hp
    cases hp
  · simp only [begunM] at hc
    rw [(List.mem_replicate.mp hc).2]
    exact ⟨(by show (0 : Int).natAbs ≤ 1000; decide), (by show (0 : Int).natAbs ≤ 1000; decide), fun p e => (by cases e)⟩
  · simp only [begunM] at hs
    obtain ⟨sc, _, h⟩ := List.mem_map.mp hs
    exact fresh_n h
  · simp only [begunM] at ht
    rw [(List.mem_replicate.mp ht).2] at hp
    cases hp
theorem nd_sg {k : Kd} {rows : List (List Deed)} {b : Nat} {g : Sg} (R : RowsOk rows) (G : Gd k rows b g) : Nd 8 (eSg g) := by
  have E := G.mz
  have K := G.wf
  have m5 := R.l5
  have r6 := R.sc
  have lc := K.lc
  have ls := K.ls
  have lt := K.lt
  refine .tup (by simp) fun x hx => ?_
  simp only [List.mem_cons, List.not_mem_nil, or_false] at hx
  rcases hx with rfl | rfl | rfl
  · refine .tup (by simp; omega) fun x hx => ?_
    obtain ⟨c, hc, rfl⟩ := List.mem_map.mp hx
    exact nd_cell (E.c c hc) (by omega)
  · refine .tup (by simp; omega) fun x hx => ?_
    obtain ⟨o, ho, rfl⟩ := List.mem_map.mp hx
    cases o with
    | none => exact .non
    | some s =>
      obtain ⟨so, fo⟩ := E.s s ho
      obtain ⟨h, hs⟩ := List.mem_iff_getElem?.mp ho
      exact (nd_st (m := 1) so fo (by omega) (Nat.le_of_lt (K.st h s hs).1)).up (by omega)
  · refine .tup (by simp; omega) fun x hx => ?_
    obtain ⟨t, ht, rfl⟩ := List.mem_map.mp hx
    obtain ⟨h, hh⟩ := List.mem_iff_getElem?.mp ht
    have hl := (List.getElem?_eq_some_iff.mp hh).1
    have hr : rows[h]? = some (rows[h]'(by omega)) := List.getElem?_eq_getElem _
    have hsc := r6 _ (List.mem_of_getElem? hr)
    have tl := K.tl h t _ (g.states[h]'(by omega)) hh hr (List.getElem?_eq_getElem _)
    have l6 : t.length ≤ 6 := by
      cases z : g.states[h]'(by omega) with
      | none => rw [z] at tl; exact Nat.le_trans tl hsc
      | some s =>
        rw [z] at tl
        obtain ⟨_, sc, e1, e2⟩ := K.st h s (by rw [List.getElem?_eq_getElem (by omega), z])
        rw [hr] at e1
        cases e1
        have tl : t.length ≤ s.done := tl
        omega
    refine .tup (m := 5) (xs := t.map ePic) (by rw [List.length_map]; omega) fun x hx => ?_
    obtain ⟨p, hp, rfl⟩ := List.mem_map.mp hx
    exact (nd_pic (m := 0) (Nat.le_trans (E.t t ht p hp) (by omega))).up (by omega)
theorem rep_sg {k : Kd} {rows : List (List Deed)} {b : Nat} {g : Sg} (R : RowsOk rows) (G : Gd k rows b g) (hb : b ≤ 5000) : repOf (eSg g) = pure (.str (eSg g).py.shown) ∧ PyData.strOk (eSg g).py.shown = true := by
  obtain ⟨a, c⟩ := rep_ok (sg_nb R hb G.mn G.mz G.wf) (Nat.le_refl _) (nd_sg R G) (by omega)
  refine ⟨?_, c⟩
  unfold eSg at a ⊢
  rw [repOf]
  unfold grd
  rw [if_pos a]
theorem nd_rows {rows : List (List Deed)} (R : RowsOk rows) : Nd 3 (eRows rows) := by
  have m5 := R.l5
  refine .tup (by simp; omega) fun x hx => ?_
  obtain ⟨sc, hs, rfl⟩ := List.mem_map.mp hx
  have := R.sc sc hs
  refine .tup (by simp; omega) fun x hx => ?_
  obtain ⟨d, _, rfl⟩ := List.mem_map.mp hx
  cases d with
  | see => exact .tup (by simp) fun x hx => by simp at hx; rw [hx]; exact .str (by simp)
  | put v => exact .tup (by simp) fun x hx => by simp at hx; rcases hx with rfl | rfl; exact .str (by simp); exact .int
/-! ### draws -/
theorem t_manner2 (n : Nat) (w : Wd) (Q : D → Wd → Prop) (E : EK) (H : HandOk w) (hq : ∀ k rows w', RowsOk rows → B.PlayOk (.tup [eKd k, eRows rows]) → HandOk w' → Q (.tup [eKd k, eRows rows]) w') : wp (callF prg (n + 4) 59 [.cel 0]) w Q E := by
  rw [c__law_manner]
  simp [f__law_manner, Vz0, Vz1, Vz2, Vz3, Vz4, Vz5, Vz6, kx, SZ, beq_self_eq_true, List.contains_cons, List.contains_nil]
  refine B.pick_many (n + 1) _ _ [1, 2, 2, 3, 3, 4, 5] rfl (by decide) (by simp) (by simp) _ _ H fun many w2 hmm h1 _ H2 => ?_
  have h5 : many ≤ 5 := by simp at hmm; omega
  simp [Vz0, Vz1, Vz2, Vz3, Vz4, Vz5, Vz6, kx, SZ, beq_self_eq_true, List.contains_cons, List.contains_nil]
  refine B.pick_many (n + 1) _ _ [1, 2, 3, 6] rfl (by decide) (by simp) (by simp) _ _ H2 fun most w3 _ _ h6 H3 => ?_
  refine B.t_pick (n + 1) _ _ _ _ H3 (by simp) (by simp) fun x w4 hk H4 => ?_
  obtain ⟨k, s, rfl, e, hk2⟩ : ∃ k : Kd, ∃ s, x = eKd k ∧ eKd k = .str s ∧ B.mannS s = true := by
    simp at hk
    rcases hk with rfl | rfl | rfl
    · exact ⟨.sweep, _, rfl, rfl, by simp [B.mannS]⟩
    · exact ⟨.twice, _, rfl, rfl, by simp [B.mannS]⟩
    · exact ⟨.borrow, _, rfl, rfl, by simp [B.mannS]⟩
  have rg : rngOk (many : Int) := rngOk_nat (by omega)
  simp [Vz0, Vz1, Vz2, Vz3, Vz4, Vz5, Vz6, kx, SZ, beq_self_eq_true, List.contains_cons, List.contains_nil, rg, rngD0]
  refine ⟨by omega, wp_lcGo (B.RwP B.scriptB) _ [] _ _ ⟨H4, fun _ h => by cases h⟩ (fun acc w d hd hi => ?_) fun ys w hl hi => ?_⟩
  · obtain ⟨a, ha, rfl⟩ := List.mem_map.mp hd
    simp [Vz0, Vz1, Vz2, Vz3, Vz4, Vz5, Vz6, kx, SZ, beq_self_eq_true, List.contains_cons, List.contains_nil]
    refine B.t_script_draw n most h6 _ _ _ hi.1 fun d w5 hd5 H5 => ?_
    exact hi.add H5 hd5
  · obtain ⟨H5, hp⟩ := hi
    simp at hl hp
    obtain ⟨rows, er, R⟩ := rows_is (B.row_tt (p := B.scriptB) (xs := ys) (by omega) (by omega) hp)
    have hP := B.manner_play hk2 (by omega) (by omega) hp
    rw [er, ← e] at hP
    simp [Vz0, Vz1, Vz2, Vz3, Vz4, Vz5, Vz6, kx, SZ, beq_self_eq_true, List.contains_cons, List.contains_nil, er]
    exact hq k rows w R hP H5
theorem t_play (n : Nat) (k : Kd) (rows : List (List Deed)) (hP : B.PlayOk (.tup [eKd k, eRows rows])) : iniF (n + 9) 0 [eKd k, eRows rows] = pure (ePl k rows) := by
  obtain ⟨k', d', e0, hk, hi, ho⟩ := hP
  injection e0 with e0
  injection e0 with e1 e2
  injection e2 with e2 _
  rw [e1, e2, B.Play_ok n 4 k' d' hk ho hi]
  cases k with
  | sweep =>
    injection e1 with e1
    subst e1
    simp [B.ePo, B.rowsD, ePl, eKd, ← e2]
  | twice =>
    injection e1 with e1
    subst e1
    simp [B.ePo, B.rowsD, ePl, eKd, ← e2]
  | borrow =>
    injection e1 with e1
    subst e1
    simp [B.ePo, B.rowsD, ePl, eKd, ← e2]
theorem t_chosen (n : Nat) (W : List Nat) (hW : W ≠ []) (hl : W.length ≤ 5) (last mode : Int) (w : Wd) (Q : D → Wd → Prop) (E : EK) (H : HandOk w) (hq : ∀ (x : Nat) w', x ∈ W → HandOk w' → Q (.int (x : Int)) w') :
    wp (callF prg (n + 3) 67 [.cel 0, .lst (W.map fun (h : Nat) => .int (h : Int)), .int last, .int mode]) w Q E := by
  rw [c__law_chosen, wp_endF]
  have e7 : f__law_chosen.body = .cons (B.hdS 0 f__law_chosen.body) (B.tlS 1 f__law_chosen.body) := rfl
  rw [e7]
  have tail : ∀ w, HandOk w → wp (exs (cg (n + 2)) (B.tlS 1 f__law_chosen.body) [.val (.cel 0), .val (.lst (W.map fun (h : Nat) => .int (h : Int))), .val (.int last), .val (.int mode), .un, .un]) w (endK Q E) NoE := fun w H => by
    by_cases hm : mode = 1
    · subst hm
      simp [f__law_chosen, B.tlS, Vz0, Vz1, Vz2, Vz3, Vz4, Vz5, Vz6, kx, SZ, beq_self_eq_true, List.contains_cons, List.contains_nil]
      refine ⟨by omega, wp_lc (fun (h : Nat) => D.int (h : Int)) (fun h => decide (last < (h : Int))) (fun h => .int (h : Int)) _ (fun a ha => ?_) ?_⟩
      · simp [Vz0, Vz1, Vz2, Vz3, Vz4, Vz5, Vz6, kx, SZ, beq_self_eq_true, List.contains_cons, List.contains_nil]
      · have lf := List.length_filter_le (fun h : Nat => decide (last < (h : Int))) W
        simp [Vz0, Vz1, Vz2, Vz3, Vz4, Vz5, Vz6, kx, SZ, beq_self_eq_true, List.contains_cons, List.contains_nil]
        refine ⟨by omega, ?_⟩
        cases z : W.filter fun h : Nat => decide (last < (h : Int)) with
        | nil =>
          cases W with
          | nil => exact absurd rfl hW
          | cons a r =>
            simp [Vz0, Vz1, Vz2, Vz3, Vz4, Vz5, Vz6, kx, SZ, beq_self_eq_true, List.contains_cons, List.contains_nil]
            exact hq a w (List.mem_cons_self ..) H
        | cons a r =>
          simp [Vz0, Vz1, Vz2, Vz3, Vz4, Vz5, Vz6, kx, SZ, beq_self_eq_true, List.contains_cons, List.contains_nil]
          have : a ∈ W.filter fun h : Nat => decide (last < (h : Int)) := by rw [z]; exact List.mem_cons_self ..
          exact hq a w (List.mem_filter.mp this).1 H
    · simp [f__law_chosen, B.tlS, Vz0, Vz1, Vz2, Vz3, Vz4, Vz5, Vz6, kx, SZ, beq_self_eq_true, List.contains_cons, List.contains_nil, hm]
      refine B.t_pick n _ _ _ _ H (by simpa using List.length_pos_iff.mpr hW) (by simp; omega) fun x w' hx H' => ?_
      obtain ⟨a, ha, rfl⟩ := List.mem_map.mp hx
      exact hq a w' ha H'
  rw [wp_cons]
  by_cases hm : mode = 0
  · subst hm
    have sh := sh_ints last W
    have hs := has_ints last W
    by_cases hv : ∃ h ∈ W, (h : Int) = last
    · rw [decide_eq_true hv] at hs
      obtain ⟨h0, h1, h2⟩ := hv
      simp [f__law_chosen, B.hdS, Vz0, Vz1, Vz2, Vz3, Vz4, Vz5, Vz6, kx, SZ, beq_self_eq_true, List.contains_cons, List.contains_nil, sh, hs]
      refine B.t_take (n + 1) _ _ _ _ H (by omega) (by omega) fun r w' hr H' => ?_
      by_cases hz : 0 < r
      · simp [Vz0, Vz1, Vz2, Vz3, Vz4, Vz5, Vz6, kx, SZ, beq_self_eq_true, List.contains_cons, List.contains_nil, hz]
        rw [← h2]
        exact hq h0 w' h1 H'
      · simp [Vz0, Vz1, Vz2, Vz3, Vz4, Vz5, Vz6, kx, SZ, beq_self_eq_true, List.contains_cons, List.contains_nil, hz]
        exact tail w' H'
    · rw [decide_eq_false hv] at hs
      simp [f__law_chosen, B.hdS, Vz0, Vz1, Vz2, Vz3, Vz4, Vz5, Vz6, kx, SZ, beq_self_eq_true, List.contains_cons, List.contains_nil, sh, hs]
      exact tail w H
  · simp [f__law_chosen, B.hdS, Vz0, Vz1, Vz2, Vz3, Vz4, Vz5, Vz6, kx, SZ, beq_self_eq_true, List.contains_cons, List.contains_nil, hm]
    exact tail w H
end K02

set_option maxRecDepth 100000
set_option maxHeartbeats 1000000
namespace K02
open PySem Ev
/-! ### the law -/
def insL (W : List Nat) : D := .lst (W.map fun (h : Nat) => .int (h : Int))
def bdS : S → Ss
  | .for _ _ b => b
  | _ => .nil
abbrev EnvL (x0 : D) (k : Kd) (rows : List (List Deed)) (g : Sg) (mode last : Int) (st : List Nat) (j7 j10 j11 j12 j13 j14 : Ev.Slot) : Ev.Env := [.val x0, .val (.cel 0), .val (ePl k rows), .val (eSg g), .val (.int mode), .val (insL st), .val (.int last), j7, .val (eKd k), .val (eRows rows), j10, j11, j12, j13, j14]
theorem mv_rng : ∀ (S : List (Option St)) (k : Nat), ((S.zipIdx k).filter (·.1.isSome)).map (·.2) = (List.range' k S.length).filter fun i => ((S[i - k]?).getD none).isSome
  | [], k => by simp
  | s :: S, k => by
    rw [List.zipIdx_cons, List.length_cons, List.range'_succ, List.filter_cons, List.filter_cons]
    have ih := mv_rng S (k + 1)
    have e : (List.range' (k + 1) S.length).filter (fun i => (((s :: S)[i - k]?).getD none).isSome) = (List.range' (k + 1) S.length).filter fun i => ((S[i - (k + 1)]?).getD none).isSome := by
      refine List.filter_congr fun i hi => ?_
      have := (List.mem_range'_1.mp hi).1
      obtain ⟨j, rfl⟩ := Nat.exists_eq_add_of_le this
      have e1 : k + 1 + j - k = j + 1 := by omega
      have e2 : k + 1 + j - (k + 1) = j := by omega
      rw [e1, e2]
      simp
    have e0 : (((s :: S)[k - k]?).getD none).isSome = s.isSome := by simp
    rw [e0, e, ← ih]
    cases s.isSome <;> simp
def ableM (g : Sg) (i : Nat) : Bool := ((g.states[i]?).getD none).isSome
theorem able_mv (g : Sg) : (List.range g.states.length).filter (ableM g) = moversM g.states := by
  have q := mv_rng g.states 0
  unfold moversM
  rw [q, ← List.range_eq_range']
  rfl
theorem t_next_step (n : Nat) (k : Kd) (rows : List (List Deed)) (sg : Sg) (h : Nat) (s : St) (sc : List Deed) (dd : Deed) (c0 : Cell) (H : HandIs k rows sg h s sc dd c0) : callF prg (n + 7) 52 [ePl k rows, eSg sg, .int h] = pure (if isPutM k dd s.ready then .tup [.str s5_put] else .tup [.str s9_look, .int s.now.length]) := by
  refine eq_pure fun w => ?_
  rw [c_next_step]
  have q := t_next_of (n + 3) k rows h s sc dd H.row H.deed
  have q2 := t_check_step n k rows sg h s (List.getElem?_eq_some_iff.mp H.row).1 H.st
  have H1 := H.st
  simp [f_next_step, Vz0, Vz1, Vz2, Vz3, Vz4, Vz5, Vz6, kx, SZ, beq_self_eq_true, List.contains_cons, List.contains_nil, d_ePl, q_kind, q_inputs, q_rows, d_eKd, i_eKd, e_eKd, h_eKd, n_sweep, n_twice, n_borrow, d_eRows, x_eRows, l_eRows, t_eRows, d_eSc, x_eSc, l_eSc, d_eDeed, x_eDeed, x_eDeed1, d_eCells, x_eCells, l_eCells, t_eCells, a_eCells, d_eCell, x_eCell0, x_eCell1, x_eCell2, s_eCell, d_eSt, x_eSt0, x_eSt1, x_eSt2, x_eSt3, x_eSt4, b_eSt, d_eSg, x_eSg0, x_eSg1, x_eSg2, b_eSg, d_ePic, i_ePic, d_eIs, i_eIs, o_ePic, o_eIs, o_eSt, od_ePic, od_eIs, od_eSt, oi_ePic, oi_eIs, oi_eSt, i_eSt, i_eCells, e_oIs, e_oIs1, h_oIs1, e_ePic, h_ePic, n_eIs, n_ePic, n_eSt, q2, H1, eO_some, q]
section
variable (n : Nat) (x0 : D) (k : Kd) (rows : List (List Deed)) (g : Sg) (mode last : Int) (st : List Nat) (b : Nat) (R : RowsOk rows) (G : Gd k rows b g) (w : Wd) (j7 j10 j11 j12 j13 j14 : Ev.Slot)
abbrev law_bd : Ss := bdS (B.hdS 8 f_law.body)
include R G in
theorem s_able (hz : zwS (some j12) = true) : wp (ex (cg (n + 20)) (B.hdS 0 law_bd) (EnvL x0 k rows g mode last st j7 j10 j11 j12 j13 j14)) w (fun f w' => ∃ e', f = .nx e' ∧ w' = w ∧ e' = EnvL x0 k rows g mode last st j7 (.val (insL (moversM g.states))) j11 j12 j13 j14) NoE := by
  have l5 := R.l5
  have ls := G.wf.ls
  have rg : rngOk (rows.length : Int) := rngOk_nat (by omega)
  simp [law_bd, f_law, bdS, B.hdS, Vz0, Vz1, Vz2, Vz3, Vz4, Vz5, Vz6, kx, SZ, beq_self_eq_true, List.contains_cons, List.contains_nil, d_ePl, q_kind, q_inputs, q_rows, d_eKd, i_eKd, e_eKd, h_eKd, n_sweep, n_twice, n_borrow, d_eRows, x_eRows, l_eRows, t_eRows, d_eSc, x_eSc, l_eSc, d_eDeed, x_eDeed, x_eDeed1, d_eCells, x_eCells, l_eCells, t_eCells, a_eCells, d_eCell, x_eCell0, x_eCell1, x_eCell2, s_eCell, d_eSt, x_eSt0, x_eSt1, x_eSt2, x_eSt3, x_eSt4, b_eSt, d_eSg, x_eSg0, x_eSg1, x_eSg2, b_eSg, d_ePic, i_ePic, d_eIs, i_eIs, o_ePic, o_eIs, o_eSt, od_ePic, od_eIs, od_eSt, oi_ePic, oi_eIs, oi_eSt, i_eSt, i_eCells, e_oIs, e_oIs1, h_oIs1, e_ePic, h_ePic, n_eIs, n_ePic, n_eSt, rg, rngD0, hz]
  refine ⟨by omega, wp_lc (fun (i : Nat) => D.int (i : Int)) (ableM g) (fun i => .int (i : Int)) _ (fun a ha => ?_) ?_⟩
  · have ha := List.mem_range.mp ha
    have e := List.getElem?_eq_getElem (show a < g.states.length by omega)
    simp [Vz0, Vz1, Vz2, Vz3, Vz4, Vz5, Vz6, kx, SZ, beq_self_eq_true, List.contains_cons, List.contains_nil, d_ePl, q_kind, q_inputs, q_rows, d_eKd, i_eKd, e_eKd, h_eKd, n_sweep, n_twice, n_borrow, d_eRows, x_eRows, l_eRows, t_eRows, d_eSc, x_eSc, l_eSc, d_eDeed, x_eDeed, x_eDeed1, d_eCells, x_eCells, l_eCells, t_eCells, a_eCells, d_eCell, x_eCell0, x_eCell1, x_eCell2, s_eCell, d_eSt, x_eSt0, x_eSt1, x_eSt2, x_eSt3, x_eSt4, b_eSt, d_eSg, x_eSg0, x_eSg1, x_eSg2, b_eSg, d_ePic, i_ePic, d_eIs, i_eIs, o_ePic, o_eIs, o_eSt, od_ePic, od_eIs, od_eSt, oi_ePic, oi_eIs, oi_eSt, i_eSt, i_eCells, e_oIs, e_oIs1, h_oIs1, e_ePic, h_ePic, n_eIs, n_ePic, n_eSt, e, ableM]
  · rw [← ls, able_mv]
    simp [Vz0, Vz1, Vz2, Vz3, Vz4, Vz5, Vz6, kx, SZ, beq_self_eq_true, List.contains_cons, List.contains_nil, insL]
include R G in
theorem s_same : wp (ex (cg (n + 20)) (B.hdS 1 law_bd) (EnvL x0 k rows g mode last st j7 (.val (insL (moversM g.states))) j11 j12 j13 j14)) w (fun f w' => ∃ e', f = .nx e' ∧ w' = w ∧ e' = EnvL x0 k rows g mode last st j7 (.val (insL (moversM g.states))) j11 j12 j13 j14) NoE := by
  have l5 := R.l5
  have ls := G.wf.ls
  have lm := @movers_len g.states
  have q1 := t_can_step (n + 18) (ePl k rows) g (by omega)
  have q2 := t_same 1 (n + 17) (eHands (moversM g.states)) (nd_hands (by omega))
  unfold eHands at q1 q2
  simp [law_bd, f_law, bdS, B.hdS, Vz0, Vz1, Vz2, Vz3, Vz4, Vz5, Vz6, kx, SZ, beq_self_eq_true, List.contains_cons, List.contains_nil, d_ePl, q_kind, q_inputs, q_rows, d_eKd, i_eKd, e_eKd, h_eKd, n_sweep, n_twice, n_borrow, d_eRows, x_eRows, l_eRows, t_eRows, d_eSc, x_eSc, l_eSc, d_eDeed, x_eDeed, x_eDeed1, d_eCells, x_eCells, l_eCells, t_eCells, a_eCells, d_eCell, x_eCell0, x_eCell1, x_eCell2, s_eCell, d_eSt, x_eSt0, x_eSt1, x_eSt2, x_eSt3, x_eSt4, b_eSt, d_eSg, x_eSg0, x_eSg1, x_eSg2, b_eSg, d_ePic, i_ePic, d_eIs, i_eIs, o_ePic, o_eIs, o_eSt, od_ePic, od_eIs, od_eSt, oi_ePic, oi_eIs, oi_eSt, i_eSt, i_eCells, e_oIs, e_oIs1, h_oIs1, e_ePic, h_ePic, n_eIs, n_ePic, n_eSt, insL, q1, q2]
include R G in
theorem s_free (hz : zwS (some j12) = true) : wp (ex (cg (n + 20)) (B.hdS 2 law_bd) (EnvL x0 k rows g mode last st j7 (.val (insL (moversM g.states))) j11 j12 j13 j14)) w (fun f w' => ∃ e', f = .nx e' ∧ w' = w ∧ e' = EnvL x0 k rows g mode last st j7 (.val (insL (moversM g.states))) (.val (insL ((moversM g.states).filter fun h => !decide (h ∈ st)))) j12 j13 j14) NoE := by
  have l5 := R.l5
  have ls := G.wf.ls
  have lm := @movers_len g.states
  simp [law_bd, f_law, bdS, B.hdS, Vz0, Vz1, Vz2, Vz3, Vz4, Vz5, Vz6, kx, SZ, beq_self_eq_true, List.contains_cons, List.contains_nil, d_ePl, q_kind, q_inputs, q_rows, d_eKd, i_eKd, e_eKd, h_eKd, n_sweep, n_twice, n_borrow, d_eRows, x_eRows, l_eRows, t_eRows, d_eSc, x_eSc, l_eSc, d_eDeed, x_eDeed, x_eDeed1, d_eCells, x_eCells, l_eCells, t_eCells, a_eCells, d_eCell, x_eCell0, x_eCell1, x_eCell2, s_eCell, d_eSt, x_eSt0, x_eSt1, x_eSt2, x_eSt3, x_eSt4, b_eSt, d_eSg, x_eSg0, x_eSg1, x_eSg2, b_eSg, d_ePic, i_ePic, d_eIs, i_eIs, o_ePic, o_eIs, o_eSt, od_ePic, od_eIs, od_eSt, oi_ePic, oi_eIs, oi_eSt, i_eSt, i_eCells, e_oIs, e_oIs1, h_oIs1, e_ePic, h_ePic, n_eIs, n_ePic, n_eSt, insL, hz]
  refine ⟨by omega, wp_lc (fun (i : Nat) => D.int (i : Int)) (fun h => !decide (h ∈ st)) (fun i => .int (i : Int)) _ (fun a ha => ?_) ?_⟩
  · have sh := sh_ints a st
    have hs : hasD (.int (a : Int)) (st.map fun (h : Nat) => .int (h : Int)) = decide (a ∈ st) := hasD_ints
    simp [Vz0, Vz1, Vz2, Vz3, Vz4, Vz5, Vz6, kx, SZ, beq_self_eq_true, List.contains_cons, List.contains_nil, d_ePl, q_kind, q_inputs, q_rows, d_eKd, i_eKd, e_eKd, h_eKd, n_sweep, n_twice, n_borrow, d_eRows, x_eRows, l_eRows, t_eRows, d_eSc, x_eSc, l_eSc, d_eDeed, x_eDeed, x_eDeed1, d_eCells, x_eCells, l_eCells, t_eCells, a_eCells, d_eCell, x_eCell0, x_eCell1, x_eCell2, s_eCell, d_eSt, x_eSt0, x_eSt1, x_eSt2, x_eSt3, x_eSt4, b_eSt, d_eSg, x_eSg0, x_eSg1, x_eSg2, b_eSg, d_ePic, i_ePic, d_eIs, i_eIs, o_ePic, o_eIs, o_eSt, od_ePic, od_eIs, od_eSt, oi_ePic, oi_eIs, oi_eSt, i_eSt, i_eCells, e_oIs, e_oIs1, h_oIs1, e_ePic, h_ePic, n_eIs, n_ePic, n_eSt, sh, hs]
  · simp [Vz0, Vz1, Vz2, Vz3, Vz4, Vz5, Vz6, kx, SZ, beq_self_eq_true, List.contains_cons, List.contains_nil, insL]
include R G in
theorem s_next (hz : zwS (some j12) = true) : wp (ex (cg (n + 20)) (B.hdS 5 law_bd) (EnvL x0 k rows g mode last st j7 (.val (insL (moversM g.states))) j11 j12 j13 j14)) w (fun f w' => ∃ e', f = .nx e' ∧ w' = w ∧ ∃ j12, e' = EnvL x0 k rows g mode last st j7 (.val (insL (moversM g.states))) j11 j12 j13 j14 ∧ zwS (some j12) = true) NoE := by
  simp [law_bd, f_law, bdS, B.hdS, Vz0, Vz1, Vz2, Vz3, Vz4, Vz5, Vz6, kx, SZ, beq_self_eq_true, List.contains_cons, List.contains_nil, d_ePl, q_kind, q_inputs, q_rows, d_eKd, i_eKd, e_eKd, h_eKd, n_sweep, n_twice, n_borrow, d_eRows, x_eRows, l_eRows, t_eRows, d_eSc, x_eSc, l_eSc, d_eDeed, x_eDeed, x_eDeed1, d_eCells, x_eCells, l_eCells, t_eCells, a_eCells, d_eCell, x_eCell0, x_eCell1, x_eCell2, s_eCell, d_eSt, x_eSt0, x_eSt1, x_eSt2, x_eSt3, x_eSt4, b_eSt, d_eSg, x_eSg0, x_eSg1, x_eSg2, b_eSg, d_ePic, i_ePic, d_eIs, i_eIs, o_ePic, o_eIs, o_eSt, od_ePic, od_eIs, od_eSt, oi_ePic, oi_eIs, oi_eSt, i_eSt, i_eCells, e_oIs, e_oIs1, h_oIs1, e_ePic, h_ePic, n_eIs, n_ePic, n_eSt, insL]
  refine wp_forGo0 (fun _ e w' => w' = w ∧ ∃ j12, e = EnvL x0 k rows g mode last st j7 (.val (insL (moversM g.states))) j11 j12 j13 j14 ∧ zwS (some j12) = true) ⟨rfl, j12, rfl, hz⟩ (fun i d e w' hd hi => ?_) fun e w' hi => ?_
  · obtain ⟨rfl, j12, rfl, hz⟩ := hi
    rw [List.getElem?_map] at hd
    obtain ⟨a, ha, rfl⟩ := Option.map_eq_some_iff.mp hd
    obtain ⟨s, hs⟩ := mem_movers.mp (List.mem_of_getElem? ha)
    obtain ⟨sc, dd, c0, H⟩ := G.wf.hand hs
    have q1 := t_next_step (n + 13) k rows g a s sc dd c0 H
    have q2 := l_next (n + 18) k rows g a s sc dd c0 H
    have q3 : callF prg (n + 20) 57 [if isPutM k dd s.ready then .tup [.str s5_put] else .tup [.str s9_look, .int s.now.length], if isPutM k dd s.ready then .tup [.str s5_put] else .tup [.str s9_look, .int s.now.length]] = pure (.bl true) := t_same 1 (n + 17) _ (by
      cases isPutM k dd s.ready
      · exact .tup (by simp) fun x hx => by simp at hx; rcases hx with rfl | rfl; exact .str (by simp); exact .int
      · exact .tup (by simp) fun x hx => by simp at hx; rw [hx]; exact .str (by simp))
    generalize (if isPutM k dd s.ready then D.tup [.str s5_put] else .tup [.str s9_look, .int s.now.length]) = nx at q1 q2 q3
    simp [Vz0, Vz1, Vz2, Vz3, Vz4, Vz5, Vz6, kx, SZ, beq_self_eq_true, List.contains_cons, List.contains_nil, d_ePl, q_kind, q_inputs, q_rows, d_eKd, i_eKd, e_eKd, h_eKd, n_sweep, n_twice, n_borrow, d_eRows, x_eRows, l_eRows, t_eRows, d_eSc, x_eSc, l_eSc, d_eDeed, x_eDeed, x_eDeed1, d_eCells, x_eCells, l_eCells, t_eCells, a_eCells, d_eCell, x_eCell0, x_eCell1, x_eCell2, s_eCell, d_eSt, x_eSt0, x_eSt1, x_eSt2, x_eSt3, x_eSt4, b_eSt, d_eSg, x_eSg0, x_eSg1, x_eSg2, b_eSg, d_ePic, i_ePic, d_eIs, i_eIs, o_ePic, o_eIs, o_eSt, od_ePic, od_eIs, od_eSt, oi_ePic, oi_eIs, oi_eSt, i_eSt, i_eCells, e_oIs, e_oIs1, h_oIs1, e_ePic, h_ePic, n_eIs, n_ePic, n_eSt, insL, q1, q2, q3]
  · obtain ⟨rfl, j12, rfl, hz⟩ := hi
    simp [Vz0, Vz1, Vz2, Vz3, Vz4, Vz5, Vz6, kx, SZ, beq_self_eq_true, List.contains_cons, List.contains_nil]
    exact ⟨j12, ⟨rfl, rfl⟩, hz⟩
end
def TI (x0 : D) (k : Kd) (rows : List (List Deed)) (mode : Int) (st : List Nat) (i : Nat) (e : Ev.Env) (w : Wd) : Prop := HandOk w ∧ ∃ g last j7 j10 j11 j12 j13 j14, Gd k rows (1000 + i) g ∧ e = EnvL x0 k rows g mode last st j7 j10 j11 j12 j13 j14 ∧ zwS (some j12) = true
def TE (x0 : D) (k : Kd) (rows : List (List Deed)) (mode : Int) (st : List Nat) (e : Ev.Env) : Prop := ∃ g last j7 j10 j11 j12 j13 j14, e = EnvL x0 k rows g mode last st j7 j10 j11 j12 j13 j14
theorem s_turn (n : Nat) (x0 : D) (k : Kd) (rows : List (List Deed)) (g : Sg) (mode last : Int) (st : List Nat) (i : Nat) (hi : i < 160) (R : RowsOk rows) (G : Gd k rows (1000 + i) g) (w : Wd) (H : HandOk w) (j7 j10 j11 j12 j13 j14 : Ev.Slot) (hz : zwS (some j12) = true) (Q : Fl → Wd → Prop) (E : EK)
    (h1 : ∀ e w', TI x0 k rows mode st (i + 1) e w' → Q (.nx e) w') (h2 : ∀ e w', TE x0 k rows mode st e → HandOk w' → Q (.bk e) w') : wp (exs (cg (n + 20)) law_bd (EnvL x0 k rows g mode last st j7 j10 j11 j12 j13 j14)) w Q E := by
  have l5 := R.l5
  have ls := G.wf.ls
  have lm := @movers_len g.states
  have e7 : law_bd = .cons (B.hdS 0 law_bd) (.cons (B.hdS 1 law_bd) (.cons (B.hdS 2 law_bd) (.cons (B.hdS 3 law_bd) (.cons (B.hdS 4 law_bd) (.cons (B.hdS 5 law_bd) (B.tlS 6 law_bd)))))) := rfl
  rw [e7]
  refine wp_seq _ (s_able n x0 k rows g mode last st _ R G w j7 j10 j11 j12 j13 j14 hz) ?_
  rintro e w1 ⟨rfl, rfl⟩
  refine wp_seq _ (s_same n x0 k rows g mode last st _ R G w1 j7 j11 j12 j13 j14) ?_
  rintro e w2 ⟨rfl, rfl⟩
  refine wp_seq _ (s_free n x0 k rows g mode last st _ R G w2 j7 j11 j12 j13 j14 hz) ?_
  rintro e w3 ⟨rfl, rfl⟩
  rw [wp_cons]
  have fl := List.length_filter_le (fun h => !decide (h ∈ st)) (moversM g.states)
  have fm : ∀ x ∈ (moversM g.states).filter fun h => !decide (h ∈ st), x ∈ moversM g.states := fun x hx => (List.mem_filter.mp hx).1
  generalize (moversM g.states).filter (fun h => !decide (h ∈ st)) = F at fl fm ⊢
  cases F with
  | nil =>
    simp [law_bd, f_law, bdS, B.hdS, Vz0, Vz1, Vz2, Vz3, Vz4, Vz5, Vz6, kx, SZ, beq_self_eq_true, List.contains_cons, List.contains_nil, d_ePl, q_kind, q_inputs, q_rows, d_eKd, i_eKd, e_eKd, h_eKd, n_sweep, n_twice, n_borrow, d_eRows, x_eRows, l_eRows, t_eRows, d_eSc, x_eSc, l_eSc, d_eDeed, x_eDeed, x_eDeed1, d_eCells, x_eCells, l_eCells, t_eCells, a_eCells, d_eCell, x_eCell0, x_eCell1, x_eCell2, s_eCell, d_eSt, x_eSt0, x_eSt1, x_eSt2, x_eSt3, x_eSt4, b_eSt, d_eSg, x_eSg0, x_eSg1, x_eSg2, b_eSg, d_ePic, i_ePic, d_eIs, i_eIs, o_ePic, o_eIs, o_eSt, od_ePic, od_eIs, od_eSt, oi_ePic, oi_eIs, oi_eSt, i_eSt, i_eCells, e_oIs, e_oIs1, h_oIs1, e_ePic, h_ePic, n_eIs, n_ePic, n_eSt, insL]
    exact h2 _ _ ⟨g, last, _, _, _, _, _, _, rfl⟩ H
  | cons a F =>
    have nz : ¬ ((F.length : Int) + 1 = 0) := by omega
    have st3 : ∀ Q E, (wp (ex (cg (n + 20)) (B.hdS 3 law_bd) (EnvL x0 k rows g mode last st j7 (.val (insL (moversM g.states))) (.val (insL (a :: F))) j12 j13 j14)) w3 Q E) = Q (.nx (EnvL x0 k rows g mode last st j7 (.val (insL (moversM g.states))) (.val (insL (a :: F))) j12 j13 j14)) w3 := fun Q E => by
      simp [law_bd, f_law, bdS, B.hdS, Vz0, Vz1, Vz2, Vz3, Vz4, Vz5, Vz6, kx, SZ, beq_self_eq_true, List.contains_cons, List.contains_nil, d_ePl, q_kind, q_inputs, q_rows, d_eKd, i_eKd, e_eKd, h_eKd, n_sweep, n_twice, n_borrow, d_eRows, x_eRows, l_eRows, t_eRows, d_eSc, x_eSc, l_eSc, d_eDeed, x_eDeed, x_eDeed1, d_eCells, x_eCells, l_eCells, t_eCells, a_eCells, d_eCell, x_eCell0, x_eCell1, x_eCell2, s_eCell, d_eSt, x_eSt0, x_eSt1, x_eSt2, x_eSt3, x_eSt4, b_eSt, d_eSg, x_eSg0, x_eSg1, x_eSg2, b_eSg, d_ePic, i_ePic, d_eIs, i_eIs, o_ePic, o_eIs, o_eSt, od_ePic, od_eIs, od_eSt, oi_ePic, oi_eIs, oi_eSt, i_eSt, i_eCells, e_oIs, e_oIs1, h_oIs1, e_ePic, h_ePic, n_eIs, n_ePic, n_eSt, insL, nz]
    rw [st3, kont_nx]
    refine wp_seq (fun e w' => HandOk w' ∧ ∃ x, x ∈ moversM g.states ∧ e = EnvL x0 k rows g mode (x : Nat) st j7 (.val (insL (moversM g.states))) (.val (insL (a :: F))) j12 j13 j14) ?_ ?_
    · simp only [List.length_cons] at fl
      have q := fun Q E hq => t_chosen (n + 17) (a :: F) (by simp) (by simp only [List.length_cons]; omega) last mode w3 Q E H hq
      simp only [List.map_cons] at q
      simp [law_bd, f_law, bdS, B.hdS, Vz0, Vz1, Vz2, Vz3, Vz4, Vz5, Vz6, kx, SZ, beq_self_eq_true, List.contains_cons, List.contains_nil, d_ePl, q_kind, q_inputs, q_rows, d_eKd, i_eKd, e_eKd, h_eKd, n_sweep, n_twice, n_borrow, d_eRows, x_eRows, l_eRows, t_eRows, d_eSc, x_eSc, l_eSc, d_eDeed, x_eDeed, x_eDeed1, d_eCells, x_eCells, l_eCells, t_eCells, a_eCells, d_eCell, x_eCell0, x_eCell1, x_eCell2, s_eCell, d_eSt, x_eSt0, x_eSt1, x_eSt2, x_eSt3, x_eSt4, b_eSt, d_eSg, x_eSg0, x_eSg1, x_eSg2, b_eSg, d_ePic, i_ePic, d_eIs, i_eIs, o_ePic, o_eIs, o_eSt, od_ePic, od_eIs, od_eSt, oi_ePic, oi_eIs, oi_eSt, i_eSt, i_eCells, e_oIs, e_oIs1, h_oIs1, e_ePic, h_ePic, n_eIs, n_ePic, n_eSt, insL]
      refine q _ _ fun x w' hx H' => ?_
      exact ⟨H', x, fm x hx, rfl⟩
    rintro e w4 ⟨H4, x, hx, rfl⟩
    refine wp_seq _ (s_next n x0 k rows g mode (x : Int) st _ R G w4 j7 _ j12 j13 j14 hz) ?_
    rintro e w5 ⟨rfl, j12', rfl, hz'⟩
    obtain ⟨s, hs⟩ := mem_movers.mp hx
    obtain ⟨sc, dd, c0, Hh⟩ := G.wf.hand hs
    have q1 := l_stepped (n + 18) k rows g x s sc dd c0 R G.wf Hh (G.fq s (List.mem_of_getElem? hs))
    have q2 := t_step (n + 13) k rows g x s sc dd c0 R G.wf Hh
    have G2 := G.step R (by omega) Hh
    have q3 := t_same 8 (n + 10) (eSg (stepC k g x s sc dd c0)) (nd_sg R G2)
    obtain ⟨r1, r2⟩ := rep_sg R G (by omega)
    have sp := B.strOk_shape r2 r2
    simp [law_bd, f_law, bdS, B.hdS, B.tlS, Vz0, Vz1, Vz2, Vz3, Vz4, Vz5, Vz6, kx, SZ, beq_self_eq_true, List.contains_cons, List.contains_nil, d_ePl, q_kind, q_inputs, q_rows, d_eKd, i_eKd, e_eKd, h_eKd, n_sweep, n_twice, n_borrow, d_eRows, x_eRows, l_eRows, t_eRows, d_eSc, x_eSc, l_eSc, d_eDeed, x_eDeed, x_eDeed1, d_eCells, x_eCells, l_eCells, t_eCells, a_eCells, d_eCell, x_eCell0, x_eCell1, x_eCell2, s_eCell, d_eSt, x_eSt0, x_eSt1, x_eSt2, x_eSt3, x_eSt4, b_eSt, d_eSg, x_eSg0, x_eSg1, x_eSg2, b_eSg, d_ePic, i_ePic, d_eIs, i_eIs, o_ePic, o_eIs, o_eSt, od_ePic, od_eIs, od_eSt, oi_ePic, oi_eIs, oi_eSt, i_eSt, i_eCells, e_oIs, e_oIs1, h_oIs1, e_ePic, h_ePic, n_eIs, n_ePic, n_eSt, q1, q2, q3, r1, sp]
    exact h1 _ _ ⟨H4, _, _, _, _, _, _, _, _, G2, rfl, hz'⟩
end K02

set_option maxRecDepth 100000
set_option maxHeartbeats 1000000
namespace K02
open PySem Ev
/-! ### the law, joined -/
theorem law_loop (n : Nat) (x0 : D) (k : Kd) (rows : List (List Deed)) (mode : Int) (st : List Nat) (R : RowsOk rows) (w : Wd) (H : HandOk w) : wp (ex (cg (n + 20)) (B.hdS 8 f_law.body) (EnvL x0 k rows (begunM rows) mode (-1) st .un .un .un .un .un .un)) w (fun f w' => ∃ e', f = .nx e' ∧ TE x0 k rows mode st e') NoE := by
  have e8 : B.hdS 8 f_law.body = .for (.n 7) (.rng (.cons (.call 55 (.cons (.v 1) (.cons (.lst (.cons (.k (.int 10)) (.cons (.k (.int 40)) (.cons (.k (.int 160)) .nil)))) .nil))) .nil)) law_bd := rfl
  rw [e8, wp_for_g]
  simp only [we_rng, we_cons, we_call_g, nb_call]
  simp [Vz0, Vz1, Vz2, Vz3, Vz4, Vz5, Vz6, kx, SZ, beq_self_eq_true, List.contains_cons, List.contains_nil]
  refine B.t_pickN (n + 18) [10, 40, 160] _ rfl _ _ _ H (by simp) (by simp) fun most w3 hmo H3 => ?_
  have h160 : most ≤ 160 := by simp at hmo; omega
  have rg : rngOk (most : Int) := rngOk_nat (by omega)
  simp [Vz0, Vz1, Vz2, Vz3, Vz4, Vz5, Vz6, kx, SZ, beq_self_eq_true, List.contains_cons, List.contains_nil, rg, rngD0]
  refine wp_forGo0 (TI x0 k rows mode st) ⟨H3, begunM rows, -1, _, _, _, _, _, _, gd_begun k R, rfl, rfl⟩ (fun i d' e w' hd hi => ?_) fun e w' hi => ?_
  · obtain ⟨H2, g, last, j7, j10, j11, j12, j13, j14, G, rfl, hz⟩ := hi
    rw [List.getElem?_map] at hd
    obtain ⟨a, ha, rfl⟩ := Option.map_eq_some_iff.mp hd
    have hi2 : i < most := by simpa using (List.getElem?_eq_some_iff.mp ha).1
    refine ⟨EnvL x0 k rows g mode last st (.val (.int (a : Int))) j10 j11 j12 j13 j14, by simp [Vz0, Vz1, Vz2, Vz3, Vz4, Vz5, Vz6, kx, SZ, beq_self_eq_true, List.contains_cons, List.contains_nil], ?_⟩
    refine s_turn n x0 k rows g mode last st i (by omega) R G w' H2 _ j10 j11 j12 j13 j14 hz _ _ (fun e w' h => h) fun e w' h _ => ?_
    exact ⟨e, rfl, h⟩
  · obtain ⟨H2, g, last, j7, j10, j11, j12, j13, j14, G, rfl, hz⟩ := hi
    exact ⟨_, rfl, g, last, _, _, _, _, _, _, rfl⟩
theorem l_first (n : Nat) (rows : List (List Deed)) (R : RowsOk rows) : callF prg (n + 1) 60 [eRows rows] = pure (eSg (begunM rows)) := by
  refine eq_pure fun w => ?_
  rw [c__law_first]
  have l1 := R.l1
  have l5 := R.l5
  simp [f__law_first, Vz0, Vz1, Vz2, Vz3, Vz4, Vz5, Vz6, kx, SZ, beq_self_eq_true, List.contains_cons, List.contains_nil, d_ePl, q_kind, q_inputs, q_rows, d_eKd, i_eKd, e_eKd, h_eKd, n_sweep, n_twice, n_borrow, d_eRows, x_eRows, l_eRows, t_eRows, d_eSc, x_eSc, l_eSc, d_eDeed, x_eDeed, x_eDeed1, d_eCells, x_eCells, l_eCells, t_eCells, a_eCells, d_eCell, x_eCell0, x_eCell1, x_eCell2, s_eCell, d_eSt, x_eSt0, x_eSt1, x_eSt2, x_eSt3, x_eSt4, b_eSt, d_eSg, x_eSg0, x_eSg1, x_eSg2, b_eSg, d_ePic, i_ePic, d_eIs, i_eIs, o_ePic, o_eIs, o_eSt, od_ePic, od_eIs, od_eSt, oi_ePic, oi_eIs, oi_eSt, i_eSt, i_eCells, e_oIs, e_oIs1, h_oIs1, e_ePic, h_ePic, n_eIs, n_ePic, n_eSt]
  refine ⟨by omega, wp_lc1 eSc (fun sc => eO eSt (freshM sc 0)) rows (fun _ => rfl) (fun a _ => ?_) ?_⟩
  · unfold freshM
    by_cases z : 0 < a.length
    · simp [Vz0, Vz1, Vz2, Vz3, Vz4, Vz5, Vz6, kx, SZ, beq_self_eq_true, List.contains_cons, List.contains_nil, d_ePl, q_kind, q_inputs, q_rows, d_eKd, i_eKd, e_eKd, h_eKd, n_sweep, n_twice, n_borrow, d_eRows, x_eRows, l_eRows, t_eRows, d_eSc, x_eSc, l_eSc, d_eDeed, x_eDeed, x_eDeed1, d_eCells, x_eCells, l_eCells, t_eCells, a_eCells, d_eCell, x_eCell0, x_eCell1, x_eCell2, s_eCell, d_eSt, x_eSt0, x_eSt1, x_eSt2, x_eSt3, x_eSt4, b_eSt, d_eSg, x_eSg0, x_eSg1, x_eSg2, b_eSg, d_ePic, i_ePic, d_eIs, i_eIs, o_ePic, o_eIs, o_eSt, od_ePic, od_eIs, od_eSt, oi_ePic, oi_eIs, oi_eSt, i_eSt, i_eCells, e_oIs, e_oIs1, h_oIs1, e_ePic, h_ePic, n_eIs, n_ePic, n_eSt, z, eO, eSt, eCells]
    · simp [Vz0, Vz1, Vz2, Vz3, Vz4, Vz5, Vz6, kx, SZ, beq_self_eq_true, List.contains_cons, List.contains_nil, d_ePl, q_kind, q_inputs, q_rows, d_eKd, i_eKd, e_eKd, h_eKd, n_sweep, n_twice, n_borrow, d_eRows, x_eRows, l_eRows, t_eRows, d_eSc, x_eSc, l_eSc, d_eDeed, x_eDeed, x_eDeed1, d_eCells, x_eCells, l_eCells, t_eCells, a_eCells, d_eCell, x_eCell0, x_eCell1, x_eCell2, s_eCell, d_eSt, x_eSt0, x_eSt1, x_eSt2, x_eSt3, x_eSt4, b_eSt, d_eSg, x_eSg0, x_eSg1, x_eSg2, b_eSg, d_ePic, i_ePic, d_eIs, i_eIs, o_ePic, o_eIs, o_eSt, od_ePic, od_eIs, od_eSt, oi_ePic, oi_eIs, oi_eSt, i_eSt, i_eCells, e_oIs, e_oIs1, h_oIs1, e_ePic, h_ePic, n_eIs, n_ePic, n_eSt, z, eO]
  · simp [Vz0, Vz1, Vz2, Vz3, Vz4, Vz5, Vz6, kx, SZ, beq_self_eq_true, List.contains_cons, List.contains_nil, d_ePl, q_kind, q_inputs, q_rows, d_eKd, i_eKd, e_eKd, h_eKd, n_sweep, n_twice, n_borrow, d_eRows, x_eRows, l_eRows, t_eRows, d_eSc, x_eSc, l_eSc, d_eDeed, x_eDeed, x_eDeed1, d_eCells, x_eCells, l_eCells, t_eCells, a_eCells, d_eCell, x_eCell0, x_eCell1, x_eCell2, s_eCell, d_eSt, x_eSt0, x_eSt1, x_eSt2, x_eSt3, x_eSt4, b_eSt, d_eSg, x_eSg0, x_eSg1, x_eSg2, b_eSg, d_ePic, i_ePic, d_eIs, i_eIs, o_ePic, o_eIs, o_eSt, od_ePic, od_eIs, od_eSt, oi_ePic, oi_eIs, oi_eSt, i_eSt, i_eCells, e_oIs, e_oIs1, h_oIs1, e_ePic, h_ePic, n_eIs, n_ePic, n_eSt]
    refine ⟨⟨by omega, by omega⟩, ?_⟩
    simp [eSg, begunM, eCells, eCell, eO, eTold, Function.comp_def]
def StI (i : Nat) (acc : List D) (w : Wd) : Prop := HandOk w ∧ ∃ st : List Nat, acc = st.map fun (h : Nat) => .int (h : Int)
theorem law_wp (ns : List Int) : wp (lawF prg 20 [.scr ns]) [] (fun d _ => d = .bl true) NoE := by
  rw [c_law, wp_endF]
  have e7 : f_law.body = .cons (B.hdS 0 f_law.body) (.cons (B.hdS 1 f_law.body) (.cons (B.hdS 2 f_law.body) (.cons (B.hdS 3 f_law.body) (.cons (B.hdS 4 f_law.body) (.cons (B.hdS 5 f_law.body) (.cons (B.hdS 6 f_law.body) (.cons (B.hdS 7 f_law.body) (.cons (B.hdS 8 f_law.body) (B.tlS 9 f_law.body))))))))) := rfl
  rw [e7]
  refine wp_seq (fun e w' => HandOk w' ∧ e = [.val (.scr ns), .val (.cel 0), .un, .un, .un, .un, .un, .un, .un, .un, .un, .un, .un, .un, .un]) ?_ ?_
  · simp [f_law, B.hdS, Vz0, Vz1, Vz2, Vz3, Vz4, Vz5, Vz6, kx, SZ, beq_self_eq_true, List.contains_cons, List.contains_nil]
    exact B.t_hand 19 ns _ _ fun w H => ⟨rfl, H⟩
  rintro e w ⟨H, rfl⟩
  refine wp_seq (fun e w' => HandOk w' ∧ ∃ k rows, RowsOk rows ∧ B.PlayOk (.tup [eKd k, eRows rows]) ∧ e = [.val (.scr ns), .val (.cel 0), .un, .un, .un, .un, .un, .un, .val (eKd k), .val (eRows rows), .un, .un, .un, .un, .un]) ?_ ?_
  · simp [f_law, B.hdS, Vz0, Vz1, Vz2, Vz3, Vz4, Vz5, Vz6, kx, SZ, beq_self_eq_true, List.contains_cons, List.contains_nil]
    refine t_manner2 16 _ _ _ H fun k rows w2 R hP H2 => ?_
    simp [Vz0, Vz1, Vz2, Vz3, Vz4, Vz5, Vz6, kx, SZ, beq_self_eq_true, List.contains_cons, List.contains_nil]
    exact ⟨H2, k, rows, R, hP, rfl, rfl⟩
  rintro e w2 ⟨H2, k, rows, R, hP, rfl⟩
  have qp := t_play 11 k rows hP
  refine wp_seq (fun e w' => w' = w2 ∧ e = [.val (.scr ns), .val (.cel 0), .val (ePl k rows), .un, .un, .un, .un, .un, .val (eKd k), .val (eRows rows), .un, .un, .un, .un, .un]) ?_ ?_
  · simp [f_law, B.hdS, Vz0, Vz1, Vz2, Vz3, Vz4, Vz5, Vz6, kx, SZ, beq_self_eq_true, List.contains_cons, List.contains_nil, d_ePl, q_kind, q_inputs, q_rows, d_eKd, i_eKd, e_eKd, h_eKd, n_sweep, n_twice, n_borrow, d_eRows, x_eRows, l_eRows, t_eRows, d_eSc, x_eSc, l_eSc, d_eDeed, x_eDeed, x_eDeed1, d_eCells, x_eCells, l_eCells, t_eCells, a_eCells, d_eCell, x_eCell0, x_eCell1, x_eCell2, s_eCell, d_eSt, x_eSt0, x_eSt1, x_eSt2, x_eSt3, x_eSt4, b_eSt, d_eSg, x_eSg0, x_eSg1, x_eSg2, b_eSg, d_ePic, i_ePic, d_eIs, i_eIs, o_ePic, o_eIs, o_eSt, od_ePic, od_eIs, od_eSt, oi_ePic, oi_eIs, oi_eSt, i_eSt, i_eCells, e_oIs, e_oIs1, h_oIs1, e_ePic, h_ePic, n_eIs, n_ePic, n_eSt, qp]
  rintro e w3 ⟨rfl, rfl⟩
  have qf := l_first 19 rows R
  refine wp_seq (fun e w' => w' = w3 ∧ e = [.val (.scr ns), .val (.cel 0), .val (ePl k rows), .val (eSg (begunM rows)), .un, .un, .un, .un, .val (eKd k), .val (eRows rows), .un, .un, .un, .un, .un]) ?_ ?_
  · simp [f_law, B.hdS, Vz0, Vz1, Vz2, Vz3, Vz4, Vz5, Vz6, kx, SZ, beq_self_eq_true, List.contains_cons, List.contains_nil, d_ePl, q_kind, q_inputs, q_rows, d_eKd, i_eKd, e_eKd, h_eKd, n_sweep, n_twice, n_borrow, d_eRows, x_eRows, l_eRows, t_eRows, d_eSc, x_eSc, l_eSc, d_eDeed, x_eDeed, x_eDeed1, d_eCells, x_eCells, l_eCells, t_eCells, a_eCells, d_eCell, x_eCell0, x_eCell1, x_eCell2, s_eCell, d_eSt, x_eSt0, x_eSt1, x_eSt2, x_eSt3, x_eSt4, b_eSt, d_eSg, x_eSg0, x_eSg1, x_eSg2, b_eSg, d_ePic, i_ePic, d_eIs, i_eIs, o_ePic, o_eIs, o_eSt, od_ePic, od_eIs, od_eSt, oi_ePic, oi_eIs, oi_eSt, i_eSt, i_eCells, e_oIs, e_oIs1, h_oIs1, e_ePic, h_ePic, n_eIs, n_ePic, n_eSt, qf]
  rintro e w4 ⟨rfl, rfl⟩
  have q1 := t_first_standing 15 k rows ⟨R.l1, R.l5⟩
  have q2 := t_same 8 10 (eSg (begunM rows)) (nd_sg R (gd_begun k R))
  refine wp_seq (fun e w' => w' = w4 ∧ e = [.val (.scr ns), .val (.cel 0), .val (ePl k rows), .val (eSg (begunM rows)), .un, .un, .un, .un, .val (eKd k), .val (eRows rows), .un, .un, .un, .un, .un]) ?_ ?_
  · simp [f_law, B.hdS, Vz0, Vz1, Vz2, Vz3, Vz4, Vz5, Vz6, kx, SZ, beq_self_eq_true, List.contains_cons, List.contains_nil, d_ePl, q_kind, q_inputs, q_rows, d_eKd, i_eKd, e_eKd, h_eKd, n_sweep, n_twice, n_borrow, d_eRows, x_eRows, l_eRows, t_eRows, d_eSc, x_eSc, l_eSc, d_eDeed, x_eDeed, x_eDeed1, d_eCells, x_eCells, l_eCells, t_eCells, a_eCells, d_eCell, x_eCell0, x_eCell1, x_eCell2, s_eCell, d_eSt, x_eSt0, x_eSt1, x_eSt2, x_eSt3, x_eSt4, b_eSt, d_eSg, x_eSg0, x_eSg1, x_eSg2, b_eSg, d_ePic, i_ePic, d_eIs, i_eIs, o_ePic, o_eIs, o_eSt, od_ePic, od_eIs, od_eSt, oi_ePic, oi_eIs, oi_eSt, i_eSt, i_eCells, e_oIs, e_oIs1, h_oIs1, e_ePic, h_ePic, n_eIs, n_ePic, n_eSt, q1, q2]
  rintro e w5 ⟨rfl, rfl⟩
  refine wp_seq (fun e w' => HandOk w' ∧ ∃ mode : Int, e = [.val (.scr ns), .val (.cel 0), .val (ePl k rows), .val (eSg (begunM rows)), .val (.int mode), .un, .un, .un, .val (eKd k), .val (eRows rows), .un, .un, .un, .un, .un]) ?_ ?_
  · simp [f_law, B.hdS, Vz0, Vz1, Vz2, Vz3, Vz4, Vz5, Vz6, kx, SZ, beq_self_eq_true, List.contains_cons, List.contains_nil]
    refine B.t_take 19 _ _ _ _ H2 (by omega) (by omega) fun r w' hr H' => ?_
    exact ⟨H', _, rfl⟩
  rintro e w6 ⟨H6, mode, rfl⟩
  refine wp_seq (fun e w' => HandOk w' ∧ ∃ st : List Nat, e = [.val (.scr ns), .val (.cel 0), .val (ePl k rows), .val (eSg (begunM rows)), .val (.int mode), .val (insL st), .un, .un, .val (eKd k), .val (eRows rows), .un, .un, .un, .un, .un]) ?_ ?_
  · have l5 := R.l5
    have rg : rngOk (rows.length : Int) := rngOk_nat (by omega)
    simp [f_law, B.hdS, Vz0, Vz1, Vz2, Vz3, Vz4, Vz5, Vz6, kx, SZ, beq_self_eq_true, List.contains_cons, List.contains_nil, d_ePl, q_kind, q_inputs, q_rows, d_eKd, i_eKd, e_eKd, h_eKd, n_sweep, n_twice, n_borrow, d_eRows, x_eRows, l_eRows, t_eRows, d_eSc, x_eSc, l_eSc, d_eDeed, x_eDeed, x_eDeed1, d_eCells, x_eCells, l_eCells, t_eCells, a_eCells, d_eCell, x_eCell0, x_eCell1, x_eCell2, s_eCell, d_eSt, x_eSt0, x_eSt1, x_eSt2, x_eSt3, x_eSt4, b_eSt, d_eSg, x_eSg0, x_eSg1, x_eSg2, b_eSg, d_ePic, i_ePic, d_eIs, i_eIs, o_ePic, o_eIs, o_eSt, od_ePic, od_eIs, od_eSt, oi_ePic, oi_eIs, oi_eSt, i_eSt, i_eCells, e_oIs, e_oIs1, h_oIs1, e_ePic, h_ePic, n_eIs, n_ePic, n_eSt, rg, rngD0]
    refine ⟨by omega, B.wp_lcGoC StI _ 0 [] _ _ ⟨H6, [], rfl⟩ (fun i acc w d hd hi => ?_) fun ys w hi => ?_⟩
    · obtain ⟨Hi, st, rfl⟩ := hi
      rw [List.getElem?_map] at hd
      obtain ⟨a, ha, rfl⟩ := Option.map_eq_some_iff.mp hd
      simp [Vz0, Vz1, Vz2, Vz3, Vz4, Vz5, Vz6, kx, SZ, beq_self_eq_true, List.contains_cons, List.contains_nil]
      refine B.t_take 19 _ _ _ _ Hi (by omega) (by omega) fun r w' hr H' => ?_
      by_cases z : r = 0
      · simp [Vz0, Vz1, Vz2, Vz3, Vz4, Vz5, Vz6, kx, SZ, beq_self_eq_true, List.contains_cons, List.contains_nil, z]
        exact ⟨H', st ++ [a], by simp⟩
      · simp [Vz0, Vz1, Vz2, Vz3, Vz4, Vz5, Vz6, kx, SZ, beq_self_eq_true, List.contains_cons, List.contains_nil, z]
        exact ⟨H', st, rfl⟩
    · obtain ⟨Hi, st, e⟩ := hi
      simp at e
      exact ⟨Hi, st, by rw [e]; rfl⟩
  rintro e w7 ⟨H7, st, rfl⟩
  refine wp_seq (fun e w' => w' = w7 ∧ e = EnvL (.scr ns) k rows (begunM rows) mode (-1) st .un .un .un .un .un .un) ?_ ?_
  · simp [f_law, B.hdS, Vz0, Vz1, Vz2, Vz3, Vz4, Vz5, Vz6, kx, SZ, beq_self_eq_true, List.contains_cons, List.contains_nil]
  rintro e w8 ⟨rfl, rfl⟩
  refine wp_seq (fun e w' => TE (.scr ns) k rows mode st e) (law_loop 0 _ k rows mode st R w8 H7) ?_
  rintro e w9 ⟨g, last, j7, j10, j11, j12, j13, j14, rfl⟩
  have q9 := t_same 4 14 (.tup [eKd k, eRows rows]) (by
    refine .tup (by simp) fun x hx => ?_
    simp only [List.mem_cons, List.not_mem_nil, or_false] at hx
    rcases hx with rfl | rfl
    · cases k <;> exact .str (by simp)
    · exact nd_rows R)
  simp [f_law, B.tlS, Vz0, Vz1, Vz2, Vz3, Vz4, Vz5, Vz6, kx, SZ, beq_self_eq_true, List.contains_cons, List.contains_nil, d_ePl, q_kind, q_inputs, q_rows, d_eKd, i_eKd, e_eKd, h_eKd, n_sweep, n_twice, n_borrow, d_eRows, x_eRows, l_eRows, t_eRows, d_eSc, x_eSc, l_eSc, d_eDeed, x_eDeed, x_eDeed1, d_eCells, x_eCells, l_eCells, t_eCells, a_eCells, d_eCell, x_eCell0, x_eCell1, x_eCell2, s_eCell, d_eSt, x_eSt0, x_eSt1, x_eSt2, x_eSt3, x_eSt4, b_eSt, d_eSg, x_eSg0, x_eSg1, x_eSg2, b_eSg, d_ePic, i_ePic, d_eIs, i_eIs, o_ePic, o_eIs, o_eSt, od_ePic, od_eIs, od_eSt, oi_ePic, oi_eIs, oi_eSt, i_eSt, i_eCells, e_oIs, e_oIs1, h_oIs1, e_ePic, h_ePic, n_eIs, n_ePic, n_eSt, q9]
theorem law_ok (ns : List Int) : ∃ w, lawF prg 20 [.scr ns] [] = .ok (.bl true) w := by
  have h := law_wp ns
  unfold wp at h
  cases z : lawF prg 20 [.scr ns] [] with
  | ok d w =>
    rw [z] at h
    exact ⟨w, by rw [show d = .bl true from h]⟩
  | exc c x w => rw [z] at h; exact h.elim
  | stk => rw [z] at h; exact h.elim
end K02

set_option maxRecDepth 100000
set_option maxHeartbeats 0
namespace K02
open PySem PySem.Spec PyProof.Rows L2 Ev
theorem fd_one {K : PySem.W.Frag} {x qual : Str} {ps : Arguments} {body : List Stmt} {scope : Scope} {f : Addr} {fd fd' : FuncData} (A : FunD K x qual ps body scope [] [] f fd) (B : FunD K x qual ps body scope [] [] f fd') : fd' = fd := by
  obtain ⟨_, _, _, _, _, _, _, _, _, _, _, h1, _⟩ := A.ex
  obtain ⟨_, _, _, _, _, _, _, _, _, _, _, h2, _⟩ := B.ex
  rw [h1] at h2
  injection h2 with h2
  injection h2 with _ _ h3
  injection h3 with h3
  exact h3.symm
theorem facts {P : Program} {w : World} {K : PySem.W.Frag} {h : Heap} {mg : Str → Option Value} {f : Addr} (X : K.In h) (G : h.Ns mainGlobals mg) (hfa : mg (Str.ofString "law") = some (.ref f)) (c : obsM dt prg fn K = valM fn) (s : Shared) (base : Heap) (H : Hp) (a : Addr) (ns : List Int)
    (hl : ns.length ≤ 63) (hO : Only H) (hS : SqL K H a (ns.map V.int)) (e0 : Env0 P w K mg base callerA [] s H) : codeAny (model P w) callerA (.call (.ref f) ⟨[.ref a], []⟩) (CR (L2.CX P w) [] P w H s (fun v _ => v = .bl true) fun _ _ _ => False) s := by
  have F : PF prg (dt.G K) P w mg ((fn.zip names).map fun p => afOf p.1 p.2) dt.T := says_pf X G c (by kernel_rfl) (by kernel_rfl) (by kernel_rfl)
    (fun c k hk => by
      match c, hk with
      | 0, _ => exact Nat.lt_succ_self 0
      | n + 1, hk =>
        have e : prg.cls (n + 1) = none := rfl
        rw [e] at hk
        cases hk) chk chkx chkr
  have e1 : mg (Str.ofString "law") = some (.ref ((dt.G K).fa 68)) := (F.fnT _ _ (by kernel_rfl)).1
  rw [hfa] at e1
  have e2 : f = (dt.G K).fa 68 := by
    have := Option.some.inj e1
    injection this
  subst e2
  obtain ⟨a0, ha⟩ : ∃ a0, ((fn.zip names).map fun p => afOf p.1 p.2)[68]? = some a0 := by
    have q : (((fn.zip names).map fun p => afOf p.1 p.2)[68]?).isSome = true := by kernel_rfl
    exact Option.isSome_iff_exists.mp q
  obtain ⟨f0, hf⟩ : ∃ f0, prg.fns[68]? = some f0 := ⟨f_law, rfl⟩
  obtain ⟨fd, D⟩ := F.fn _ a0 ha
  obtain ⟨_, h1, h2, h3, h4, _⟩ := fnScope_of (F.chk _ a0 f0 ha hf)
  have eN : a0.N.take f0.np = [Str.ofString "_law_script_here"] := by
    have q : ((((fn.zip names).map fun p => afOf p.1 p.2)[68]?).map fun a => a.N.take 1) = some [Str.ofString "_law_script_here"] := by kernel_rfl
    rw [ha] at q
    have q2 : (prg.fns[68]?).map (fun f => f.np) = some 1 := by kernel_rfl
    rw [hf] at q2
    have q3 : f0.np = 1 := Option.some.inj q2
    rw [q3]
    exact Option.some.inj q
  have hb : BindsTo s fd ⟨[.ref a], []⟩ ((a0.N.take f0.np).zip [.ref a]) := by
    rw [eN] at h1 ⊢
    exact FunD.bindsA (ps := [Str.ofString "_law_script_here"]) D (fun kV doc pm an cdv ct us hl => plain_binds h1 (by simp) hl) s [.ref a] rfl
  refine law_run (base := base) (vs := [V.ref a]) F rfl (by kernel_rfl) ha hf D 20 ⟨rfl, by decide, by decide⟩ rfl e0 hb (.cons rfl .nil) ?_
  exact law_sp (Nat.le_trans hl (by decide)) hO hS (law_ok ns)
/-- the law's call, over a head by facts -/
theorem walk_r {l : PySem.W.OpenLaw} {n : Nat} {q : Program} {loose : List Str} {XP : (Str → Option Value) → Heap → Prop} {YP : World → Heap → Prop} {d : DefRec}
    (hn : l.most = some n) (h2 : n ≤ sizeLine) (h3 : d.params.defaults = [])
    (F : ∀ (w : World) (mg : Str → Option Value) (fa : Addr) (h : Heap), YP w h → h.Ns mainGlobals mg → mg d.name = some (.ref fa) → ∃ (K : PySem.W.Frag), K.In h ∧
      ∀ (s : Shared) (base : Heap) (H : Hp) (a : Addr) (ns : List Int), ns.length ≤ n → Only H → SqL K H a (ns.map V.int) → Env0 l.prog w K mg base callerA [] s H → codeAny (model l.prog w) callerA (.call (.ref fa) ⟨[.ref a], []⟩) (CR (L2.CX l.prog w) [] l.prog w H s (fun v _ => v = .bl true) fun _ _ _ => False) s)
    (hC : ∀ (w : World) (H : Hp) (s : Shared) (e : Value) (s' : Shared), L2.CX l.prog w [] H s (fun _ _ _ => False) e s' → False) : PySem.W.WalkO q loose XP YP l.row.toRowW d [] fun f vs => PySem.call f vs :=
  Att.attach_call hn h3 fun w _ s1 mg _ fa _ _ _ _ a _ ns G Y _ _ _ m1 m2 m3 m4 m5 => by
    obtain ⟨K, KX, hF⟩ := F w mg fa _ Y G.T.g m1
    exact law_out KX G.T.g G.T.b G.T.builtins G.T.nolimit m5 m2 m3 (Nat.le_trans m4 h2) (fun base H e0 hO hS => hF s1 base H a ns m4 hO hS e0) fun H e s' => hC w H s1 e s'
theorem hCX {P : Program} {w : World} (H : Hp) (s : Shared) (e : Value) (s' : Shared) (h : L2.CX P w [] H s (fun _ _ _ => False) e s') : False := by
  obtain ⟨_, _, _, _, _, _, _, _, _, _, _, _, z⟩ := h
  exact z
end K02
open PySem PySem.W PySem.Calls PyProof.Rows
theorem PySem.Challenge.cw_onepicture_k02_whole_manners_step_by_ste_holds : PySem.Challenge.rw_onepicture_k02_whole_manners_step_by_ste.Holds := by
  w_on; o_law
  refine HandSHeadRun.head_any (r := OpenLaw.row PySem.Challenge.rw_onepicture_k02_whole_manners_step_by_ste) (q := view (OpenLaw.row PySem.Challenge.rw_onepicture_k02_whole_manners_step_by_ste).prog [96]) (H := K02.hk) (ob := K02.ob) (M := 6000) (loose := K02.loose) (d := HandSHeadRun.topDef (OpenLaw.row PySem.Challenge.rw_onepicture_k02_whole_manners_step_by_ste).prog 96) (kwd := []) K02.ob_eq
    (by kernel_rfl) (fun s => by kernel_rfl) K02.run (by kernel_rfl) (by kernel_rfl) (by kernel_rfl) (by rfl) (by first | assumption | decide +kernel) (by decide +kernel) ⟨rfl, rfl, rfl, rfl, rfl, by decide +kernel⟩ ?hw ?hc
  case hw => w_witness2
  case hc =>
    refine K02.walk_r (l := PySem.Challenge.rw_onepicture_k02_whole_manners_step_by_ste) (n := 63) rfl (by decide) (by kernel_rfl) ?F fun _ => K02.hCX
    intro w mg fa h Y G m0
    obtain ⟨K, KX, c⟩ := Y
    have m1 : mg (PySem.Str.ofString "law") = some (.ref fa) := by
      have e : (HandSHeadRun.topDef (OpenLaw.row PySem.Challenge.rw_onepicture_k02_whole_manners_step_by_ste).prog 96).name = PySem.Str.ofString "law" := by kernel_rfl
      rw [← e]
      exact m0
    exact ⟨K, KX, fun s base H a ns hl hO hS e0 => K02.facts (P := (PySem.Challenge.rw_onepicture_k02_whole_manners_step_by_ste).prog) (w := w) KX G m1 c s base H a ns hl hO hS e0⟩
